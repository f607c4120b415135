import PyProof.Rows.All
import Wide.All
import OpenK.AllK
import Wide.FinOn
import HandS.ForMost
import HandS.ForExc
import HandS.CallSlots
import HandS.TupAny
import HandS.IsInst
import HandS.Wide
import HandS.Deep
import HandS.ExcInit
import HandS.ExcField
import HandS.TryOnly
import HandS.Text
import HandS.Replace
import HandS.ExcIs
import KE.KExcIs
import PyProof.StrLawsTight
import KE.IntTextText
import KE.KIntText
import PySem.Challenge.RW_rowferry_k04_written_names
set_option Elab.async false
set_option linter.all false
set_option maxRecDepth 100000
/-! A small value semantics over the hand layer: environments of data, owned lists, outcomes. -/
namespace Den
open PySem PySem.Spec L2

abbrev D := PyData
/-- a local's content: data that nothing here changes, a list of the frame's own, or an object that only its readers know -/
inductive Slot where
  | sh (d : D) | ow (l : List D) | tk
def Slot.data : Slot → D
  | .sh d => d
  | .ow l => .list l
  | .tk => .dict []
abbrev Env := List (Option Slot)
inductive Out (α : Type) where
  | ok (a : α) | exc (c : Str) (fs : List (Str × D)) (ρ : Env) | bad
def Out.bind {α β : Type} (x : Out α) (f : α → Out β) : Out β := match x with
  | .ok a => f a
  | .exc c fs ρ => .exc c fs ρ
  | .bad => .bad
/-- a statement's outcome -/
inductive Res where
  | nx (ρ : Env) | ret (r : Slot) (ρ : Env) | brk (ρ : Env) | ct (ρ : Env) | exc (c : Str) (fs : List (Str × D)) (ρ : Env) | bad

/-! ### heaps -/
def Ex (H H' : Hp) : Prop := ∀ a o, H a = some o → H' a = some o
theorem Ex.refl (H : Hp) : Ex H H := fun _ _ h => h
theorem Ex.trans {H H1 H2 : Hp} (a : Ex H H1) (b : Ex H1 H2) : Ex H H2 := fun x o h => b x o (a x o h)
theorem Ex.new {H : Hp} {p : Addr} {o : HO} (h : H p = none) : Ex H (upd H p o) := fun a u e => by
  rw [upd_ne (ne_of_none e h)]
  exact e
theorem Ex.free {H H' : Hp} {p : Addr} (e : Ex H H') (h : H' p = none) : H p = none := by
  cases h1 : H p with
  | none => rfl
  | some o => rw [e p o h1] at h; cases h
theorem Ex.both {H H' : Hp} {p : Addr} {o : HO} (e : Ex H H') : Ex (upd H p o) (upd H' p o) := fun a u h => by
  by_cases ha : a = p
  · subst ha; rw [upd_same] at h ⊢; exact h
  · rw [upd_ne ha] at h ⊢; exact e a u h
theorem Ex.put {S H : Hp} {p : Addr} {o : HO} (e : Ex S H) (h : S p = none) : Ex S (upd H p o) := fun a u ha => by
  rw [upd_ne (ne_of_none ha h)]
  exact e a u ha
theorem Ex.frz {S H : Hp} {p : Addr} {o : HO} (e : Ex S H) (h : H p = some o) : Ex (upd S p o) H := fun a u ha => by
  by_cases q : a = p
  · subst q; rw [upd_same] at ha; cases ha; exact h
  · rw [upd_ne q] at ha; exact e a u ha

section
variable {K : PySem.W.Frag}
theorem Rd.mono {H H' : Hp} {a : Addr} {u : HO} (e : Ex H H') (h : Rd H a u) : Rd H' a u := by
  rcases h with h | ⟨o, h⟩
  · exact .inl (e a _ h)
  · exact .inr ⟨o, e a _ h⟩
theorem sqL_mono {H H' : Hp} {a : Addr} {xs : List V} (e : Ex H H') (h : SqL K H a xs) : SqL K H' a xs := by
  rcases h with h | h
  · exact .inl (Rd.mono e h)
  · exact .inr h
theorem sqT_mono {H H' : Hp} {a : Addr} {xs : List V} (e : Ex H H') (h : SqT K H a xs) : SqT K H' a xs := by
  rcases h with h | h
  · exact .inl (Rd.mono e h)
  · exact .inr h
mutual
theorem Dp.mono {H H' : Hp} (e : Ex H H') : ∀ (d : D) (v : V), Dp K H v d → Dp K H' v d
  | .none, _, h => by cases h; exact .non
  | .bool _, _, h => by cases h; exact .bl _
  | .int _, _, h => by cases h; exact .int _
  | .str _, _, h => by cases h; exact .str _
  | .list ds, _, h => by
    cases h with
    | lst a b => exact .lst (sqL_mono e a) (DpAll.mono e ds _ b)
  | .tuple ds, _, h => by
    cases h with
    | tup a b => exact .tup (sqT_mono e a) (DpAll.mono e ds _ b)
  | .dict _, _, h => by cases h
theorem DpAll.mono {H H' : Hp} (e : Ex H H') : ∀ (ds : List D) (vs : List V), DpAll K H vs ds → DpAll K H' vs ds
  | [], _, h => by cases h; exact .nil
  | d :: ds, _, h => by
    cases h with
    | cons a b => exact .cons (Dp.mono e d _ a) (DpAll.mono e ds _ b)
end
theorem DpAll.len {H : Hp} : ∀ {vs : List V} {ds : List D}, DpAll K H vs ds → vs.length = ds.length
  | _, _, .nil => rfl
  | _, _, .cons _ b => by simp [DpAll.len b]
theorem DpAll.get {H : Hp} : ∀ {vs : List V} {ds : List D} {i : Nat} {v : V}, DpAll K H vs ds → vs[i]? = some v → ∃ d, ds[i]? = some d ∧ Dp K H v d
  | _, _, _, _, .nil, e => by simp at e
  | _, _, 0, _, .cons a _, e => by simp at e; subst e; exact ⟨_, rfl, a⟩
  | _, _, i + 1, v, .cons _ b, e => by
    obtain ⟨d, h1, h2⟩ := DpAll.get (i := i) (v := v) b (by simpa using e)
    exact ⟨d, by simpa using h1, h2⟩
theorem DpAll.getd {H : Hp} : ∀ {vs : List V} {ds : List D} {i : Nat} {d : D}, DpAll K H vs ds → ds[i]? = some d → ∃ v, vs[i]? = some v ∧ Dp K H v d
  | _, _, _, _, .nil, e => by simp at e
  | _, _, 0, _, .cons a _, e => by simp at e; subst e; exact ⟨_, rfl, a⟩
  | _, _, i + 1, d, .cons _ b, e => by
    obtain ⟨v, h1, h2⟩ := DpAll.getd (i := i) (d := d) b (by simpa using e)
    exact ⟨v, by simpa using h1, h2⟩
theorem DpAll.app {H : Hp} : ∀ {vs us : List V} {ds es : List D}, DpAll K H vs ds → DpAll K H us es → DpAll K H (vs ++ us) (ds ++ es)
  | _, _, _, _, .nil, h => h
  | _, _, _, _, .cons a b, h => .cons a (DpAll.app b h)
theorem DpAll.set {H : Hp} {v : V} {d : D} (h : Dp K H v d) : ∀ {vs : List V} {ds : List D} (i : Nat), DpAll K H vs ds → DpAll K H (vs.set i v) (ds.set i d)
  | _, _, _, .nil => .nil
  | _, _, 0, .cons a b => .cons h b
  | _, _, i + 1, .cons a b => .cons a (DpAll.set h i b)
theorem DpAll.take {H : Hp} : ∀ {vs : List V} {ds : List D} (n : Nat), DpAll K H vs ds → DpAll K H (vs.take n) (ds.take n)
  | _, _, 0, _ => .nil
  | _, _, _ + 1, .nil => .nil
  | _, _, n + 1, .cons a b => .cons a (DpAll.take n b)
theorem DpAll.drop {H : Hp} : ∀ {vs : List V} {ds : List D} (n : Nat), DpAll K H vs ds → DpAll K H (vs.drop n) (ds.drop n)
  | _, _, 0, h => h
  | _, _, _ + 1, .nil => .nil
  | _, _, n + 1, .cons _ b => DpAll.drop n b
end

/-! ### a frame -/
/-- what is fixed through a def's run: the entry's heap, what of it stands still, the addresses of the own lists that are handed in -/
structure Fr where
  H0 : Hp
  S0 : Hp
  pw : Nat → Option Addr
  n : Nat
  tv : Nat → V := fun _ => .non
def OwnAt (K : PySem.W.Frag) (S H : Hp) (p : Addr) (l : List D) : Prop := S p = none ∧ ∃ xs, H p = some (.lst xs) ∧ DpAll K S xs l
def SlotOk (K : PySem.W.Frag) (F : Fr) (S H : Hp) (i : Nat) (x : Option (Option V)) : Slot → Prop
  | .sh d => ∃ v, x = some (some v) ∧ Dp K S v d
  | .ow l => ∃ p, x = some (some (.ref p)) ∧ OwnAt K S H p l ∧ (F.pw i = some p ∨ (F.pw i = none ∧ F.H0 p = none))
  | .tk => x = some (some (F.tv i))
structure G (K : PySem.W.Frag) (F : Fr) (S H : Hp) (σ : St) (ρ : Env) : Prop where
  ex : Ex S H
  ex0 : Ex F.S0 S
  new : ∀ a, S a ≠ none → F.S0 a ≠ none ∨ F.H0 a = none
  frame : ∀ a o, F.H0 a = some o → (∀ i, F.pw i ≠ some a) → H a = some o
  sl : ∀ (i : Nat) (s : Slot), ρ[i]? = some (some s) → SlotOk K F S H i σ[i]? s
  apart : ∀ (i j : Nat) (l l' : List D) (p : Addr), i ≠ j → ρ[i]? = some (some (.ow l)) → ρ[j]? = some (some (.ow l')) → σ[i]? = some (some (.ref p)) → σ[j]? ≠ some (some (.ref p))
  par : ∀ (i : Nat) (p : Addr), F.pw i = some p → σ[i]? = some (some (.ref p)) ∧ ∃ l, ρ[i]? = some (some (.ow l))
  len : σ.length = F.n ∧ ρ.length = F.n
/-- a value that has just come -/
def VOk (K : PySem.W.Frag) (F : Fr) (S H : Hp) (σ : St) (ρ : Env) (v : V) : Slot → Prop
  | .sh d => Dp K S v d
  | .ow l => ∃ p, v = .ref p ∧ OwnAt K S H p l ∧ F.H0 p = none ∧ ∀ (i : Nat) (l' : List D), ρ[i]? = some (some (.ow l')) → σ[i]? ≠ some (some (.ref p))
  | .tk => False

section
variable {K : PySem.W.Frag} {F : Fr} {S S' H H' : Hp} {σ : St} {ρ : Env} {v : V} {p : Addr} {o : HO}
theorem G.pown (g : G K F S H σ ρ) {i : Nat} {p : Addr} (h : F.pw i = some p) : S p = none ∧ ∃ xs, H p = some (.lst xs) := by
  obtain ⟨h1, l, h2⟩ := g.par i p h
  obtain ⟨q, e, ⟨s, xs, hx, _⟩, _⟩ := g.sl i _ h2
  rw [h1] at e
  cases e
  exact ⟨s, xs, hx⟩
theorem G.h0 (g : G K F S H σ ρ) (h : H p = none) : F.H0 p = none := by
  cases e : F.H0 p with
  | none => rfl
  | some o =>
    by_cases q : ∃ i, F.pw i = some p
    · obtain ⟨i, q⟩ := q
      obtain ⟨_, xs, e2⟩ := g.pown q
      rw [h] at e2; cases e2
    · rw [g.frame p o e fun i z => q ⟨i, z⟩] at h; cases h
/-- S grows by what is new or was an unheld own list; H grows or is changed where no slot looks -/
theorem SlotOk.mono {i : Nat} {x : Option (Option V)} {s : Slot} (h : SlotOk K F S H i x s) (eS : Ex S S') (hp : ∀ l p xs, s = .ow l → x = some (some (.ref p)) → S p = none → H p = some (.lst xs) → S' p = none ∧ H' p = some (.lst xs)) : SlotOk K F S' H' i x s := by
  cases s with
  | sh d =>
    obtain ⟨v, e, h⟩ := h
    exact ⟨v, e, Dp.mono eS d v h⟩
  | ow l =>
    obtain ⟨p, e, ⟨s, xs, hx, hd⟩, q⟩ := h
    obtain ⟨a, b⟩ := hp l p xs rfl e s hx
    exact ⟨p, e, ⟨a, xs, b, DpAll.mono eS l xs hd⟩, q⟩
  | tk => exact h
/-- a new object that stays -/
theorem G.newS (g : G K F S H σ ρ) (h : H p = none) : G K F (upd S p o) (upd H p o) σ ρ := by
  have hs : S p = none := g.ex.free h
  refine ⟨g.ex.both, g.ex0.trans (Ex.new hs), fun a ha => ?_, fun a u e q => ?_, fun i s e => (g.sl i s e).mono (Ex.new hs) fun l q xs _ _ h1 h2 => ?_, g.apart, g.par, g.len⟩
  · by_cases q : a = p
    · subst q; exact .inr (g.h0 h)
    · rw [upd_ne q] at ha; exact g.new a ha
  · rw [upd_ne (ne_of_none (g.frame a u e q) h)]; exact g.frame a u e q
  · have : q ≠ p := ne_of_none h2 h
    rw [upd_ne this, upd_ne this]; exact ⟨h1, h2⟩
/-- a new object that is our own -/
theorem G.newO (g : G K F S H σ ρ) (h : H p = none) : G K F S (upd H p o) σ ρ := by
  have hs : S p = none := g.ex.free h
  refine ⟨g.ex.put hs, g.ex0, g.new, fun a u e q => ?_, fun i s e => (g.sl i s e).mono (Ex.refl S) fun l q xs _ _ h1 h2 => ?_, g.apart, g.par, g.len⟩
  · rw [upd_ne (ne_of_none (g.frame a u e q) h)]; exact g.frame a u e q
  · rw [upd_ne (ne_of_none h2 h)]; exact ⟨h1, h2⟩
theorem VOk.newO (g : G K F S H σ ρ) (h : H p = none) {xs : List V} {l : List D} (hx : DpAll K S xs l) : VOk K F S (upd H p (.lst xs)) σ ρ (.ref p) (.ow l) := by
  refine ⟨p, rfl, ⟨g.ex.free h, xs, upd_same, hx⟩, g.h0 h, fun i l' e q => ?_⟩
  obtain ⟨p', e', ⟨_, ys, hy, _⟩, _⟩ := g.sl i _ e
  rw [q] at e'
  cases e'
  rw [h] at hy; cases hy
/-- an own value comes to stand still -/
theorem G.frz (g : G K F S H σ ρ) {l : List D} (h : VOk K F S H σ ρ v (.ow l)) : ∃ S', G K F S' H σ ρ ∧ Ex S S' ∧ Dp K S' v (.list l) := by
  obtain ⟨p, rfl, ⟨hs, xs, hx, hd⟩, h0, hn⟩ := h
  have eS : Ex S (upd S p (.lst xs)) := Ex.new hs
  refine ⟨upd S p (.lst xs), ⟨g.ex.frz hx, g.ex0.trans eS, fun a ha => ?_, g.frame, fun i s e => (g.sl i s e).mono eS fun l' q ys es z h1 h2 => ?_, g.apart, g.par, g.len⟩, eS, .lst (.inl (.inl upd_same)) (DpAll.mono eS l xs hd)⟩
  · by_cases q : a = p
    · subst q; exact .inr h0
    · rw [upd_ne q] at ha; exact g.new a ha
  · subst es
    have : q ≠ p := fun w => hn i l' e (by rw [← w]; exact z)
    rw [upd_ne this]; exact ⟨h1, h2⟩
/-- any value comes to stand still -/
theorem G.still (g : G K F S H σ ρ) {r : Slot} (h : VOk K F S H σ ρ v r) : ∃ S', G K F S' H σ ρ ∧ Ex S S' ∧ Dp K S' v r.data := by
  cases r with
  | sh d => exact ⟨S, g, Ex.refl S, h⟩
  | ow l => exact g.frz h
  | tk => exact h.elim
end

/-! ### exceptions -/
/-- an exception of the class named c, with its fields -/
def XOk (K : PySem.W.Frag) (mg : Str → Option Value) (S : Hp) (c : Str) (fs : List (Str × D)) (cls : Value) (dd : Option Addr) : Prop :=
  ∃ C, mg c = some (.ref C) ∧ cls = .ref C ∧ match dd with
    | none => fs = []
    | some dx => ∃ vfs : List (Str × V), S dx = some (.xd vfs) ∧ vfs.map (·.1) = fs.map (·.1) ∧ DpAll K S (vfs.map (·.2)) (fs.map (·.2))

/-! ### what a reading of data means -/
section
variable (K : PySem.W.Frag) (mg : Str → Option Value) (F : Fr) (W : WX)
def EPost (S : Hp) (σ : L2.St) (Q : VK) : Out (Slot × Env) → Prop
  | .ok (r, ρ') => ∀ v S' H', G K F S' H' σ ρ' → Ex S S' → VOk K F S' H' σ ρ' v r → Q v H'
  | .exc c fs ρ' => ∀ cls dd S' H', G K F S' H' σ ρ' → Ex S S' → XOk K mg S' c fs cls dd → W cls dd σ H'
  | .bad => False
/-- an expression, its value perhaps our own -/
def tE (f : Env → Out (Slot × Env)) : TE := fun σ H Q => ∃ S ρ, G K F S H σ ρ ∧ EPost K mg F W S σ Q (f ρ)
def DPost (S : Hp) (σ : L2.St) (Q : VK) : Out (D × Env) → Prop
  | .ok (d, ρ') => ∀ v S' H', G K F S' H' σ ρ' → Ex S S' → Dp K S' v d → Q v H'
  | .exc c fs ρ' => ∀ cls dd S' H', G K F S' H' σ ρ' → Ex S S' → XOk K mg S' c fs cls dd → W cls dd σ H'
  | .bad => False
/-- an expression by its data alone -/
def tD (f : Env → Out (D × Env)) : TE := fun σ H Q => ∃ S ρ, G K F S H σ ρ ∧ DPost K mg F W S σ Q (f ρ)
def BPost (S : Hp) (σ : L2.St) (Q : Bool → Hp → Prop) : Out (Bool × Env) → Prop
  | .ok (b, ρ') => ∀ S' H', G K F S' H' σ ρ' → Ex S S' → Q b H'
  | .exc c fs ρ' => ∀ cls dd S' H', G K F S' H' σ ρ' → Ex S S' → XOk K mg S' c fs cls dd → W cls dd σ H'
  | .bad => False
/-- a test -/
def tT (f : Env → Out (Bool × Env)) : TT := fun σ H Q => ∃ S ρ, G K F S H σ ρ ∧ BPost K mg F W S σ Q (f ρ)
def LPost (S : Hp) (σ : L2.St) (Q : List V → Hp → Prop) : Out (List D × Env) → Prop
  | .ok (ds, ρ') => ∀ vs S' H', G K F S' H' σ ρ' → Ex S S' → DpAll K S' vs ds → Q vs H'
  | .exc c fs ρ' => ∀ cls dd S' H', G K F S' H' σ ρ' → Ex S S' → XOk K mg S' c fs cls dd → W cls dd σ H'
  | .bad => False
/-- several expressions -/
def tL (f : Env → Out (List D × Env)) : TA := fun σ H Q => ∃ S ρ, G K F S H σ ρ ∧ LPost K mg F W S σ Q (f ρ)
def SPost (S : Hp) (Dn : Ends) : Res → Prop
  | .nx ρ' => ∀ σ' S' H', G K F S' H' σ' ρ' → Ex S S' → Dn.nx σ' H'
  | .brk ρ' => ∀ σ' S' H', G K F S' H' σ' ρ' → Ex S S' → Dn.bk σ' H'
  | .ct ρ' => ∀ σ' S' H', G K F S' H' σ' ρ' → Ex S S' → Dn.ct σ' H'
  | .ret r ρ' => ∀ v σ' S' H', G K F S' H' σ' ρ' → Ex S S' → VOk K F S' H' σ' ρ' v r → Dn.rt v H'
  | .exc c fs ρ' => ∀ cls dd σ' S' H', G K F S' H' σ' ρ' → Ex S S' → XOk K mg S' c fs cls dd → W cls dd σ' H'
  | .bad => False
/-- a statement -/
def tS (f : Env → Res) : TS := fun Dn σ H => ∃ S ρ, G K F S H σ ρ ∧ SPost K mg F W S Dn (f ρ)
end

/-- the judgements; X the hand layer's context -/
def RE (X : Cx) (F : Fr) (W : WX) (e : Expr) (f : Env → Out (Slot × Env)) : Prop := PE X e (tE X.K X.mg F W f)
def RD (X : Cx) (F : Fr) (W : WX) (e : Expr) (f : Env → Out (D × Env)) : Prop := PE X e (tD X.K X.mg F W f)
def RT (X : Cx) (F : Fr) (W : WX) (e : Expr) (f : Env → Out (Bool × Env)) : Prop := PT X e (tT X.K X.mg F W f)
def RL (X : Cx) (F : Fr) (W : WX) (es : List Expr) (f : Env → Out (List D × Env)) : Prop := PA X es (tL X.K X.mg F W f)
def RS (X : Cx) (F : Fr) (W : WX) (st : Stmt) (f : Env → Res) : Prop := PS X st (tS X.K X.mg F W f)
def RSs (X : Cx) (F : Fr) (W : WX) (st : List Stmt) (f : Env → Res) : Prop := PSs X st (tS X.K X.mg F W f)

/-! ### weakening -/
theorem PE.imp {X : Cx} {e : Expr} {t u : TE} (h : PE X e t) (k : ∀ σ H Q, u σ H Q → t σ H Q) : PE X e u := ⟨fun pins s σ H Q I q => h.run pins s σ H Q I (k σ H Q q)⟩
theorem PT.imp {X : Cx} {e : Expr} {t u : TT} (h : PT X e t) (k : ∀ σ H Q, u σ H Q → t σ H Q) : PT X e u := ⟨fun pins s σ H Q I q => h.run pins s σ H Q I (k σ H Q q)⟩
theorem PA.imp {X : Cx} {e : List Expr} {t u : TA} (h : PA X e t) (k : ∀ σ H Q, u σ H Q → t σ H Q) : PA X e u := ⟨fun pos pins s σ H Q I q => h.run pos pins s σ H Q I (k σ H Q q)⟩
theorem PS.imp {X : Cx} {e : Stmt} {t u : TS} (h : PS X e t) (k : ∀ Dn σ H, u Dn σ H → t Dn σ H) : PS X e u := ⟨fun pins s σ H Dn I q => h.run pins s σ H Dn I (k Dn σ H q)⟩
theorem PSs.imp {X : Cx} {e : List Stmt} {t u : TS} (h : PSs X e t) (k : ∀ Dn σ H, u Dn σ H → t Dn σ H) : PSs X e u := ⟨fun pins s σ H Dn I q => h.run pins s σ H Dn I (k Dn σ H q)⟩

/-! ### combining -/
section
variable {K : PySem.W.Frag} {mg : Str → Option Value} {F : Fr} {W : WX} {S : Hp} {σ : L2.St}
/-- what is wished of an exception does not look at where it began -/
theorem xweak {S1 : Hp} {c : Str} {fs : List (Str × D)} {ρ' : Env} (e : Ex S S1)
    (h : ∀ cls dd S' H', G K F S' H' σ ρ' → Ex S S' → XOk K mg S' c fs cls dd → W cls dd σ H') : ∀ cls dd S' H', G K F S' H' σ ρ' → Ex S1 S' → XOk K mg S' c fs cls dd → W cls dd σ H' :=
  fun cls dd S' H' g e' => h cls dd S' H' g (e.trans e')
end
/-- the data of a value -/
def dat (f : Env → Out (Slot × Env)) : Env → Out (D × Env) := fun ρ => (f ρ).bind fun p => .ok (p.1.data, p.2)
/-- data as a value -/
def val (f : Env → Out (D × Env)) : Env → Out (Slot × Env) := fun ρ => (f ρ).bind fun p => .ok (.sh p.1, p.2)
section
variable {X : Cx} {F : Fr} {W : WX} {e : Expr}
theorem RE.dat {f : Env → Out (Slot × Env)} (h : RE X F W e f) : RD X F W e (dat f) := PE.imp h fun σ H Q q => by
  obtain ⟨S, ρ, g, q⟩ := q
  refine ⟨S, ρ, g, ?_⟩
  unfold Den.dat at q
  cases hf : f ρ with
  | ok p =>
    obtain ⟨r, ρ'⟩ := p
    rw [hf] at q
    intro v S' H' g' e' hv
    obtain ⟨S2, g2, e2, h2⟩ := g'.still hv
    exact q v S2 H' g2 (e'.trans e2) h2
  | exc c fs ρ' => rw [hf] at q; exact q
  | bad => rw [hf] at q; exact q
theorem RD.val {f : Env → Out (D × Env)} (h : RD X F W e f) : RE X F W e (val f) := PE.imp h fun σ H Q q => by
  obtain ⟨S, ρ, g, q⟩ := q
  refine ⟨S, ρ, g, ?_⟩
  unfold Den.val at q
  cases hf : f ρ with
  | ok p => rw [hf] at q; exact q
  | exc c fs ρ' => rw [hf] at q; exact q
  | bad => rw [hf] at q; exact q
end
end Den

namespace Den
open PySem PySem.Spec L2

section
variable {K : PySem.W.Frag} {F : Fr} {S S' H H' : Hp} {σ : L2.St} {ρ : Env} {v : V} {p : Addr} {o : HO} {i : Nat} {r : Slot}
theorem set_get? {α : Type} {l : List α} {i j : Nat} {a b : α} (h : (l.set i a)[j]? = some b) : (j = i ∧ a = b) ∨ (j ≠ i ∧ l[j]? = some b) := by
  by_cases e : j = i
  · subst e
    by_cases hl : j < l.length
    · rw [List.getElem?_set_self hl] at h; exact .inl ⟨rfl, Option.some.inj h⟩
    · rw [List.getElem?_eq_none (by rw [List.length_set]; omega)] at h; cases h
  · rw [List.getElem?_set_ne (Ne.symm e)] at h; exact .inr ⟨e, h⟩
/-- a local is stored -/
theorem G.store (g : G K F S H σ ρ) (h : VOk K F S H σ ρ v r) (hp : F.pw i = none) (hi : i < F.n) : G K F S H (σ.set i (some v)) (ρ.set i (some r)) := by
  have hs : i < σ.length := by rw [g.len.1]; exact hi
  refine ⟨g.ex, g.ex0, g.new, g.frame, fun j s e => ?_, fun j k l l' q hjk e1 e2 e3 => ?_, fun j q hq => ?_, by simp [g.len]⟩
  · rcases set_get? e with ⟨rfl, e'⟩ | ⟨hj, e⟩
    · have e' := Option.some.inj e'
      subst e'
      rw [List.getElem?_set_self hs]
      cases r with
      | sh d => exact ⟨v, rfl, h⟩
      | ow l =>
        obtain ⟨q, rfl, hq, h0, _⟩ := h
        exact ⟨q, rfl, hq, .inr ⟨hp, h0⟩⟩
      | tk => exact h.elim
    · rw [List.getElem?_set_ne (Ne.symm hj)]
      exact g.sl j s e
  · rcases set_get? e1 with ⟨rfl, e1'⟩ | ⟨hj, f1⟩
    · have e1' := Option.some.inj e1'
      subst e1'
      rw [List.getElem?_set_self hs] at e3
      rcases set_get? e2 with ⟨z, _⟩ | ⟨hk, e2⟩
      · exact absurd z.symm hjk
      · rw [List.getElem?_set_ne (Ne.symm hk)]
        obtain ⟨q', rfl, _, _, hn⟩ := h
        have := Option.some.inj (Option.some.inj e3)
        cases this
        exact hn k l' e2
    · rw [List.getElem?_set_ne (Ne.symm hj)] at e3
      rcases set_get? e2 with ⟨rfl, e2'⟩ | ⟨hk, e2⟩
      · have e2' := Option.some.inj e2'
        subst e2'
        rw [List.getElem?_set_self hs]
        obtain ⟨q', rfl, _, _, hn⟩ := h
        intro z
        have := Option.some.inj (Option.some.inj z)
        cases this
        exact hn j l f1 e3
      · rw [List.getElem?_set_ne (Ne.symm hk)]
        exact g.apart j k l l' q hjk f1 e2 e3
  · have hj : j ≠ i := fun z => by rw [z, hp] at hq; cases hq
    obtain ⟨a, l, b⟩ := g.par j q hq
    exact ⟨by rw [List.getElem?_set_ne (Ne.symm hj)]; exact a, l, by rw [List.getElem?_set_ne (Ne.symm hj)]; exact b⟩
/-- a local is forgotten -/
theorem G.drop (g : G K F S H σ ρ) (hp : F.pw i = none) : G K F S H σ (ρ.set i none) := by
  have key : ∀ (j : Nat) (s : Slot), (ρ.set i none)[j]? = some (some s) → ρ[j]? = some (some s) := fun j s e => by
    rcases set_get? e with ⟨rfl, e'⟩ | ⟨hj, e'⟩
    · cases e'
    · exact e'
  refine ⟨g.ex, g.ex0, g.new, g.frame, fun j s e => g.sl j s (key j s e), fun j k l l' q hjk e1 e2 e3 => g.apart j k l l' q hjk (key _ _ e1) (key _ _ e2) e3, fun j q hq => ?_, by simp [g.len]⟩
  have hj : j ≠ i := fun z => by rw [z, hp] at hq; cases hq
  obtain ⟨a, l, b⟩ := g.par j q hq
  exact ⟨a, l, by rw [List.getElem?_set_ne (Ne.symm hj)]; exact b⟩
/-- an own local is handed on -/
theorem G.mov (g : G K F S H σ ρ) {l : List D} (h : ρ[i]? = some (some (.ow l))) (hp : F.pw i = none) : ∃ v, σ[i]? = some (some v) ∧ G K F S H σ (ρ.set i none) ∧ VOk K F S H σ (ρ.set i none) v (.ow l) := by
  obtain ⟨p, e, hw, hq⟩ := g.sl i _ h
  rcases hq with hq | ⟨_, h0⟩
  · rw [hp] at hq; cases hq
  · refine ⟨.ref p, e, g.drop hp, p, rfl, hw, h0, fun j l' e2 e3 => ?_⟩
    rcases set_get? e2 with ⟨rfl, e2'⟩ | ⟨hj, e2⟩
    · cases e2'
    · exact g.apart i j l l' p (Ne.symm hj) h e2 e e3
/-- the slot of a value that stands still -/
theorem G.here (g : G K F S H σ ρ) {d : D} (hv : σ[i]? = some (some v)) (h : Dp K S v d) (hp : F.pw i = none) : G K F S H σ (ρ.set i (some (.sh d))) := by
  have hi : i < F.n := by rw [← g.len.1]; exact (List.getElem?_eq_some_iff.mp hv).1
  have := g.store (r := .sh d) h hp hi
  have e : σ.set i (some v) = σ := by
    apply List.ext_getElem?
    intro j
    by_cases hj : j = i
    · subst hj; rw [List.getElem?_set_self (by rw [g.len.1]; exact hi), hv]
    · rw [List.getElem?_set_ne (Ne.symm hj)]
  rw [e] at this
  exact this
/-- an own list is changed -/
theorem G.change (g : G K F S H σ ρ) {l : List D} (h : ρ[i]? = some (some (.ow l))) : ∃ p xs, σ[i]? = some (some (.ref p)) ∧ S p = none ∧ H p = some (.lst xs) ∧ DpAll K S xs l ∧
    ∀ xs' l', DpAll K S xs' l' → G K F S (upd H p (.lst xs')) σ (ρ.set i (some (.ow l'))) := by
  obtain ⟨p, e, ⟨hs, xs, hx, hd⟩, hq⟩ := g.sl i _ h
  refine ⟨p, xs, e, hs, hx, hd, fun xs' l' hd' => ?_⟩
  have hi : i < ρ.length := (List.getElem?_eq_some_iff.mp h).1
  have key : ∀ (j : Nat) (k : List D), (ρ.set i (some (.ow l')))[j]? = some (some (.ow k)) → ∃ k', ρ[j]? = some (some (.ow k')) := fun j k ej => by
    rcases set_get? ej with ⟨rfl, _⟩ | ⟨hj, ej⟩
    · exact ⟨l, h⟩
    · exact ⟨k, ej⟩
  refine ⟨g.ex.put hs, g.ex0, g.new, fun a o ea hp => ?_, fun j s ej => ?_, fun j k l1 l2 q hjk e1 e2 e3 => ?_, fun j q hj => ?_, by simp [g.len]⟩
  · have : a ≠ p := fun z => by
      subst z
      rcases hq with hq | ⟨_, h0⟩
      · exact hp i hq
      · rw [h0] at ea; cases ea
    rw [upd_ne this]
    exact g.frame a o ea hp
  · rcases set_get? ej with ⟨rfl, ej'⟩ | ⟨hj, ej⟩
    · have ej' := Option.some.inj ej'
      subst ej'
      exact ⟨p, e, ⟨hs, xs', upd_same, hd'⟩, hq⟩
    · refine (g.sl j s ej).mono (Ex.refl S) fun l1 q ys es e1 h1 h2 => ?_
      subst es
      have : q ≠ p := fun z => by
        subst z
        exact g.apart i j l l1 q (Ne.symm hj) h ej e e1
      rw [upd_ne this]
      exact ⟨h1, h2⟩
  · obtain ⟨k1, e1⟩ := key _ _ e1
    obtain ⟨k2, e2⟩ := key _ _ e2
    exact g.apart j k k1 k2 q hjk e1 e2 e3
  · obtain ⟨a, k, b⟩ := g.par j q hj
    refine ⟨a, ?_⟩
    by_cases hji : j = i
    · subst hji; exact ⟨l', List.getElem?_set_self hi⟩
    · exact ⟨k, by rw [List.getElem?_set_ne (Ne.symm hji)]; exact b⟩
end

/-! ### operands: data, or a local that is looked at when the operation is done -/
inductive Late where
  | now (d : D) | slot (i : Nat)
def Late.res (ρ : Env) : Late → Option D
  | .now d => some d
  | .slot i => match ρ[i]? with
    | some (some (.sh d)) => some d
    | some (some (.ow l)) => some (.list l)
    | _ => none
def LtOk (K : PySem.W.Frag) (S : Hp) (σ : L2.St) (v : V) : Late → Prop
  | .now d => Dp K S v d
  | .slot i => σ[i]? = some (some v)
/-- data whose top may be our own -/
def LD (K : PySem.W.Frag) (S H : Hp) (v : V) (d : D) : Prop := Dp K S v d ∨ ∃ p xs l, v = .ref p ∧ d = .list l ∧ H p = some (.lst xs) ∧ DpAll K S xs l
section
variable {K : PySem.W.Frag} {F : Fr} {S S' H H' : Hp} {σ : L2.St} {ρ : Env} {v : V} {d : D}
theorem LtOk.mono {lt : Late} (e : Ex S S') (h : LtOk K S σ v lt) : LtOk K S' σ v lt := by
  cases lt with
  | now d => exact Dp.mono e d v h
  | slot i => exact h
theorem LtOk.ld {lt : Late} (g : G K F S H σ ρ) (h : LtOk K S σ v lt) (hr : lt.res ρ = some d) : LD K S H v d := by
  cases lt with
  | now d' => cases hr; exact .inl h
  | slot i =>
    have h' : σ[i]? = some (some v) := h
    cases e : ρ[i]? with
    | none => simp [Late.res, e] at hr
    | some x =>
      cases x with
      | none => simp [Late.res, e] at hr
      | some s =>
        have := g.sl i s e
        cases s with
        | tk => simp [Late.res, e] at hr
        | sh d =>
          simp only [Late.res, e] at hr
          cases hr
          obtain ⟨w, e1, e2⟩ := this
          rw [h'] at e1; cases e1
          exact .inl e2
        | ow l =>
          simp only [Late.res, e] at hr
          cases hr
          obtain ⟨p, e1, ⟨hs, xs, hx, hd⟩, _⟩ := this
          rw [h'] at e1; cases e1
          exact .inr ⟨p, xs, l, rfl, rfl, hx, hd⟩
theorem LD.dp (e : Ex S H) (h : LD K S H v d) : Dp K H v d := by
  rcases h with h | ⟨p, xs, l, rfl, rfl, h1, h2⟩
  · exact Dp.mono e d v h
  · exact .lst (.inl (.inl h1)) (DpAll.mono e l xs h2)
theorem LD.non (h : LD K S H v .none) : v = .non := by
  rcases h with h | ⟨_, _, _, _, e, _⟩
  · cases h; rfl
  · cases e
theorem LD.bool {b : Bool} (h : LD K S H v (.bool b)) : v = .bl b := by
  rcases h with h | ⟨_, _, _, _, e, _⟩
  · cases h; rfl
  · cases e
theorem LD.int {i : Int} (h : LD K S H v (.int i)) : v = .int i := by
  rcases h with h | ⟨_, _, _, _, e, _⟩
  · cases h; rfl
  · cases e
theorem LD.str {x : Str} (h : LD K S H v (.str x)) : v = .str x := by
  rcases h with h | ⟨_, _, _, _, e, _⟩
  · cases h; rfl
  · cases e
theorem LD.list {l : List D} (e : Ex S H) (h : LD K S H v (.list l)) : ∃ p xs, v = .ref p ∧ SqL K H p xs ∧ DpAll K S xs l := by
  rcases h with h | ⟨p, xs, l', rfl, e, h1, h2⟩
  · cases h with
    | lst a b => exact ⟨_, _, rfl, sqL_mono e a, b⟩
  · cases e; exact ⟨p, xs, rfl, .inl (.inl h1), h2⟩
theorem LD.tuple {l : List D} (e : Ex S H) (h : LD K S H v (.tuple l)) : ∃ p xs, v = .ref p ∧ SqT K H p xs ∧ DpAll K S xs l := by
  rcases h with h | ⟨_, _, _, _, e, _⟩
  · cases h with
    | tup a b => exact ⟨_, _, rfl, sqT_mono e a, b⟩
  · cases e
end

section
variable (K : PySem.W.Frag) (mg : Str → Option Value) (F : Fr) (W : WX)
def OPost (S : Hp) (σ : L2.St) (Q : VK) : Out (Late × Env) → Prop
  | .ok (d, ρ') => ∀ v S' H', G K F S' H' σ ρ' → Ex S S' → LtOk K S' σ v d → Q v H'
  | .exc c fs ρ' => ∀ cls dd S' H', G K F S' H' σ ρ' → Ex S S' → XOk K mg S' c fs cls dd → W cls dd σ H'
  | .bad => False
/-- an operand -/
def tO (f : Env → Out (Late × Env)) : TE := fun σ H Q => ∃ S ρ, G K F S H σ ρ ∧ OPost K mg F W S σ Q (f ρ)
inductive LtAll (K : PySem.W.Frag) (S : Hp) (σ : L2.St) : List V → List Late → Prop
  | nil : LtAll K S σ [] []
  | cons {v : V} {vs : List V} {d : Late} {ds : List Late} : LtOk K S σ v d → LtAll K S σ vs ds → LtAll K S σ (v :: vs) (d :: ds)
def OLPost (S : Hp) (σ : L2.St) (Q : List V → Hp → Prop) : Out (List Late × Env) → Prop
  | .ok (ds, ρ') => ∀ vs S' H', G K F S' H' σ ρ' → Ex S S' → LtAll K S' σ vs ds → Q vs H'
  | .exc c fs ρ' => ∀ cls dd S' H', G K F S' H' σ ρ' → Ex S S' → XOk K mg S' c fs cls dd → W cls dd σ H'
  | .bad => False
/-- several operands -/
def tOL (f : Env → Out (List Late × Env)) : TA := fun σ H Q => ∃ S ρ, G K F S H σ ρ ∧ OLPost K mg F W S σ Q (f ρ)
end
theorem LtAll.mono {K : PySem.W.Frag} {S S' : Hp} {σ : L2.St} (e : Ex S S') : ∀ {vs : List V} {ls : List Late}, LtAll K S σ vs ls → LtAll K S' σ vs ls
  | _, _, .nil => .nil
  | _, _, .cons a b => .cons (a.mono e) (LtAll.mono e b)
def RO (X : Cx) (F : Fr) (W : WX) (e : Expr) (f : Env → Out (Late × Env)) : Prop := PE X e (tO X.K X.mg F W f)
def ROL (X : Cx) (F : Fr) (W : WX) (es : List Expr) (f : Env → Out (List Late × Env)) : Prop := PA X es (tOL X.K X.mg F W f)

def now (f : Env → Out (D × Env)) : Env → Out (Late × Env) := fun ρ => (f ρ).bind fun p => .ok (.now p.1, p.2)
def dLoc (i : Nat) : Env → Out (Late × Env) := fun ρ => match ρ[i]? with
  | some (some _) => .ok (.slot i, ρ)
  | _ => .bad
def oNil : Env → Out (List Late × Env) := fun ρ => .ok ([], ρ)
def oCons (f : Env → Out (Late × Env)) (g : Env → Out (List Late × Env)) : Env → Out (List Late × Env) := fun ρ => (f ρ).bind fun p => (g p.2).bind fun q => .ok (p.1 :: q.1, q.2)
section
variable {X : Cx} {F : Fr} {W : WX} {e : Expr} {es : List Expr} {pos : Pos}
theorem RD.now {f : Env → Out (D × Env)} (h : RD X F W e f) : RO X F W e (now f) := PE.imp h fun σ H Q q => by
  obtain ⟨S, ρ, g, q⟩ := q
  refine ⟨S, ρ, g, ?_⟩
  unfold Den.now at q
  cases hf : f ρ with
  | ok p => rw [hf] at q; exact q
  | exc c fs ρ' => rw [hf] at q; exact q
  | bad => rw [hf] at q; exact q
theorem ro_loc {i : Nat} {x : Str} (hN : X.N[i]? = some x) (hv : Vis X.env.scope x) (hd : (x == ("__debug__" : Str)) = false := by decide) (hcd : (x == ("__classdict__" : Str)) = false := by decide) : RO X F W (.Name x pos) (dLoc i) :=
  PE.imp (pe_var hN hv hd hcd) fun σ H Q q => by
    obtain ⟨S, ρ, g, q⟩ := q
    unfold dLoc at q
    cases e : ρ[i]? with
    | none => rw [e] at q; exact q.elim
    | some x =>
      cases x with
      | none => rw [e] at q; exact q.elim
      | some s =>
        rw [e] at q
        have hs := g.sl i s e
        cases s with
        | sh d =>
          obtain ⟨v, e1, _⟩ := hs
          exact ⟨v, e1, q v S H g (Ex.refl S) e1⟩
        | ow l =>
          obtain ⟨p, e1, _⟩ := hs
          exact ⟨.ref p, e1, q (.ref p) S H g (Ex.refl S) e1⟩
        | tk => exact ⟨F.tv i, hs, q (F.tv i) S H g (Ex.refl S) hs⟩
theorem rol_nil : ROL X F W [] oNil := PA.imp pa_nil fun σ H Q q => by
  obtain ⟨S, ρ, g, q⟩ := q
  exact q [] S H g (Ex.refl S) .nil
theorem rol_cons {f : Env → Out (Late × Env)} {k : Env → Out (List Late × Env)} (h : RO X F W e f) (hr : ROL X F W es k) (hs : starEach (e :: es) X.env = (false, eval e X.env) :: starEach es X.env := by rfl) : ROL X F W (e :: es) (oCons f k) :=
  PA.imp (pa_cons h hr hs) fun σ H Q q => by
    obtain ⟨S, ρ, g, q⟩ := q
    refine ⟨S, ρ, g, ?_⟩
    unfold oCons at q
    cases hf : f ρ with
    | ok p =>
      obtain ⟨lt, ρ1⟩ := p
      rw [hf] at q
      intro v S1 H1 g1 e1 hv
      refine ⟨S1, ρ1, g1, ?_⟩
      have q : OLPost X.K X.mg F W S σ Q ((k ρ1).bind fun q => .ok (lt :: q.1, q.2)) := q
      cases hk : k ρ1 with
      | ok r =>
        obtain ⟨ls, ρ2⟩ := r
        rw [hk] at q
        intro vs S2 H2 g2 e2 hvs
        exact q (v :: vs) S2 H2 g2 (e1.trans e2) (.cons (hv.mono e2) hvs)
      | exc c fs ρ' => rw [hk] at q; exact xweak e1 q
      | bad => rw [hk] at q; exact q.elim
    | exc c fs ρ' => rw [hf] at q; exact q
    | bad => rw [hf] at q; exact q
end
end Den

namespace Den
open PySem PySem.Spec L2

/-! ### what an operation gives -/
inductive Rv where
  | val (d : D) | newT (l : List D) | newL (l : List D)
def Rv.slot : Rv → Slot
  | .val d => .sh d
  | .newT l => .sh (.tuple l)
  | .newL l => .ow l
def RQ (K : PySem.W.Frag) (S H : Hp) (Q : VK) : Rv → Prop
  | .val d => ∀ v, Dp K S v d → Q v H
  | .newT l => ∀ p xs, H p = none → DpAll K S xs l → Q (.ref p) (upd H p (.tup xs))
  | .newL l => ∀ p xs, H p = none → DpAll K S xs l → Q (.ref p) (upd H p (.lst xs))
def rvOut (ρ : Env) : Option Rv → Out (Slot × Env)
  | some r => .ok (r.slot, ρ)
  | none => .bad
section
variable {K : PySem.W.Frag} {mg : Str → Option Value} {F : Fr} {W : WX} {S S' H H' : Hp} {σ : L2.St} {ρ : Env} {Q : VK}
theorem rq_of (g : G K F S H σ ρ) {r : Rv} (q : ∀ v S' H', G K F S' H' σ ρ → Ex S S' → VOk K F S' H' σ ρ v r.slot → Q v H') : RQ K S H Q r := by
  cases r with
  | val d => exact fun v h => q v S H g (Ex.refl S) h
  | newT l => exact fun p xs hp hx => q (.ref p) _ _ (g.newS hp) (Ex.new (g.ex.free hp)) (.tup (.inl (.inl upd_same)) (DpAll.mono (Ex.new (g.ex.free hp)) l xs hx))
  | newL l => exact fun p xs hp hx => q (.ref p) S _ (g.newO hp) (Ex.refl S) (VOk.newO g hp hx)
theorem epost_of (g : G K F S H σ ρ) {o : Option Rv} {S0 : Hp} (e : Ex S0 S) (q : EPost K mg F W S0 σ Q (rvOut ρ o)) : ∃ r, o = some r ∧ RQ K S H Q r := by
  cases o with
  | none => exact q.elim
  | some r => exact ⟨r, rfl, rq_of g fun v S' H' g' e' h => q v S' H' g' (e.trans e') h⟩
end

/-! ### names, constants -/
def dC (d : D) : Env → Out (D × Env) := fun ρ => .ok (d, ρ)
def dVar (i : Nat) : Env → Out (D × Env) := fun ρ => match ρ[i]? with
  | some (some (.sh d)) => .ok (d, ρ)
  | some (some (.ow l)) => .ok (.list l, ρ.set i (some (.sh (.list l))))
  | _ => .bad
def dMov (i : Nat) : Env → Out (Slot × Env) := fun ρ => match ρ[i]? with
  | some (some (.sh d)) => .ok (.sh d, ρ)
  | some (some (.ow l)) => .ok (.ow l, ρ.set i none)
  | _ => .bad
/-- what a written constant is -/
inductive IsC : V → D → Prop
  | non : IsC .non .none
  | bl (b : Bool) : IsC (.bl b) (.bool b)
  | int (i : Int) : IsC (.int i) (.int i)
  | str (x : Str) : IsC (.str x) (.str x)
theorem IsC.dp {K : PySem.W.Frag} {H : Hp} {v : V} {d : D} (h : IsC v d) : Dp K H v d := by
  cases h
  · exact .non
  · exact .bl _
  · exact .int _
  · exact .str _
section
variable {X : Cx} {F : Fr} {W : WX} {e : Expr} {es : List Expr} {pos : Pos}
theorem rd_C {v : V} {d : D} (h : PE X e (tC v)) (c : IsC v d) : RD X F W e (dC d) := PE.imp h fun σ H Q q => by
  obtain ⟨S, ρ, g, q⟩ := q
  exact q v S H g (Ex.refl S) c.dp
theorem rd_int {i j} : RD X F W (.Constant (.int i) j pos) (dC (.int i)) := rd_C pe_int (.int i)
theorem rd_str {i j} : RD X F W (.Constant (.str i) j pos) (dC (.str i)) := rd_C pe_str (.str i)
theorem rd_bl {i j} : RD X F W (.Constant (.bool i) j pos) (dC (.bool i)) := rd_C pe_bl (.bl i)
theorem rd_non {j} : RD X F W (.Constant .none j pos) (dC .none) := rd_C pe_non .non
theorem rd_glob {x : Str} {v : V} {u : Value} {d : D} (hg : Gl X x) (hm : X.mg x = some u) (r : RelV v u) (c : IsC v d) (hd : (x == ("__debug__" : Str)) = false := by decide) : RD X F W (.Name x pos) (dC d) := rd_C (pe_glob hg hm r hd) c
theorem rd_var {i : Nat} {x : Str} (hp : F.pw i = none) (hN : X.N[i]? = some x) (hv : Vis X.env.scope x) (hd : (x == ("__debug__" : Str)) = false := by decide) (hcd : (x == ("__classdict__" : Str)) = false := by decide) : RD X F W (.Name x pos) (dVar i) :=
  PE.imp (pe_var hN hv hd hcd) fun σ H Q q => by
    obtain ⟨S, ρ, g, q⟩ := q
    unfold dVar at q
    cases e : ρ[i]? with
    | none => rw [e] at q; exact q.elim
    | some x =>
      cases x with
      | none => rw [e] at q; exact q.elim
      | some s =>
        rw [e] at q
        cases s with
        | sh d =>
          obtain ⟨v, e1, h⟩ := g.sl i _ e
          exact ⟨v, e1, q v S H g (Ex.refl S) h⟩
        | ow l =>
          obtain ⟨v, e1, g1, h1⟩ := g.mov e hp
          obtain ⟨S2, g2, e2, h2⟩ := g1.frz h1
          have g3 := g2.here e1 h2 hp
          rw [List.set_set] at g3
          exact ⟨v, e1, q v S2 H g3 e2 h2⟩
        | tk => exact q.elim
theorem re_mov {i : Nat} {x : Str} (hp : F.pw i = none) (hN : X.N[i]? = some x) (hv : Vis X.env.scope x) (hd : (x == ("__debug__" : Str)) = false := by decide) (hcd : (x == ("__classdict__" : Str)) = false := by decide) : RE X F W (.Name x pos) (dMov i) :=
  PE.imp (pe_var hN hv hd hcd) fun σ H Q q => by
    obtain ⟨S, ρ, g, q⟩ := q
    unfold dMov at q
    cases e : ρ[i]? with
    | none => rw [e] at q; exact q.elim
    | some x =>
      cases x with
      | none => rw [e] at q; exact q.elim
      | some s =>
        rw [e] at q
        cases s with
        | sh d =>
          obtain ⟨v, e1, h⟩ := g.sl i _ e
          exact ⟨v, e1, q v S H g (Ex.refl S) h⟩
        | ow l =>
          obtain ⟨v, e1, g1, h1⟩ := g.mov e hp
          exact ⟨v, e1, q v S H g1 (Ex.refl S) h1⟩
        | tk => exact q.elim
end

/-! ### operations on two operands -/
def dBin (op : D → D → Option Rv) (fa fb : Env → Out (Late × Env)) : Env → Out (Slot × Env) := fun ρ =>
  (fa ρ).bind fun p => (fb p.2).bind fun q => match p.1.res q.2, q.1.res q.2 with
    | some a, some b => rvOut q.2 (op a b)
    | _, _ => .bad
def Sem2 (K : PySem.W.Frag) (r : R2) (op : D → D → Option Rv) : Prop :=
  ∀ (S H : Hp) (x y : V) (a b : D) (z : Rv) (Q : VK), Ex S H → LD K S H x a → LD K S H y b → op a b = some z → RQ K S H Q z → r x y H Q
structure OpD (X : Cx) (f : Value → Value → Sem Value) (op : D → D → Option Rv) : Prop where
  ex : ∃ r, OpR X f r ∧ Sem2 X.K r op
/-- two rules for one operation -/
def alt2 (f g : D → D → Option Rv) : D → D → Option Rv := fun a b => match f a b with
  | some z => some z
  | none => g a b
theorem OpD.or {X : Cx} {f : Value → Value → Sem Value} {g h : D → D → Option Rv} (a : OpD X f g) (b : OpD X f h) : OpD X f (alt2 g h) := by
  obtain ⟨r, hr, sr⟩ := a.ex
  obtain ⟨r', hr', sr'⟩ := b.ex
  refine ⟨fun x y H Q => r x y H Q ∨ r' x y H Q, fun pins s σ H x y v u Q I rx ry q => ?_, fun S H x y a b z Q e hx hy hz q => ?_⟩
  · rcases q with q | q
    · exact hr pins s σ H x y v u Q I rx ry q
    · exact hr' pins s σ H x y v u Q I rx ry q
  · unfold alt2 at hz
    cases hg : g a b with
    | some w => rw [hg] at hz; cases hz; exact .inl (sr S H x y a b _ Q e hx hy hg q)
    | none => rw [hg] at hz; exact .inr (sr' S H x y a b z Q e hx hy hz q)
section
variable {X : Cx} {F : Fr} {W : WX} {a b c : Expr} {pos : Pos} {fa fb fc : Env → Out (Late × Env)}
/-- the common part: two operands, then an operation's reading -/
theorem bin_core {op : D → D → Option Rv} {r : R2} (sr : Sem2 X.K r op) {σ : L2.St} {H : Hp} {Q : VK} (q : tE X.K X.mg F W (dBin op fa fb) σ H Q) :
    tOp r (tO X.K X.mg F W fa) (tO X.K X.mg F W fb) σ H Q := by
  obtain ⟨S, ρ, g, q⟩ := q
  refine ⟨S, ρ, g, ?_⟩
  unfold dBin at q
  cases hf : fa ρ with
  | ok p =>
    obtain ⟨la, ρ1⟩ := p
    rw [hf] at q
    intro v S1 H1 g1 e1 hv
    refine ⟨S1, ρ1, g1, ?_⟩
    dsimp only [Out.bind] at q
    cases hk : fb ρ1 with
    | ok p2 =>
      obtain ⟨lb, ρ2⟩ := p2
      rw [hk] at q
      intro u S2 H2 g2 e2 hu
      dsimp only at q
      cases ha : la.res ρ2 with
      | none => rw [ha] at q; exact q.elim
      | some da =>
        cases hb : lb.res ρ2 with
        | none => rw [ha, hb] at q; exact q.elim
        | some db =>
          rw [ha, hb] at q
          obtain ⟨z, hz, q⟩ := epost_of g2 (e1.trans e2) q
          exact sr S2 H2 v u da db z Q g2.ex ((hv.mono e2).ld g2 ha) (hu.ld g2 hb) hz q
    | exc c fs ρ' => rw [hk] at q; exact xweak e1 q
    | bad => rw [hk] at q; exact q.elim
  | exc c fs ρ' => rw [hf] at q; exact q
  | bad => rw [hf] at q; exact q.elim
theorem re_bin {op : Operator} {g : D → D → Option Rv} (ho : OpD X (binaryOp op) g) (ha : RO X F W a fa) (hb : RO X F W b fb) : RE X F W (.BinOp a op b pos) (dBin g fa fb) := by
  obtain ⟨r, hr, sr⟩ := ho.ex
  exact PE.imp (pe_op hr ha hb) fun σ H Q q => bin_core sr q
theorem re_cmp {op : CmpOp} {g : D → D → Option Rv} (ho : OpD X (compareOp op) g) (ha : RO X F W a fa) (hb : RO X F W b fb) (hm : behindInMarks op b = false) : RE X F W (.Compare a [op] [b] pos) (dBin g fa fb) := by
  obtain ⟨r, hr, sr⟩ := ho.ex
  exact PE.imp (pe_cmpR hr ha hb hm) fun σ H Q q => bin_core sr q
end

/-! ### a test out of a value -/
def tst (f : Env → Out (Slot × Env)) : Env → Out (Bool × Env) := fun ρ => (f ρ).bind fun p => match p.1 with
  | .sh (.bool b) => .ok (b, p.2)
  | _ => .bad
section
variable {X : Cx} {F : Fr} {W : WX} {a b c e : Expr} {pos : Pos} {fa fb fc : Env → Out (Late × Env)}
theorem tst_core {f : Env → Out (Slot × Env)} {σ : L2.St} {H : Hp} {Q : Bool → Hp → Prop} (q : tT X.K X.mg F W (tst f) σ H Q) : tTest (tE X.K X.mg F W f) σ H Q := by
  obtain ⟨S, ρ, g, q⟩ := q
  refine ⟨S, ρ, g, ?_⟩
  unfold tst at q
  cases hf : f ρ with
  | ok p =>
    obtain ⟨r, ρ1⟩ := p
    rw [hf] at q
    dsimp only [Out.bind] at q
    intro v S1 H1 g1 e1 hv
    cases r with
    | ow l => exact q.elim
    | tk => exact q.elim
    | sh d =>
      cases d with
      | bool b =>
        cases hv
        exact ⟨b, rfl, q S1 H1 g1 e1⟩
      | _ => exact q.elim
  | exc c fs ρ' => rw [hf] at q; exact q
  | bad => rw [hf] at q; exact q.elim
theorem rt_cmp {op : CmpOp} {g : D → D → Option Rv} (ho : OpD X (compareOp op) g) (ha : RO X F W a fa) (hb : RO X F W b fb) (hm : behindInMarks op b = false) : RT X F W (.Compare a [op] [b] pos) (tst (dBin g fa fb)) := by
  obtain ⟨r, hr, sr⟩ := ho.ex
  refine PT.imp (pt_cmpR hr ha hb hm) fun σ H Q q => ?_
  have := tst_core q
  exact bin_core sr this
theorem rt_val {f : Env → Out (Slot × Env)} (h : RE X F W e f) (he : ∀ whole, isTrue e X.env whole = (do let v ← whole; standAt e.pos; holding [v] (truthy v)) := by intro _; rfl) : RT X F W e (tst f) :=
  PT.imp (pt_val h he) fun σ H Q q => tst_core q
end
end Den

namespace Den
open PySem PySem.Spec L2

section
variable {X : Cx}
/-! ### arithmetic -/
def gI (f : Int → Int → Int) : D → D → Option Rv
  | .int i, .int j => some (.val (.int (f i j)))
  | _, _ => none
def gIc (c : Int → Int → Bool) (f : Int → Int → Int) : D → D → Option Rv
  | .int i, .int j => if c i j = true then some (.val (.int (f i j))) else none
  | _, _ => none
theorem opd_I0 {f : Value → Value → Sem Value} {k : Int → Int → Int} (h : OpR X f (rI0 fun i j => .int (k i j))) : OpD X f (gI k) := ⟨_, h, fun S H x y a b z Q e hx hy hz q => by
  unfold gI at hz
  split at hz
  · rename_i i j
    cases hz
    exact ⟨i, j, hx.int, hy.int, q _ (.int _)⟩
  · cases hz⟩
theorem opd_I {f : Value → Value → Sem Value} {C : Int → Int → Prop} {c : Int → Int → Bool} {k : Int → Int → Int} (h : OpR X f (rI C fun i j => .int (k i j))) (hc : ∀ i j, c i j = true → C i j) : OpD X f (gIc c k) := ⟨_, h, fun S H x y a b z Q e hx hy hz q => by
  unfold gIc at hz
  split at hz
  · rename_i i j
    split at hz
    · rename_i h1
      cases hz
      exact ⟨i, j, hx.int, hy.int, hc i j h1, q _ (.int _)⟩
    · cases hz
  · cases hz⟩
def gStrAdd : D → D → Option Rv
  | .str a, .str b => if a.length + b.length ≤ 100000 then some (.val (.str (a ++ b))) else none
  | _, _ => none
theorem sz_of {n : Nat} (h : n ≤ 100000) : n ≤ sizeLine := Nat.le_trans h (by decide)
theorem opd_strAdd : OpD X (binaryOp .Add) gStrAdd := ⟨_, op_add_str, fun S H x y a b z Q e hx hy hz q => by
  unfold gStrAdd at hz
  split at hz
  · rename_i i j
    split at hz
    · rename_i h1
      cases hz
      exact ⟨i, j, hx.str, hy.str, sz_of h1, q _ (.str _)⟩
    · cases hz
  · cases hz⟩
def gTupAdd : D → D → Option Rv
  | .tuple a, .tuple b => if a.length + b.length ≤ 100000 then some (if a.isEmpty then .val (.tuple b) else if b.isEmpty then .val (.tuple a) else .newT (a ++ b)) else none
  | _, _ => none
theorem DpAll.nil_iff {K : PySem.W.Frag} {H : Hp} {xs : List V} {l : List D} (h : DpAll K H xs l) : xs = [] ↔ l.isEmpty = true := by
  cases h <;> simp
theorem opd_tupAdd : OpD X (binaryOp .Add) gTupAdd := ⟨_, op_catA, fun S H x y a b z Q e hx hy hz q => by
  unfold gTupAdd at hz
  split at hz
  · rename_i l m
    split at hz
    · rename_i h1
      obtain ⟨p, xs, rfl, hp, dp⟩ := hx.tuple e
      obtain ⟨r, ys, rfl, hr, dr⟩ := hy.tuple e
      have l1 := DpAll.len dp
      have l2 := DpAll.len dr
      have n1 := DpAll.nil_iff dp
      have n2 := DpAll.nil_iff dr
      have fx : Dp X.K S (.ref p) (.tuple l) := by
        rcases hx with h | ⟨_, _, _, _, e, _⟩
        · exact h
        · cases e
      have fy : Dp X.K S (.ref r) (.tuple m) := by
        rcases hy with h | ⟨_, _, _, _, e, _⟩
        · exact h
        · cases e
      refine ⟨p, r, xs, ys, rfl, rfl, hp, hr, sz_of (by omega), fun w => ?_, fun w w2 => ?_, fun w w2 => ?_⟩
      · rw [n1.mp w] at hz
        cases hz
        exact q _ fy
      · rw [if_neg (fun h => w (n1.mpr h)), n2.mp w2] at hz
        cases hz
        exact q _ fx
      · rw [if_neg (fun h => w (n1.mpr h)), if_neg (fun h => w2 (n2.mpr h))] at hz
        cases hz
        exact fun p hp => q p _ hp (DpAll.app dp dr)
    · cases hz
  · cases hz⟩
/-- list + list, whatever lists -/
def rCatW (K : PySem.W.Frag) : R2 := fun x y H Q => ∃ l b xs zs, x = .ref l ∧ y = .ref b ∧ SqL K H l xs ∧ SqL K H b zs ∧ xs.length + zs.length ≤ sizeLine ∧ ∀ p, H p = none → Q (.ref p) (upd H p (.lst (xs ++ zs)))
theorem op_catW : OpR X (binaryOp .Add) (rCatW X.K) := by
  intro pins s σ H x y v u Q I rx ry h
  obtain ⟨l, b, xs, zs, rfl, rfl, hH, hB, hz, q⟩ := h
  cases rx
  cases ry
  obtain ⟨its, r, ⟨⟨cls, dd, data, sl⟩, n, ho, hc, hd, hs⟩, _⟩ := I.list hH
  obtain ⟨its2, r2, ⟨⟨cls2, dd2, data2, sl2⟩, n2, ho2, hc2, hd2, hs2⟩, _⟩ := I.list hB
  simp only at hc hd hs hc2 hd2 hs2
  subst hc hd hs hc2 hd2 hs2
  have ea : its.toArray ++ its2.toArray = (its ++ its2).toArray := by simp
  refine concat_meets ⟨_, ho, rfl⟩ ⟨_, ho2, rfl⟩ noFill_list_add seq_list_add PySem.F.slot_list_add PySem.F.entry_list_add (PySem.F.args_list_add_2 _ _)
    (PyProof.Rows.list_addW l b its.toArray its2.toArray n n2 _ _ sl sl2 (by rw [List.size_toArray, List.size_toArray, ← r.length, ← r2.length]; exact hz)) ⟨ho, ho2, ?_⟩
  rw [ea]
  exact ⟨.ref _, _, I.lnew (t' := s.toks) (r.append r2) (by rw [List.length_append]; omega), rfl, q _ I.fresh⟩
def gLstAdd : D → D → Option Rv
  | .list a, .list b => if a.length + b.length ≤ 100000 then some (.newL (a ++ b)) else none
  | _, _ => none
theorem opd_lstAdd : OpD X (binaryOp .Add) gLstAdd := ⟨_, op_catW, fun S H x y a b z Q e hx hy hz q => by
  unfold gLstAdd at hz
  split at hz
  · rename_i l m
    split at hz
    · rename_i h1
      cases hz
      obtain ⟨p, xs, rfl, hp, dp⟩ := hx.list e
      obtain ⟨r, ys, rfl, hr, dr⟩ := hy.list e
      have l1 := DpAll.len dp
      have l2 := DpAll.len dr
      exact ⟨p, r, xs, ys, rfl, rfl, hp, hr, sz_of (by omega), fun p hp => q p _ hp (DpAll.app dp dr)⟩
    · cases hz
  · cases hz⟩
/-- a + b -/
def gAdd : D → D → Option Rv
  | .int i, .int j => some (.val (.int (i + j)))
  | .str a, .str b => if a.length + b.length ≤ 100000 then some (.val (.str (a ++ b))) else none
  | .tuple a, .tuple b => if a.length + b.length ≤ 100000 then some (if a.isEmpty then .val (.tuple b) else if b.isEmpty then .val (.tuple a) else .newT (a ++ b)) else none
  | .list a, .list b => if a.length + b.length ≤ 100000 then some (.newL (a ++ b)) else none
  | _, _ => none
theorem OpD.to {f : Value → Value → Sem Value} {g h : D → D → Option Rv} (a : OpD X f g) (k : ∀ x y z, h x y = some z → g x y = some z) : OpD X f h := by
  obtain ⟨r, hr, sr⟩ := a.ex
  exact ⟨r, hr, fun S H x y a b z Q e hx hy hz q => sr S H x y a b z Q e hx hy (k _ _ _ hz) q⟩
theorem opd_add : OpD X (binaryOp .Add) gAdd := (((opd_I0 (k := (· + ·)) op_add).or opd_strAdd).or (opd_tupAdd.or opd_lstAdd)).to fun x y z h => by
  unfold gAdd at h
  split at h
  · cases h; rfl
  · split at h
    · rename_i h1
      simp only [alt2, gI, gStrAdd, if_pos h1]
      exact h
    · cases h
  · split at h
    · rename_i h1
      simp only [alt2, gI, gStrAdd, gTupAdd, if_pos h1]
      exact h
    · cases h
  · split at h
    · rename_i h1
      simp only [alt2, gI, gStrAdd, gTupAdd, gLstAdd, if_pos h1]
      exact h
    · cases h
  · cases h
def gSub : D → D → Option Rv := gI fun i j => i - j
theorem opd_sub : OpD X (binaryOp .Sub) gSub := opd_I0 op_sub
def gMul : D → D → Option Rv := gIc (fun i j => (decide (-(2 ^ 64) < i) && decide (i < 2 ^ 64)) || (decide (-(2 ^ 64) < j) && decide (j < 2 ^ 64))) fun i j => i * j
theorem opd_mul : OpD X (binaryOp .Mult) gMul := opd_I op_mul fun i j h => by
  simp only [Bool.or_eq_true, Bool.and_eq_true, decide_eq_true_eq] at h
  exact h
def gDiv : D → D → Option Rv := gIc (fun _ j => decide (0 < j) && decide (j < 1073741824)) fun i j => i / j
theorem opd_div : OpD X (binaryOp .FloorDiv) gDiv := (opd_I (c := fun _ j => decide (0 < j) && decide (j < 1073741824)) (k := fun i j => i.fdiv j) op_fdivN fun i j h => by
  simp only [Bool.and_eq_true, decide_eq_true_eq] at h
  exact ⟨by omega, by omega⟩).to fun x y z h => by
  unfold gDiv gIc at *
  split at h
  · split at h
    · rename_i i j hc
      cases h
      have hc' := hc
      simp only [Bool.and_eq_true, decide_eq_true_eq] at hc'
      simp only [if_pos hc]
      rw [Int.fdiv_eq_ediv_of_nonneg _ (by omega)]
    · cases h
  · cases h
def gMod : D → D → Option Rv := gIc (fun _ j => decide (0 < j)) fun i j => i % j
theorem opd_mod : OpD X (binaryOp .Mod) gMod := (opd_I (c := fun _ j => decide (0 < j)) (k := fun i j => i.fmod j) op_modN fun i j h => by
  simp only [decide_eq_true_eq] at h
  omega).to fun x y z h => by
  unfold gMod gIc at *
  split at h
  · split at h
    · rename_i i j hc
      cases h
      have hc' := hc
      simp only [decide_eq_true_eq] at hc'
      simp only [if_pos hc]
      rw [Int.fmod_eq_emod_of_nonneg _ (by omega)]
    · cases h
  · cases h
def gPow : D → D → Option Rv := gIc (fun i j => decide (0 ≤ j) && decide (j ≤ 1000000) && decide (i.natAbs < 2 ^ 64)) fun i j => i ^ j.toNat
theorem opd_pow : OpD X (binaryOp .Pow) gPow := opd_I op_pow fun i j h => by
  simp only [Bool.and_eq_true, decide_eq_true_eq] at h
  exact ⟨h.1.1, h.1.2, h.2⟩

/-! ### comparisons -/
def gB (b : Bool) : Option Rv := some (.val (.bool b))
def scD : D → D → Option Bool
  | .none, .none => some true
  | .bool a, .bool b => some (a == b)
  | .int a, .int b => some (a == b)
  | .str a, .str b => some (a == b)
  | a, b => if SeqAt.shaped a && SeqAt.shaped b then some (PyData.eqv a b) else none
def gEq (a b : D) : Option Rv := (scD a b).bind gB
def gNe (a b : D) : Option Rv := (scD a b).bind fun k => gB (!k)
theorem sem_eq {K : PySem.W.Frag} : Sem2 K (fun x y H Q => rEq x y H Q ∨ rEqD K x y H Q) gEq := fun S H x y a b z Q e hx hy hz q => by
  unfold gEq scD at hz
  split at hz
  · cases hz
    have h1 := hx.non
    have h2 := hy.non
    subst h1 h2
    exact .inl ⟨rfl, q _ (by simpa using Dp.bl _)⟩
  · cases hz
    have h1 := hx.bool
    have h2 := hy.bool
    subst h1 h2
    exact .inl ⟨rfl, by rw [dec_bl]; exact q _ (.bl _)⟩
  · cases hz
    have h1 := hx.int
    have h2 := hy.int
    subst h1 h2
    exact .inl ⟨rfl, by rw [dec_int]; exact q _ (.bl _)⟩
  · cases hz
    have h1 := hx.str
    have h2 := hy.str
    subst h1 h2
    exact .inl ⟨rfl, by rw [dec_str]; exact q _ (.bl _)⟩
  · split at hz
    · rename_i h
      simp only [Bool.and_eq_true] at h
      cases hz
      exact .inr ⟨_, _, hx.dp e, hy.dp e, h.1, h.2, q _ (.bl _)⟩
    · cases hz
theorem sem_ne {K : PySem.W.Frag} : Sem2 K (fun x y H Q => rNe x y H Q ∨ rNeD K x y H Q) gNe := fun S H x y a b z Q e hx hy hz q => by
  unfold gNe scD at hz
  split at hz
  · cases hz
    have h1 := hx.non
    have h2 := hy.non
    subst h1 h2
    exact .inl ⟨rfl, q _ (by simpa using Dp.bl _)⟩
  · cases hz
    have h1 := hx.bool
    have h2 := hy.bool
    subst h1 h2
    exact .inl ⟨rfl, by rw [dec_bl]; exact q _ (.bl _)⟩
  · cases hz
    have h1 := hx.int
    have h2 := hy.int
    subst h1 h2
    exact .inl ⟨rfl, by rw [dec_int]; exact q _ (.bl _)⟩
  · cases hz
    have h1 := hx.str
    have h2 := hy.str
    subst h1 h2
    exact .inl ⟨rfl, by rw [dec_str]; exact q _ (.bl _)⟩
  · split at hz
    · rename_i h
      simp only [Bool.and_eq_true] at h
      cases hz
      exact .inr ⟨_, _, hx.dp e, hy.dp e, h.1, h.2, q _ (.bl _)⟩
    · cases hz
theorem OpR.or {f : Value → Value → Sem Value} {r r' : R2} (a : OpR X f r) (b : OpR X f r') : OpR X f (fun x y H Q => r x y H Q ∨ r' x y H Q) := fun pins s σ H x y v u Q I rx ry q => by
  rcases q with q | q
  · exact a pins s σ H x y v u Q I rx ry q
  · exact b pins s σ H x y v u Q I rx ry q
theorem opd_eq (hu : X.A.units + 64 < cLine) : OpD X (compareOp .Eq) gEq := ⟨_, OpR.or op_eq (op_eqD hu), sem_eq⟩
theorem opd_ne (hu : X.A.units + 64 < cLine) : OpD X (compareOp .NotEq) gNe := ⟨_, OpR.or op_ne (op_neD hu), sem_ne⟩
def gCmp (fi : Int → Int → Bool) (fs : List Nat → List Nat → Bool) : D → D → Option Rv
  | .int i, .int j => gB (fi i j)
  | .str a, .str b => gB (fs a.cps.toList b.cps.toList)
  | _, _ => none
theorem opd_cmp {op : CmpOp} {fi : Int → Int → Bool} {fs : List Nat → List Nat → Bool} (h1 : OpR X (compareOp op) (rI0 fun i j => .bl (fi i j)))
    (h2 : OpR X (compareOp op) (fun x y H Q => ∃ i j, x = .str i ∧ y = .str j ∧ Q (.bl (fs i.cps.toList j.cps.toList)) H)) : OpD X (compareOp op) (gCmp fi fs) := ⟨_, OpR.or h1 h2, fun S H x y a b z Q e hx hy hz q => by
  unfold gCmp at hz
  split at hz
  · cases hz
    exact .inl ⟨_, _, hx.int, hy.int, q _ (.bl _)⟩
  · cases hz
    exact .inr ⟨_, _, hx.str, hy.str, q _ (.bl _)⟩
  · cases hz⟩
def gLt : D → D → Option Rv := gCmp (fun i j => decide (i < j)) fun i j => decide (i < j)
def gLe : D → D → Option Rv := gCmp (fun i j => decide (i ≤ j)) fun i j => !decide (j < i)
def gGt : D → D → Option Rv := gCmp (fun i j => decide (i > j)) fun i j => decide (j < i)
def gGe : D → D → Option Rv := gCmp (fun i j => decide (i ≥ j)) fun i j => !decide (i < j)
theorem opd_lt : OpD X (compareOp .Lt) gLt := opd_cmp op_lt op_lt_str
/-- is None -/
def isNone : D → Bool
  | .none => true
  | _ => false
def gIs : D → D → Option Rv
  | a, .none => gB (isNone a)
  | _, _ => none
def gIsNot : D → D → Option Rv
  | a, .none => gB (!isNone a)
  | _, _ => none
theorem LD.isNone {K : PySem.W.Frag} {S H : Hp} {v : V} {d : D} (h : LD K S H v d) : decide (v = .non) = isNone d := by
  cases d with
  | none => rw [h.non]; rfl
  | bool b => rw [h.bool]; rfl
  | int b => rw [h.int]; rfl
  | str b => rw [h.str]; rfl
  | list l =>
    rcases h with h | ⟨p, xs, l', rfl, e, _⟩
    · cases h; rfl
    · rfl
  | tuple l =>
    rcases h with h | ⟨p, xs, l', rfl, e, _⟩
    · cases h; rfl
    · cases e
  | dict l =>
    rcases h with h | ⟨p, xs, l', rfl, e, _⟩
    · cases h
    · cases e
theorem opd_is : OpD X (compareOp .Is) gIs := ⟨_, op_isN, fun S H x y a b z Q e hx hy hz q => by
  unfold gIs at hz
  split at hz
  · cases hz
    exact ⟨hy.non, by rw [hx.isNone]; exact q _ (.bl _)⟩
  · cases hz⟩
theorem opd_isnot : OpD X (compareOp .IsNot) gIsNot := ⟨_, op_notN, fun S H x y a b z Q e hx hy hz q => by
  unfold gIsNot at hz
  split at hz
  · cases hz
    exact ⟨hy.non, by rw [hx.isNone]; exact q _ (.bl _)⟩
  · cases hz⟩
/-! ### in -/
def flatD : D → Bool
  | .none => true
  | .bool _ => true
  | .int _ => true
  | .str _ => true
  | _ => false
theorem Dp.flat {K : PySem.W.Frag} {H : Hp} {v : V} {d : D} (h : Dp K H v d) (f : flatD d = true) : flatV v = true := by
  cases h <;> first | rfl | cases f
theorem Dp.eqv {K : PySem.W.Frag} {H : Hp} {v u : V} {d e : D} (h : Dp K H v d) (f : flatD d = true) (h' : Dp K H u e) (f' : flatD e = true) : eqV v u = PyData.eqv d e := by
  cases h <;> first | (cases f; done) | (cases h' <;> first | (cases f'; done) | (simp [L2.eqV, PyData.eqv]))
theorem DpAll.flat {K : PySem.W.Frag} {H : Hp} {xs : List V} {l : List D} (h : DpAll K H xs l) (f : l.all flatD = true) : xs.all flatV = true := by
  induction l generalizing xs with
  | nil => cases h; rfl
  | cons d l ih =>
    cases h with
    | cons a b =>
      rw [List.all_cons, Bool.and_eq_true] at f ⊢
      exact ⟨Dp.flat a f.1, ih b f.2⟩
theorem DpAll.inV {K : PySem.W.Frag} {H : Hp} {v : V} {d : D} (h : Dp K H v d) (f : flatD d = true) {l : List D} : ∀ {xs : List V}, DpAll K H xs l → l.all flatD = true → inV v xs = l.any fun y => PyData.eqv y d := by
  induction l with
  | nil => intro xs hx _; cases hx; rfl
  | cons e l ih =>
    intro xs hx fl
    cases hx with
    | cons a b =>
      rw [List.all_cons, Bool.and_eq_true] at fl
      show (eqV _ v || L2.inV v _) = _
      rw [ih b fl.2, Dp.eqv a fl.1 h f, List.any_cons]
def gIn (neg : Bool) : D → D → Option Rv
  | a, .list l => if flatD a && l.all flatD then gB (neg != l.any fun y => PyData.eqv y a) else none
  | a, .tuple l => if flatD a && l.all flatD then gB (neg != l.any fun y => PyData.eqv y a) else none
  | .str c, .str z => match c.cps.toList with
    | [k] => gB (neg != decide (k ∈ z.cps.toList))
    | _ => none
  | _, _ => none
theorem xor_neg (neg b : Bool) : (if neg then !b else b) = (neg != b) := by cases neg <;> cases b <;> rfl
theorem one_sign {c : Str} {k : Nat} (h : c.cps.toList = [k]) : c = ⟨#[k]⟩ := by
  cases c with
  | mk a =>
    congr
    exact Array.toList_inj.mp h
theorem sem_in {K : PySem.W.Frag} (neg : Bool) : Sem2 K (fun x y H Q => rIn K neg x y H Q ∨ ∃ (c : Nat) (z : Str), x = .str ⟨#[c]⟩ ∧ y = .str z ∧ Q (.bl (neg != decide (c ∈ z.cps.toList))) H) (gIn neg) := fun S H x y a b z Q e hx hy hz q => by
  unfold gIn at hz
  split at hz
  · rename_i l
    split at hz
    · rename_i h
      rw [Bool.and_eq_true] at h
      cases hz
      obtain ⟨p, xs, rfl, hp, dp⟩ := hy.list e
      have dp := DpAll.mono e _ _ dp
      have dx := hx.dp e
      exact .inl ⟨p, xs, rfl, .inl hp, Dp.flat dx h.1, DpAll.flat dp h.2, by rw [xor_neg, DpAll.inV dx h.1 dp h.2]; exact q _ (.bl _)⟩
    · cases hz
  · rename_i l
    split at hz
    · rename_i h
      rw [Bool.and_eq_true] at h
      cases hz
      obtain ⟨p, xs, rfl, hp, dp⟩ := hy.tuple e
      have dp := DpAll.mono e _ _ dp
      have dx := hx.dp e
      exact .inl ⟨p, xs, rfl, .inr hp, Dp.flat dx h.1, DpAll.flat dp h.2, by rw [xor_neg, DpAll.inV dx h.1 dp h.2]; exact q _ (.bl _)⟩
    · cases hz
  · rename_i c z
    split at hz
    · rename_i k hk
      cases hz
      have h1 := hx.str
      rw [one_sign hk] at h1
      exact .inr ⟨k, z, h1, hy.str, q _ (.bl _)⟩
    · cases hz
  · cases hz
theorem opd_in : OpD X (compareOp .In) (gIn false) := ⟨_, OpR.or op_in_seq (show OpR X (compareOp .In) (fun x y H Q => ∃ (c : Nat) (z : Str), x = .str ⟨#[c]⟩ ∧ y = .str z ∧ Q (.bl (false != decide (c ∈ z.cps.toList))) H) from fun pins s σ H x y v u Q I rx ry h => by
  obtain ⟨c, z, h1, h2, h3⟩ := h
  exact op_in_sign pins s σ H x y v u Q I rx ry ⟨c, z, h1, h2, by simpa using h3⟩), sem_in false⟩
theorem opd_notin : OpD X (compareOp .NotIn) (gIn true) := ⟨_, OpR.or op_notIn_seq (show OpR X (compareOp .NotIn) (fun x y H Q => ∃ (c : Nat) (z : Str), x = .str ⟨#[c]⟩ ∧ y = .str z ∧ Q (.bl (true != decide (c ∈ z.cps.toList))) H) from fun pins s σ H x y v u Q I rx ry h => by
  obtain ⟨c, z, h1, h2, h3⟩ := h
  refine op_notIn_sign pins s σ H x y v u Q I rx ry ⟨c, z, h1, h2, ?_⟩
  rwa [show (true != decide (c ∈ z.cps.toList)) = !decide (c ∈ z.cps.toList) by cases decide (c ∈ z.cps.toList) <;> rfl] at h3), sem_in true⟩
end
end Den

namespace Den
open PySem PySem.Spec L2

section
variable {X : Cx}
theorem opd_le : OpD X (compareOp .LtE) gLe := ⟨_, OpR.or op_le op_le_str, fun S H x y a b z Q e hx hy hz q => by
  unfold gLe gCmp at hz
  split at hz
  · cases hz
    exact .inl ⟨_, _, hx.int, hy.int, q _ (.bl _)⟩
  · cases hz
    exact .inr ⟨_, _, hx.str, hy.str, q _ (.bl _)⟩
  · cases hz⟩
end

/-! ### a < b < c -/
def gBool : Option Rv → Option Bool
  | some (.val (.bool b)) => some b
  | _ => none
def dChain (f g : D → D → Option Rv) (fa fb fc : Env → Out (Late × Env)) : Env → Out (Slot × Env) := fun ρ =>
  (fa ρ).bind fun p => (fb p.2).bind fun q => match p.1.res q.2, q.1.res q.2 with
    | some a, some b => match gBool (f a b) with
      | some true => (fc q.2).bind fun r => match q.1.res r.2, r.1.res r.2 with
        | some b', some c => match gBool (g b' c) with
          | some k => .ok (.sh (.bool k), r.2)
          | none => .bad
        | _, _ => .bad
      | some false => .ok (.sh (.bool false), q.2)
      | none => .bad
    | _, _ => .bad
theorem rq_bool {K : PySem.W.Frag} {S H : Hp} {Q : VK} {o : Option Rv} {k : Bool} (h : gBool o = some k) (q : Q (.bl k) H) : ∃ z, o = some z ∧ RQ K S H Q z := by
  unfold gBool at h
  split at h
  · cases h
    exact ⟨_, rfl, fun v hv => by cases hv; exact q⟩
  · cases h
section
variable {X : Cx} {F : Fr} {W : WX} {a b c : Expr} {pos : Pos} {fa fb fc : Env → Out (Late × Env)}
theorem chain_core {f g : D → D → Option Rv} {r r' : R2} (sr : Sem2 X.K r f) (sr' : Sem2 X.K r' g) {σ : L2.St} {H : Hp} {Q : VK} (q : tE X.K X.mg F W (dChain f g fa fb fc) σ H Q) :
    tChain r r' (tO X.K X.mg F W fa) (tO X.K X.mg F W fb) (tO X.K X.mg F W fc) σ H Q := by
  obtain ⟨S, ρ, gg, q⟩ := q
  refine ⟨S, ρ, gg, ?_⟩
  unfold dChain at q
  cases hf : fa ρ with
  | ok p =>
    obtain ⟨la, ρ1⟩ := p
    rw [hf] at q
    intro v S1 H1 g1 e1 hv
    refine ⟨S1, ρ1, g1, ?_⟩
    dsimp only [Out.bind] at q
    cases hk : fb ρ1 with
    | ok p2 =>
      obtain ⟨lb, ρ2⟩ := p2
      rw [hk] at q
      intro u S2 H2 g2 e2 hu
      dsimp only at q
      cases ha : la.res ρ2 with
      | none => rw [ha] at q; exact q.elim
      | some da =>
        cases hb : lb.res ρ2 with
        | none => rw [ha, hb] at q; exact q.elim
        | some db =>
          rw [ha, hb] at q
          dsimp only at q
          cases hg : gBool (f da db) with
          | none => rw [hg] at q; exact q.elim
          | some k =>
            rw [hg] at q
            cases k with
            | false =>
              obtain ⟨z, hz, rq⟩ := rq_bool (K := X.K) (S := S2) (H := H2) (Q := fun z H3 => ∃ k, z = .bl k ∧ if k = true then tO X.K X.mg F W fc σ H3 fun w H4 => r' u w H4 Q else Q (.bl false) H3) hg
                ⟨false, rfl, q _ S2 H2 g2 (e1.trans e2) (.bl _)⟩
              exact sr S2 H2 v u da db z _ g2.ex ((hv.mono e2).ld g2 ha) (hu.ld g2 hb) hz rq
            | true =>
              refine (fun rest => ?_ : (tO X.K X.mg F W fc σ H2 fun w H4 => r' u w H4 Q) → _) ?_
              · obtain ⟨z, hz, rq⟩ := rq_bool (K := X.K) (S := S2) (H := H2) (Q := fun z H3 => ∃ k, z = .bl k ∧ if k = true then tO X.K X.mg F W fc σ H3 fun w H4 => r' u w H4 Q else Q (.bl false) H3) hg
                  ⟨true, rfl, rest⟩
                exact sr S2 H2 v u da db z _ g2.ex ((hv.mono e2).ld g2 ha) (hu.ld g2 hb) hz rq
              · refine ⟨S2, ρ2, g2, ?_⟩
                cases hc : fc ρ2 with
                | ok p3 =>
                  obtain ⟨lc, ρ3⟩ := p3
                  rw [hc] at q
                  intro w S3 H3 g3 e3 hw
                  dsimp only at q
                  cases hb3 : lb.res ρ3 with
                  | none => rw [hb3] at q; exact q.elim
                  | some db' =>
                    cases hc3 : lc.res ρ3 with
                    | none => rw [hb3, hc3] at q; exact q.elim
                    | some dc =>
                      rw [hb3, hc3] at q
                      dsimp only at q
                      cases hg' : gBool (g db' dc) with
                      | none => rw [hg'] at q; exact q.elim
                      | some k =>
                        rw [hg'] at q
                        obtain ⟨z, hz, rq⟩ := rq_bool (K := X.K) (S := S3) (H := H3) (Q := Q) hg' (q _ S3 H3 g3 (e1.trans (e2.trans e3)) (.bl _))
                        exact sr' S3 H3 u w db' dc z Q g3.ex ((hu.mono e3).ld g3 hb3) (hw.ld g3 hc3) hz rq
                | exc c fs ρ' => rw [hc] at q; exact xweak (e1.trans e2) q
                | bad => rw [hc] at q; exact q.elim
    | exc c fs ρ' => rw [hk] at q; exact xweak e1 q
    | bad => rw [hk] at q; exact q.elim
  | exc c fs ρ' => rw [hf] at q; exact q
  | bad => rw [hf] at q; exact q.elim
theorem re_chain {op op' : CmpOp} {f g : D → D → Option Rv} (ho : OpD X (compareOp op) f) (ho' : OpD X (compareOp op') g) (ha : RO X F W a fa) (hb : RO X F W b fb) (hc : RO X F W c fc)
    (hm : lastMarks [op, op'] [b, c] = false := by with_unfolding_all rfl) : RE X F W (.Compare a [op, op'] [b, c] pos) (dChain f g fa fb fc) := by
  obtain ⟨r, hr, sr⟩ := ho.ex
  obtain ⟨r', hr', sr'⟩ := ho'.ex
  exact PE.imp (pe_chain hr hr' ha hb hc hm) fun σ H Q q => chain_core sr sr' q
theorem rt_chain {op op' : CmpOp} {f g : D → D → Option Rv} (ho : OpD X (compareOp op) f) (ho' : OpD X (compareOp op') g) (ha : RO X F W a fa) (hb : RO X F W b fb) (hc : RO X F W c fc)
    (hm : lastMarks [op, op'] [b, c] = false := by with_unfolding_all rfl) : RT X F W (.Compare a [op, op'] [b, c] pos) (tst (dChain f g fa fb fc)) := by
  obtain ⟨r, hr, sr⟩ := ho.ex
  obtain ⟨r', hr', sr'⟩ := ho'.ex
  exact PT.imp (pt_chain hr hr' ha hb hc hm) fun σ H Q q => chain_core sr sr' (tst_core q)
end

/-! ### and, or, not, if else -/
def dAndT (f g : Env → Out (Bool × Env)) : Env → Out (Bool × Env) := fun ρ => (f ρ).bind fun p => if p.1 then g p.2 else .ok (false, p.2)
def dOrT (f g : Env → Out (Bool × Env)) : Env → Out (Bool × Env) := fun ρ => (f ρ).bind fun p => if p.1 then .ok (true, p.2) else g p.2
def dNotT (f : Env → Out (Bool × Env)) : Env → Out (Bool × Env) := fun ρ => (f ρ).bind fun p => .ok (!p.1, p.2)
/-- a test's answer as a value -/
def bval (f : Env → Out (Bool × Env)) : Env → Out (Slot × Env) := fun ρ => (f ρ).bind fun p => .ok (.sh (.bool p.1), p.2)
def dAnd (f : Env → Out (Slot × Env)) (g : Env → Out (Slot × Env)) : Env → Out (Slot × Env) := fun ρ => (tst f ρ).bind fun p => if p.1 then g p.2 else .ok (.sh (.bool false), p.2)
def dOr (f : Env → Out (Slot × Env)) (g : Env → Out (Slot × Env)) : Env → Out (Slot × Env) := fun ρ => (tst f ρ).bind fun p => if p.1 then .ok (.sh (.bool true), p.2) else g p.2
def dNot (f : Env → Out (Slot × Env)) : Env → Out (Slot × Env) := fun ρ => (tst f ρ).bind fun p => .ok (.sh (.bool !p.1), p.2)
def dIte (c : Env → Out (Bool × Env)) (f g : Env → Out (Slot × Env)) : Env → Out (Slot × Env) := fun ρ => (c ρ).bind fun p => if p.1 then f p.2 else g p.2
section
variable {X : Cx} {F : Fr} {W : WX} {a b c e : Expr} {pos : Pos} {rest : List Expr}
/-- a test whatever its 'whole' is -/
def RW (X : Cx) (F : Fr) (W : WX) (e : Expr) (f : Env → Out (Bool × Env)) : Prop := PW X e (tT X.K X.mg F W f)
theorem PW.imp {X : Cx} {e : Expr} {t u : TT} (h : PW X e t) (k : ∀ σ H Q, u σ H Q → t σ H Q) : PW X e u := ⟨fun wh pins s σ H Q I q => h.run wh pins s σ H Q I (k σ H Q q)⟩
theorem and_core {f g : Env → Out (Bool × Env)} {σ : L2.St} {H : Hp} {Q : Bool → Hp → Prop} (q : tT X.K X.mg F W (dAndT f g) σ H Q) : tAnd (tT X.K X.mg F W f) (tT X.K X.mg F W g) σ H Q := by
  obtain ⟨S, ρ, gg, q⟩ := q
  refine ⟨S, ρ, gg, ?_⟩
  unfold dAndT at q
  cases hf : f ρ with
  | ok p =>
    obtain ⟨b, ρ1⟩ := p
    rw [hf] at q
    intro S1 H1 g1 e1
    dsimp only [Out.bind] at q
    cases b with
    | true =>
      rw [if_pos rfl] at q ⊢
      refine ⟨S1, ρ1, g1, ?_⟩
      cases hg : g ρ1 with
      | ok p2 => rw [hg] at q; exact fun S2 H2 g2 e2 => q S2 H2 g2 (e1.trans e2)
      | exc c fs ρ' => rw [hg] at q; exact xweak e1 q
      | bad => rw [hg] at q; exact q.elim
    | false => exact q S1 H1 g1 e1
  | exc c fs ρ' => rw [hf] at q; exact q
  | bad => rw [hf] at q; exact q.elim
theorem or_core {f g : Env → Out (Bool × Env)} {σ : L2.St} {H : Hp} {Q : Bool → Hp → Prop} (q : tT X.K X.mg F W (dOrT f g) σ H Q) : tOr (tT X.K X.mg F W f) (tT X.K X.mg F W g) σ H Q := by
  obtain ⟨S, ρ, gg, q⟩ := q
  refine ⟨S, ρ, gg, ?_⟩
  unfold dOrT at q
  cases hf : f ρ with
  | ok p =>
    obtain ⟨b, ρ1⟩ := p
    rw [hf] at q
    intro S1 H1 g1 e1
    dsimp only [Out.bind] at q
    cases b with
    | false =>
      rw [if_neg Bool.false_ne_true] at q ⊢
      refine ⟨S1, ρ1, g1, ?_⟩
      cases hg : g ρ1 with
      | ok p2 => rw [hg] at q; exact fun S2 H2 g2 e2 => q S2 H2 g2 (e1.trans e2)
      | exc c fs ρ' => rw [hg] at q; exact xweak e1 q
      | bad => rw [hg] at q; exact q.elim
    | true => exact q S1 H1 g1 e1
  | exc c fs ρ' => rw [hf] at q; exact q
  | bad => rw [hf] at q; exact q.elim
theorem rw_and1 {f : Env → Out (Bool × Env)} (h : RT X F W a f) : RW X F W (.BoolOp .And [a] pos) f := pw_and1 h
theorem rw_or1 {f : Env → Out (Bool × Env)} (h : RT X F W a f) : RW X F W (.BoolOp .Or [a] pos) f := pw_or1 h
theorem rw_and {f g : Env → Out (Bool × Env)} (h : RT X F W a f) (hb : RW X F W (.BoolOp .And (b :: rest) pos) g) : RW X F W (.BoolOp .And (a :: b :: rest) pos) (dAndT f g) := PW.imp (pw_and h hb) fun σ H Q q => and_core q
theorem rw_or {f g : Env → Out (Bool × Env)} (h : RT X F W a f) (hb : RW X F W (.BoolOp .Or (b :: rest) pos) g) : RW X F W (.BoolOp .Or (a :: b :: rest) pos) (dOrT f g) := PW.imp (pw_or h hb) fun σ H Q q => or_core q
theorem RW.rt {f : Env → Out (Bool × Env)} (h : RW X F W e f) : RT X F W e f := L2.PW.pt h
theorem rt_not {f : Env → Out (Bool × Env)} (h : RT X F W a f) : RT X F W (.UnaryOp .Not a pos) (dNotT f) := PT.imp (pt_not h) fun σ H Q q => by
  obtain ⟨S, ρ, gg, q⟩ := q
  refine ⟨S, ρ, gg, ?_⟩
  unfold dNotT at q
  cases hf : f ρ with
  | ok p => rw [hf] at q; exact q
  | exc c fs ρ' => rw [hf] at q; exact q
  | bad => rw [hf] at q; exact q.elim
/-- from a value that must be a truth value -/
theorem val_core {f : Env → Out (Slot × Env)} {k : Bool × Env → Out (Slot × Env)} {σ : L2.St} {H : Hp} {Q : VK} (q : tE X.K X.mg F W (fun ρ => (tst f ρ).bind k) σ H Q) :
    tE X.K X.mg F W f σ H fun x H1 => ∃ b, x = .bl b ∧ ∃ S1 ρ1, G X.K F S1 H1 σ ρ1 ∧ EPost X.K X.mg F W S1 σ Q (k (b, ρ1)) := by
  obtain ⟨S, ρ, gg, q⟩ := q
  refine ⟨S, ρ, gg, ?_⟩
  unfold tst at q
  dsimp only at q
  cases hf : f ρ with
  | ok p =>
    obtain ⟨r, ρ1⟩ := p
    rw [hf] at q
    intro v S1 H1 g1 e1 hv
    dsimp only [Out.bind] at q
    cases r with
    | ow l => exact q.elim
    | tk => exact q.elim
    | sh d =>
      cases d with
      | bool b =>
        cases hv
        refine ⟨b, rfl, S1, ρ1, g1, ?_⟩
        have q : EPost X.K X.mg F W S σ Q (k (b, ρ1)) := q
        revert q
        generalize k (b, ρ1) = o
        intro q
        cases o with
        | ok p2 => exact fun v S2 H2 g2 e2 h2 => q v S2 H2 g2 (e1.trans e2) h2
        | exc c fs ρ' => exact xweak e1 q
        | bad => exact q.elim
      | _ => exact q.elim
  | exc c fs ρ' => rw [hf] at q; exact q
  | bad => rw [hf] at q; exact q.elim
theorem re_and {f g : Env → Out (Slot × Env)} (h : RE X F W a f) (hb : RE X F W (.BoolOp .And (b :: rest) pos) g) : RE X F W (.BoolOp .And (a :: b :: rest) pos) (dAnd f g) := PE.imp (pe_and h hb) fun σ H Q q => by
  have q := val_core q
  obtain ⟨S, ρ, gg, q⟩ := q
  refine ⟨S, ρ, gg, ?_⟩
  revert q
  generalize f ρ = o
  intro q
  cases o with
  | ok p =>
    intro v S1 H1 g1 e1 hv
    obtain ⟨b, rfl, S2, ρ2, g2, q2⟩ := q v S1 H1 g1 e1 hv
    refine ⟨b, rfl, ?_⟩
    cases b with
    | true => exact ⟨S2, ρ2, g2, q2⟩
    | false => exact q2 _ S2 H1 g2 (Ex.refl S2) (.bl _)
  | exc c fs ρ' => exact q
  | bad => exact q.elim
theorem re_or {f g : Env → Out (Slot × Env)} (h : RE X F W a f) (hb : RE X F W (.BoolOp .Or (b :: rest) pos) g) : RE X F W (.BoolOp .Or (a :: b :: rest) pos) (dOr f g) := PE.imp (pe_or h hb) fun σ H Q q => by
  have q := val_core q
  obtain ⟨S, ρ, gg, q⟩ := q
  refine ⟨S, ρ, gg, ?_⟩
  revert q
  generalize f ρ = o
  intro q
  cases o with
  | ok p =>
    intro v S1 H1 g1 e1 hv
    obtain ⟨b, rfl, S2, ρ2, g2, q2⟩ := q v S1 H1 g1 e1 hv
    refine ⟨b, rfl, ?_⟩
    cases b with
    | false => exact ⟨S2, ρ2, g2, q2⟩
    | true => exact q2 _ S2 H1 g2 (Ex.refl S2) (.bl _)
  | exc c fs ρ' => exact q
  | bad => exact q.elim
theorem re_one {op : BoolOp} {f : Env → Out (Slot × Env)} (h : RE X F W a f) : RE X F W (.BoolOp op [a] pos) f := pe_one h
theorem re_not {f : Env → Out (Slot × Env)} (h : RE X F W a f) : RE X F W (.UnaryOp .Not a pos) (dNot f) := PE.imp (pe_not h) fun σ H Q q => by
  have q := val_core q
  obtain ⟨S, ρ, gg, q⟩ := q
  refine ⟨S, ρ, gg, ?_⟩
  revert q
  generalize f ρ = o
  intro q
  cases o with
  | ok p =>
    intro v S1 H1 g1 e1 hv
    obtain ⟨b, rfl, S2, ρ2, g2, q2⟩ := q v S1 H1 g1 e1 hv
    exact ⟨b, rfl, q2 _ S2 H1 g2 (Ex.refl S2) (.bl _)⟩
  | exc c fs ρ' => exact q
  | bad => exact q.elim
/-- from a test -/
theorem test_core {f : Env → Out (Bool × Env)} {α : Type} {k : Bool × Env → Out (Slot × Env)} {σ : L2.St} {H : Hp} {Q : VK} (q : tE X.K X.mg F W (fun ρ => (f ρ).bind k) σ H Q) :
    tT X.K X.mg F W f σ H fun b H1 => ∃ S1 ρ1, G X.K F S1 H1 σ ρ1 ∧ EPost X.K X.mg F W S1 σ Q (k (b, ρ1)) := by
  obtain ⟨S, ρ, gg, q⟩ := q
  refine ⟨S, ρ, gg, ?_⟩
  dsimp only at q
  cases hf : f ρ with
  | ok p =>
    obtain ⟨b, ρ1⟩ := p
    rw [hf] at q
    intro S1 H1 g1 e1
    refine ⟨S1, ρ1, g1, ?_⟩
    have q : EPost X.K X.mg F W S σ Q (k (b, ρ1)) := q
    revert q
    generalize k (b, ρ1) = o
    intro q
    cases o with
    | ok p2 => exact fun v S2 H2 g2 e2 h2 => q v S2 H2 g2 (e1.trans e2) h2
    | exc c fs ρ' => exact xweak e1 q
    | bad => exact q.elim
  | exc c fs ρ' => rw [hf] at q; exact q
  | bad => rw [hf] at q; exact q.elim
theorem re_ite {t : Env → Out (Bool × Env)} {f g : Env → Out (Slot × Env)} (h : RT X F W c t) (ha : RE X F W a f) (hb : RE X F W b g) : RE X F W (.IfExp c a b pos) (dIte t f g) := PE.imp (pe_ifExp h ha hb) fun σ H Q q => by
  have q := test_core (α := Unit) q
  obtain ⟨S, ρ, gg, q⟩ := q
  refine ⟨S, ρ, gg, ?_⟩
  revert q
  generalize t ρ = o
  intro q
  cases o with
  | ok p =>
    intro S1 H1 g1 e1
    obtain ⟨S2, ρ2, g2, q2⟩ := q S1 H1 g1 e1
    obtain ⟨b, ρ1⟩ := p
    cases b with
    | true => exact ⟨S2, ρ2, g2, q2⟩
    | false => exact ⟨S2, ρ2, g2, q2⟩
  | exc c fs ρ' => exact q
  | bad => exact q.elim
end
end Den

namespace Den
open PySem PySem.Spec L2

section
variable {X : Cx}
theorem opd_gt : OpD X (compareOp .Gt) gGt := opd_cmp (fi := fun i j => decide (i > j)) (fs := fun i j => decide (j < i)) op_gt op_gt_str
theorem opd_ge : OpD X (compareOp .GtE) gGe := opd_cmp (fi := fun i j => decide (i ≥ j)) (fs := fun i j => !decide (i < j)) op_ge op_ge_str
end

/-! ### items -/
def gIdx : D → D → Option Rv
  | .list l, .int i => (atI l i).map .val
  | .tuple l, .int i => (atI l i).map .val
  | .str z, .int i => if z.length ≤ 100000 then (atI z.cps.toList i).map fun c => .val (.str ⟨#[c]⟩) else none
  | _, _ => none
theorem atI_get {α : Type} {l : List α} {i : Int} {d : α} (h : atI l i = some d) : ∃ j, ixN l.length i = some j ∧ l[j]? = some d := by
  unfold atI at h
  cases e : ixN l.length i with
  | none => rw [e] at h; cases h
  | some j => rw [e] at h; exact ⟨j, rfl, h⟩
theorem DpAll.at {K : PySem.W.Frag} {H : Hp} {xs : List V} {l : List D} {i : Int} {d : D} (h : DpAll K H xs l) (hi : atI l i = some d) : ∃ v, atI xs i = some v ∧ Dp K H v d := by
  obtain ⟨j, h1, h2⟩ := atI_get hi
  obtain ⟨v, h3, h4⟩ := DpAll.getd h h2
  exact ⟨v, by unfold atI; rw [DpAll.len h, h1]; exact h3, h4⟩
theorem sem_idx {K : PySem.W.Frag} : Sem2 K (rIx K) gIdx := fun S H x y a b z Q e hx hy hz q => by
  unfold gIdx at hz
  split at hz
  · rename_i l i
    cases hl : atI l i with
    | none => rw [hl] at hz; cases hz
    | some d =>
      rw [hl] at hz
      cases hz
      obtain ⟨p, xs, rfl, hp, dp⟩ := hx.list e
      obtain ⟨v, h1, h2⟩ := DpAll.at dp hl
      exact .inl ⟨p, xs, i, v, rfl, hy.int, hp, h1, q v h2⟩
  · rename_i l i
    cases hl : atI l i with
    | none => rw [hl] at hz; cases hz
    | some d =>
      rw [hl] at hz
      cases hz
      obtain ⟨p, xs, rfl, hp, dp⟩ := hx.tuple e
      obtain ⟨v, h1, h2⟩ := DpAll.at dp hl
      exact .inr (.inl ⟨p, xs, i, v, rfl, hy.int, hp, h1, q v h2⟩)
  · rename_i w i
    split at hz
    · rename_i hw
      cases hl : atI w.cps.toList i with
      | none => rw [hl] at hz; cases hz
      | some c =>
        rw [hl] at hz
        cases hz
        exact .inr (.inr ⟨w, i, c, hx.str, hy.int, sz_of hw, hl, q _ (.str _)⟩)
    · cases hz
  · cases hz
def dIdx : (Env → Out (Late × Env)) → (Env → Out (Late × Env)) → Env → Out (Slot × Env) := dBin gIdx
section
variable {X : Cx} {F : Fr} {W : WX} {a b c e : Expr} {es : List Expr} {pos p2 : Pos} {fa fb fc : Env → Out (Late × Env)}
theorem re_idx (ha : RO X F W a fa) (hb : RO X F W b fb) (hs : PlainIx b) : RE X F W (.Subscript a b pos) (dIdx fa fb) := PE.imp (pe_ix ix_seq ha hb hs) fun σ H Q q => bin_core sem_idx q

/-! ### slices -/
def cutD {α : Type} (xs : List α) (lo hi : Option Int) : List α := (xs.drop (HT.sIx xs.length 0 lo)).take (HT.sIx xs.length xs.length hi - HT.sIx xs.length 0 lo)
def gSl : D → Option Int → Option Int → Option Rv
  | .list l, lo, hi => some (.newL (cutD l lo hi))
  | .str z, lo, hi => if z.length ≤ 100000 then some (.val (.str (cutS z lo hi))) else none
  | .tuple l, lo, hi => some (if HT.sIx l.length 0 lo = 0 ∧ HT.sIx l.length l.length hi = l.length then .val (.tuple l) else .newT (cutD l lo hi))
  | _, _, _ => none
theorem DpAll.cut {K : PySem.W.Frag} {H : Hp} {xs : List V} {l : List D} {lo hi : Option Int} (h : DpAll K H xs l) : DpAll K H (cutV xs lo hi) (cutD l lo hi) := by
  unfold cutV cutD
  rw [DpAll.len h]
  exact DpAll.take _ (DpAll.drop _ h)
def rSlAny (K : PySem.W.Frag) : V → Option Int → Option Int → Hp → VK → Prop := fun x lo hi H Q => rSlL K x lo hi H Q ∨ (rSlA K x lo hi H Q ∨ rSlS x lo hi H Q)
theorem sl_any : SlR X (rSlAny X.K) := sl_list.or (sl_tupA.or sl_str)
theorem sem_sl {K : PySem.W.Frag} {S H : Hp} {x : V} {a : D} {lo hi : Option Int} {z : Rv} {Q : VK} (e : Ex S H) (hx : LD K S H x a) (hz : gSl a lo hi = some z) (q : RQ K S H Q z) : rSlAny K x lo hi H Q := by
  unfold gSl at hz
  split at hz
  · rename_i l lo hi
    cases hz
    obtain ⟨p, xs, rfl, hp, dp⟩ := hx.list e
    exact .inl ⟨p, xs, rfl, hp, fun p hp => q p _ hp (DpAll.cut dp)⟩
  · rename_i w lo hi
    split at hz
    · rename_i hw
      cases hz
      exact .inr (.inr ⟨_, hx.str, sz_of hw, q _ (.str _)⟩)
    · cases hz
  · rename_i l lo hi
    cases hz
    obtain ⟨p, xs, rfl, hp, dp⟩ := hx.tuple e
    have hl := DpAll.len dp
    refine .inr (.inl ⟨p, xs, rfl, hp, fun w => ?_, fun w p hp => ?_⟩)
    · rw [hl] at w
      rw [if_pos w] at q
      refine q _ ?_
      rcases hx with h | ⟨_, _, _, _, e, _⟩
      · exact h
      · cases e
    · rw [hl] at w
      rw [if_neg w] at q
      exact q p _ hp (DpAll.cut dp)
  · cases hz
/-- a part of a slice -/
def pNone : Env → Out (Option Late × Env) := fun ρ => .ok (none, ρ)
def pSome (f : Env → Out (Late × Env)) : Env → Out (Option Late × Env) := fun ρ => (f ρ).bind fun p => .ok (some p.1, p.2)
def partInt (ρ : Env) : Option Late → Option (Option Int)
  | none => some none
  | some l => match l.res ρ with
    | some (.int i) => some (some i)
    | _ => none
def dSl (fa : Env → Out (Late × Env)) (fl fh : Env → Out (Option Int × Env)) : Env → Out (Slot × Env) := fun ρ =>
  (fa ρ).bind fun p => (fl p.2).bind fun l => (fh l.2).bind fun h => match p.1.res h.2 with
    | some a => rvOut h.2 (gSl a l.1 h.1)
    | none => .bad
/-- a part -/
def RPt (X : Cx) (F : Fr) (W : WX) (e : Option Expr) (f : Env → Out (Option Int × Env)) : Prop := ∃ t, PO X e t ∧ ∀ S σ ρ H (Q : Option Int → Hp → Prop), G X.K F S H σ ρ →
  (match f ρ with
  | .ok (o, ρ') => ∀ S' H', G X.K F S' H' σ ρ' → Ex S S' → Q o H'
  | .exc c fs ρ' => ∀ cls dd S' H', G X.K F S' H' σ ρ' → Ex S S' → XOk X.K X.mg S' c fs cls dd → W cls dd σ H'
  | .bad => False) → t σ H Q
def ptNone : Env → Out (Option Int × Env) := fun ρ => .ok (none, ρ)
def ptSome (f : Env → Out (D × Env)) : Env → Out (Option Int × Env) := fun ρ => (f ρ).bind fun p => match p.1 with
  | .int i => .ok (some i, p.2)
  | _ => .bad
theorem rpt_none : RPt X F W none ptNone := ⟨_, po_none, fun S σ ρ H Q g q => q S H g (Ex.refl S)⟩
theorem rpt_some {f : Env → Out (D × Env)} (h : RD X F W e f) : RPt X F W (some e) (ptSome f) := ⟨_, po_some h, fun S σ ρ H Q g q => by
  refine ⟨S, ρ, g, ?_⟩
  unfold ptSome at q
  cases hf : f ρ with
  | ok p =>
    obtain ⟨d, ρ1⟩ := p
    rw [hf] at q
    intro v S1 H1 g1 e1 hv
    dsimp only [Out.bind] at q
    cases d with
    | int i =>
      cases hv
      exact ⟨i, rfl, q S1 H1 g1 e1⟩
    | _ => exact q.elim
  | exc c fs ρ' => rw [hf] at q; exact q
  | bad => rw [hf] at q; exact q.elim⟩
theorem re_sl {lo hi : Option Expr} {fl fh : Env → Out (Option Int × Env)} (ha : RO X F W a fa) (hl : RPt X F W lo fl) (hh : RPt X F W hi fh) : RE X F W (.Subscript a (.Slice lo hi none p2) pos) (dSl fa fl fh) := by
  obtain ⟨tl, pl, kl⟩ := hl
  obtain ⟨th, ph, kh⟩ := hh
  refine PE.imp (pe_slice sl_any ha pl ph) fun σ H Q q => ?_
  obtain ⟨S, ρ, g, q⟩ := q
  refine ⟨S, ρ, g, ?_⟩
  unfold dSl at q
  cases hf : fa ρ with
  | ok p =>
    obtain ⟨la, ρ1⟩ := p
    rw [hf] at q
    intro v S1 H1 g1 e1 hv
    dsimp only [Out.bind] at q
    refine kl S1 σ ρ1 H1 _ g1 ?_
    cases hl : fl ρ1 with
    | ok p2 =>
      obtain ⟨lo, ρ2⟩ := p2
      rw [hl] at q
      intro S2 H2 g2 e2
      dsimp only at q
      refine kh S2 σ ρ2 H2 _ g2 ?_
      cases hh : fh ρ2 with
      | ok p3 =>
        obtain ⟨hi, ρ3⟩ := p3
        rw [hh] at q
        intro S3 H3 g3 e3
        dsimp only at q
        cases ha : la.res ρ3 with
        | none => rw [ha] at q; exact q.elim
        | some da =>
          rw [ha] at q
          obtain ⟨z, hz, q⟩ := epost_of g3 (e1.trans (e2.trans e3)) q
          exact sem_sl g3.ex ((hv.mono (e2.trans e3)).ld g3 ha) hz q
      | exc c fs ρ' => rw [hh] at q; exact xweak (e1.trans e2) q
      | bad => rw [hh] at q; exact q.elim
    | exc c fs ρ' => rw [hl] at q; exact xweak e1 q
    | bad => rw [hl] at q; exact q.elim
  | exc c fs ρ' => rw [hf] at q; exact q
  | bad => rw [hf] at q; exact q.elim

/-! ### displays -/
def dList : List (Env → Out (D × Env)) → Env → Out (List D × Env)
  | [] => fun ρ => .ok ([], ρ)
  | f :: fs => fun ρ => (f ρ).bind fun p => (dList fs p.2).bind fun q => .ok (p.1 :: q.1, q.2)
theorem dList_len : ∀ {fs : List (Env → Out (D × Env))} {ρ ρ' : Env} {ds : List D}, dList fs ρ = .ok (ds, ρ') → ds.length = fs.length
  | [], _, _, _, h => by cases h; rfl
  | f :: fs, ρ, ρ', ds, h => by
    unfold dList at h
    cases hf : f ρ with
    | ok p =>
      rw [hf] at h
      dsimp only [Out.bind] at h
      cases hk : dList fs p.2 with
      | ok q =>
        rw [hk] at h
        cases h
        have := dList_len hk
        simp [this]
      | exc c fs ρ' => rw [hk] at h; cases h
      | bad => rw [hk] at h; cases h
    | exc c fs ρ' => rw [hf] at h; cases h
    | bad => rw [hf] at h; cases h
theorem rl_nil : RL X F W [] (dList []) := PA.imp pa_nil fun σ H Q q => by
  obtain ⟨S, ρ, g, q⟩ := q
  exact q [] S H g (Ex.refl S) .nil
theorem rl_cons {f : Env → Out (D × Env)} {fs : List (Env → Out (D × Env))} (h : RD X F W e f) (hr : RL X F W es (dList fs)) (hs : starEach (e :: es) X.env = (false, eval e X.env) :: starEach es X.env := by rfl) : RL X F W (e :: es) (dList (f :: fs)) :=
  PA.imp (pa_cons h hr hs) fun σ H Q q => by
    obtain ⟨S, ρ, g, q⟩ := q
    refine ⟨S, ρ, g, ?_⟩
    unfold dList at q
    cases hf : f ρ with
    | ok p =>
      obtain ⟨lt, ρ1⟩ := p
      rw [hf] at q
      intro v S1 H1 g1 e1 hv
      refine ⟨S1, ρ1, g1, ?_⟩
      dsimp only [Out.bind] at q
      cases hk : dList fs ρ1 with
      | ok r =>
        obtain ⟨ls, ρ2⟩ := r
        rw [hk] at q
        intro vs S2 H2 g2 e2 hvs
        exact q (v :: vs) S2 H2 g2 (e1.trans e2) (.cons (Dp.mono e2 _ _ hv) hvs)
      | exc c fs ρ' => rw [hk] at q; exact xweak e1 q
      | bad => rw [hk] at q; exact q.elim
    | exc c fs ρ' => rw [hf] at q; exact q
    | bad => rw [hf] at q; exact q.elim
def dTup (fs : List (Env → Out (D × Env))) : Env → Out (D × Env) := fun ρ => (dList fs ρ).bind fun p => .ok (.tuple p.1, p.2)
def dLst (fs : List (Env → Out (D × Env))) : Env → Out (Slot × Env) := fun ρ => (dList fs ρ).bind fun p => .ok (.ow p.1, p.2)
theorem rd_tup {fs : List (Env → Out (D × Env))} {x1} (h : RL X F W es (dList fs)) (hl : fs.length ≤ 100000 := by decide) : RD X F W (.Tuple es x1 pos) (dTup fs) := PE.imp (pe_tup h) fun σ H Q q => by
  obtain ⟨S, ρ, g, q⟩ := q
  refine ⟨S, ρ, g, ?_⟩
  unfold dTup at q
  cases hf : dList fs ρ with
  | ok p =>
    obtain ⟨ds, ρ1⟩ := p
    rw [hf] at q
    intro vs S1 H1 g1 e1 hv
    refine ⟨sz_of (by rw [DpAll.len hv, dList_len hf]; exact hl), fun p hp => ?_⟩
    exact q _ _ _ (g1.newS hp) (e1.trans (Ex.new (g1.ex.free hp))) (.tup (.inl (.inl upd_same)) (DpAll.mono (Ex.new (g1.ex.free hp)) _ _ hv))
  | exc c fs ρ' => rw [hf] at q; exact q
  | bad => rw [hf] at q; exact q.elim
theorem re_lst {fs : List (Env → Out (D × Env))} (h : RL X F W es (dList fs)) (hl : fs.length ≤ 100000 := by decide) : RE X F W (.List es pos) (dLst fs) := PE.imp (pe_lst h) fun σ H Q q => by
  obtain ⟨S, ρ, g, q⟩ := q
  refine ⟨S, ρ, g, ?_⟩
  unfold dLst at q
  cases hf : dList fs ρ with
  | ok p =>
    obtain ⟨ds, ρ1⟩ := p
    rw [hf] at q
    intro vs S1 H1 g1 e1 hv
    refine ⟨sz_of (by rw [DpAll.len hv, dList_len hf]; exact hl), fun p hp => ?_⟩
    exact q _ _ _ (g1.newO hp) e1 (VOk.newO g1 hp hv)
  | exc c fs ρ' => rw [hf] at q; exact q
  | bad => rw [hf] at q; exact q.elim

/-! ### calls of built-ins -/
def resAll (ρ : Env) : List Late → Option (List D)
  | [] => some []
  | l :: ls => match l.res ρ, resAll ρ ls with
    | some d, some ds => some (d :: ds)
    | _, _ => none
inductive LDAll (K : PySem.W.Frag) (S H : Hp) : List V → List D → Prop
  | nil : LDAll K S H [] []
  | cons {v : V} {vs : List V} {d : D} {ds : List D} : LD K S H v d → LDAll K S H vs ds → LDAll K S H (v :: vs) (d :: ds)
theorem LtAll.ld {K : PySem.W.Frag} {S H : Hp} {σ : L2.St} {ρ : Env} (g : G K F S H σ ρ) : ∀ {vs : List V} {ls : List Late} {ds : List D}, LtAll K S σ vs ls → resAll ρ ls = some ds → LDAll K S H vs ds
  | _, _, _, .nil, h => by cases h; exact .nil
  | _, _, _, .cons a b, h => by
    rename_i v vs l ls
    unfold resAll at h
    cases h1 : l.res ρ with
    | none => rw [h1] at h; cases h
    | some d =>
      cases h2 : resAll ρ ls with
      | none => rw [h1, h2] at h; cases h
      | some ds' =>
        rw [h1, h2] at h
        cases h
        exact .cons (a.ld g h1) (LtAll.ld g b h2)
def dCB (op : List D → Option Rv) (fs : Env → Out (List Late × Env)) : Env → Out (Slot × Env) := fun ρ => (fs ρ).bind fun p => match resAll p.2 p.1 with
  | some ds => rvOut p.2 (op ds)
  | none => .bad
def SemC (K : PySem.W.Frag) (r : List V → Hp → VK → Prop) (op : List D → Option Rv) : Prop :=
  ∀ (S H : Hp) (vs : List V) (ds : List D) (z : Rv) (Q : VK), Ex S H → LDAll K S H vs ds → op ds = some z → RQ K S H Q z → r vs H Q
theorem cb_core {op : List D → Option Rv} {r : List V → Hp → VK → Prop} (sr : SemC X.K r op) {fs : Env → Out (List Late × Env)} {σ : L2.St} {H : Hp} {Q : VK} (q : tE X.K X.mg F W (dCB op fs) σ H Q) :
    tCB r (tOL X.K X.mg F W fs) σ H Q := by
  obtain ⟨S, ρ, g, q⟩ := q
  refine ⟨S, ρ, g, ?_⟩
  unfold dCB at q
  cases hf : fs ρ with
  | ok p =>
    obtain ⟨ls, ρ1⟩ := p
    rw [hf] at q
    intro vs S1 H1 g1 e1 hv
    dsimp only [Out.bind] at q
    cases hr : resAll ρ1 ls with
    | none => rw [hr] at q; exact q.elim
    | some ds =>
      rw [hr] at q
      obtain ⟨z, hz, q⟩ := epost_of g1 e1 q
      exact sr S1 H1 vs ds z Q g1.ex (hv.ld g1 hr) hz q
  | exc c fs ρ' => rw [hf] at q; exact q
  | bad => rw [hf] at q; exact q.elim
theorem re_callB {x : Str} {p : Pos} {id : String} {r : List V → Hp → VK → Prop} {op : List D → Option Rv} {fs : Env → Out (List Late × Env)} (hc : CallR X (.builtin id) r) (sr : SemC X.K r op) (hg : Gl X x) (hm : X.mg x = none) (hv : bootBuiltins x = some (.builtin id)) (ha : ROL X F W (e :: es) fs)
    (hn : x ≠ "__name__" := by decide) (hdb : (x == ("__debug__" : Str)) = false := by decide)
    (he : starEach (e :: es) X.env = (false, eval e X.env) :: starEach es X.env := by rfl) (hpl : (backTo pos (starEach es X.env)).any (·.1) = false := by rfl) : RE X F W (.Call (.Name x p) (e :: es) [] pos) (dCB op fs) :=
  PE.imp (pe_callB hc hg hm hv ha hn hdb he hpl) fun σ H Q q => cb_core sr q
theorem re_callTy {x : Str} {p : Pos} {T : String} {r : List V → Hp → VK → Prop} {op : List D → Option Rv} {fs : Env → Out (List Late × Env)} (hc : CallR X (.type T) r) (sr : SemC X.K r op) (hg : Gl X x) (hm : X.mg x = none) (hv : bootBuiltins x = some (.type T)) (ha : ROL X F W (e :: es) fs)
    (hn : x ≠ "__name__" := by decide) (hdb : (x == ("__debug__" : Str)) = false := by decide)
    (he : starEach (e :: es) X.env = (false, eval e X.env) :: starEach es X.env := by rfl) (hpl : (backTo pos (starEach es X.env)).any (·.1) = false := by rfl) : RE X F W (.Call (.Name x p) (e :: es) [] pos) (dCB op fs) :=
  PE.imp (pe_callTy hc hg hm hv ha hn hdb he hpl) fun σ H Q q => cb_core sr q
/-- len -/
def gLen : List D → Option Rv
  | [.list l] => some (.val (.int l.length))
  | [.tuple l] => some (.val (.int l.length))
  | [.str z] => if z.length ≤ 100000 then some (.val (.int z.length)) else none
  | _ => none
def rLenA (K : PySem.W.Frag) : List V → Hp → VK → Prop := fun xs H Q => (∃ p ys, xs = [.ref p] ∧ (SqL K H p ys ∨ SqT K H p ys) ∧ Q (.int ys.length) H) ∨ ∃ z, xs = [.str z] ∧ z.length ≤ sizeLine ∧ Q (.int z.length) H
theorem CallR.or {f : Value} {r r' : List V → Hp → VK → Prop} (a : CallR X f r) (b : CallR X f r') : CallR X f (fun xs H Q => r xs H Q ∨ r' xs H Q) := fun pins s σ H xs us Q I rx q => by
  rcases q with q | q
  · exact a pins s σ H xs us Q I rx q
  · exact b pins s σ H xs us Q I rx q
theorem call_lenA : CallR X (.builtin "len") (rLenA X.K) := CallR.or call_len_seq call_len_str
theorem LDAll.one {K : PySem.W.Frag} {S H : Hp} {vs : List V} {d : D} (h : LDAll K S H vs [d]) : ∃ v, vs = [v] ∧ LD K S H v d := by
  cases h with
  | cons a b => cases b; exact ⟨_, rfl, a⟩
theorem sem_len {K : PySem.W.Frag} : SemC K (rLenA K) gLen := fun S H vs ds z Q e hx hz q => by
  unfold gLen at hz
  split at hz
  · cases hz
    obtain ⟨v, rfl, h⟩ := hx.one
    obtain ⟨p, xs, rfl, hp, dp⟩ := h.list e
    exact .inl ⟨p, xs, rfl, .inl hp, by rw [DpAll.len dp]; exact q _ (.int _)⟩
  · cases hz
    obtain ⟨v, rfl, h⟩ := hx.one
    obtain ⟨p, xs, rfl, hp, dp⟩ := h.tuple e
    exact .inl ⟨p, xs, rfl, .inr hp, by rw [DpAll.len dp]; exact q _ (.int _)⟩
  · split at hz
    · rename_i hw
      cases hz
      obtain ⟨v, rfl, h⟩ := hx.one
      have h1 := h.str
      subst h1
      exact .inr ⟨_, rfl, sz_of hw, q _ (.int _)⟩
    · cases hz
  · cases hz
/-- int -/
def gInt : List D → Option Rv
  | [.int i] => some (.val (.int i))
  | [.bool b] => some (.val (.int (if b then 1 else 0)))
  | _ => none
theorem sem_int {K : PySem.W.Frag} : SemC K (fun xs H Q => (∃ i, xs = [.int i] ∧ Q (.int i) H) ∨ ∃ k, xs = [.bl k] ∧ Q (.int (if k then 1 else 0)) H) gInt := fun S H vs ds z Q e hx hz q => by
  unfold gInt at hz
  split at hz
  · cases hz
    obtain ⟨v, rfl, h⟩ := hx.one
    have h1 := h.int
    subst h1
    exact .inl ⟨_, rfl, q _ (.int _)⟩
  · cases hz
    obtain ⟨v, rfl, h⟩ := hx.one
    have h1 := h.bool
    subst h1
    exact .inr ⟨_, rfl, q _ (.int _)⟩
  · cases hz
/-- all, any of a list of truth values -/
def bools : List D → Option (List Bool)
  | [] => some []
  | .bool b :: l => (bools l).map (b :: ·)
  | _ :: _ => none
theorem bools_dp {K : PySem.W.Frag} {H : Hp} : ∀ {l : List D} {bs : List Bool} {xs : List V}, bools l = some bs → DpAll K H xs l → xs = bs.map V.bl
  | [], _, _, h, hx => by cases h; cases hx; rfl
  | d :: l, bs, xs, h, hx => by
    cases d with
    | bool b =>
      unfold bools at h
      cases e : bools l with
      | none => rw [e] at h; cases h
      | some bs' =>
        rw [e] at h
        cases h
        cases hx with
        | cons a r => cases a; rw [bools_dp e r]; rfl
    | _ => cases h
def gAll : List D → Option Rv
  | [.list l] => (bools l).map fun bs => .val (.bool (bs.all id))
  | _ => none
def gAny : List D → Option Rv
  | [.list l] => (bools l).map fun bs => .val (.bool (bs.any id))
  | _ => none
theorem sem_all {K : PySem.W.Frag} : SemC K (rAll K) gAll := fun S H vs ds z Q e hx hz q => by
  unfold gAll at hz
  split at hz
  · rename_i l
    obtain ⟨v, rfl, h⟩ := hx.one
    cases hb : bools l with
    | none => rw [hb] at hz; cases hz
    | some bs =>
      rw [hb] at hz
      cases hz
      obtain ⟨p, xs, rfl, hp, dp⟩ := h.list e
      have := bools_dp hb dp
      subst this
      exact ⟨p, bs, rfl, hp, q _ (.bl _)⟩
  · cases hz
theorem sem_any {K : PySem.W.Frag} : SemC K (rAny K) gAny := fun S H vs ds z Q e hx hz q => by
  unfold gAny at hz
  split at hz
  · rename_i l
    obtain ⟨v, rfl, h⟩ := hx.one
    cases hb : bools l with
    | none => rw [hb] at hz; cases hz
    | some bs =>
      rw [hb] at hz
      cases hz
      obtain ⟨p, xs, rfl, hp, dp⟩ := h.list e
      have := bools_dp hb dp
      subst this
      exact ⟨p, bs, rfl, hp, q _ (.bl _)⟩
  · cases hz
/-- tuple, list of a list or a tuple -/
def gTuple : List D → Option Rv
  | [.list l] => some (.newT l)
  | [.tuple l] => some (.val (.tuple l))
  | _ => none
def gList : List D → Option Rv
  | [.list l] => some (.newL l)
  | [.tuple l] => some (.newL l)
  | _ => none
theorem sem_tuple {K : PySem.W.Frag} : SemC K (fun xs H Q => ∃ p ys, xs = [.ref p] ∧ ((SqL K H p ys ∧ ∀ l, H l = none → Q (.ref l) (upd H l (.tup ys))) ∨ (SqT K H p ys ∧ Q (.ref p) H))) gTuple := fun S H vs ds z Q e hx hz q => by
  unfold gTuple at hz
  split at hz
  · cases hz
    obtain ⟨v, rfl, h⟩ := hx.one
    obtain ⟨p, xs, rfl, hp, dp⟩ := h.list e
    exact ⟨p, xs, rfl, .inl ⟨hp, fun l hl => q l xs hl dp⟩⟩
  · cases hz
    obtain ⟨v, rfl, h⟩ := hx.one
    obtain ⟨p, xs, rfl, hp, dp⟩ := h.tuple e
    refine ⟨p, xs, rfl, .inr ⟨hp, q _ ?_⟩⟩
    rcases h with h | ⟨_, _, _, _, e, _⟩
    · exact h
    · cases e
  · cases hz
theorem sem_list {K : PySem.W.Frag} : SemC K (fun xs H Q => ∃ p ys, xs = [.ref p] ∧ (SqL K H p ys ∨ SqT K H p ys) ∧ ∀ l, H l = none → Q (.ref l) (upd H l (.lst ys))) gList := fun S H vs ds z Q e hx hz q => by
  unfold gList at hz
  split at hz
  · cases hz
    obtain ⟨v, rfl, h⟩ := hx.one
    obtain ⟨p, xs, rfl, hp, dp⟩ := h.list e
    exact ⟨p, xs, rfl, .inl hp, fun l hl => q l xs hl dp⟩
  · cases hz
    obtain ⟨v, rfl, h⟩ := hx.one
    obtain ⟨p, xs, rfl, hp, dp⟩ := h.tuple e
    exact ⟨p, xs, rfl, .inr hp, fun l hl => q l xs hl dp⟩
  · cases hz
end
end Den

namespace Den
open PySem PySem.Spec L2

/-- a def's meaning: how many parameters, which of them is an own list, what it gives (the value, the own list behind it) -/
structure Fd where
  np : Nat
  own : Option Nat
  run : List D → Out (Slot × List D)

def ArgOk (K : PySem.W.Frag) (S H : Hp) (own : Option Nat) : Nat → List V → List D → Prop
  | _, [], [] => True
  | k, v :: vs, d :: ds => (if own = some k then ∃ p l, v = .ref p ∧ d = .list l ∧ OwnAt K S H p l else Dp K S v d) ∧ ArgOk K S H own (k + 1) vs ds
  | _, _, _ => False
def pOf (own : Option Nat) (vs : List V) : Option Addr := match own with
  | none => none
  | some k => match vs[k]? with
    | some (.ref p) => some p
    | _ => none
def ROk (K : PySem.W.Frag) (S H H' : Hp) (v : V) : Slot → Prop
  | .sh d => Dp K S v d
  | .ow l => ∃ q, v = .ref q ∧ H q = none ∧ OwnAt K S H' q l
  | .tk => False
def FPost (K : PySem.W.Frag) (mg : Str → Option Value) (own : Option Nat) (S H : Hp) (vs : List V) (Q : VK) (E : XK) : Out (Slot × List D) → Prop
  | .ok (r, l') => ∀ v S' H', Ex S S' → (∀ a, S' a ≠ none → S a ≠ none ∨ H a = none) → Ex S' H' → (∀ a o, H a = some o → pOf own vs ≠ some a → H' a = some o) →
      (∀ p, pOf own vs = some p → OwnAt K S' H' p l') → ROk K S' H H' v r → Q v H'
  | .exc c fs _ => own = none ∧ ∀ cls dd S' H', Ex S S' → (∀ a, S' a ≠ none → S a ≠ none ∨ H a = none) → Ex S' H' → (∀ a o, H a = some o → H' a = some o) → XOk K mg S' c fs cls dd → E cls dd H'
  | .bad => False
/-- the promise -/
def spD (K : PySem.W.Frag) (mg : Str → Option Value) (fd : Fd) : Sp := fun vs H Q E => vs.length = fd.np ∧ ∃ S ds, Ex S H ∧ ArgOk K S H fd.own 0 vs ds ∧ FPost K mg fd.own S H vs Q E (fd.run ds)
/-- a def of the program keeps its promise -/
structure Own (P : Program) (w : World) (K : PySem.W.Frag) (mg : Str → Option Value) (base : Heap) (x : Str) (fd : Fd) (k : Nat) : Prop where
  ex : ∃ f fdata ps, FnOk P w K mg base (L2.CX P w) k f fdata ps (spD K mg fd) ∧ mg x = some (.ref f) ∧ PySem.W.keepIn K (.ref f) = true ∧ Binds K fdata ps []

/-! ### calls -/
def argD (own : Option Nat) (ρ : Env) : Nat → List Late → Option (List D)
  | _, [] => some []
  | k, l :: ls => match (if own = some k then match l with
      | .slot i => match ρ[i]? with
        | some (some (.ow x)) => some (PyData.list x)
        | _ => none
      | .now _ => none
    else match l with
      | .now d => some d
      | .slot _ => none), argD own ρ (k + 1) ls with
    | some d, some ds => some (d :: ds)
    | _, _ => none
def putOwn (own : Option Nat) (ls : List Late) (l' : List D) (ρ : Env) : Env := match own with
  | none => ρ
  | some k => match ls[k]? with
    | some (.slot i) => ρ.set i (some (.ow l'))
    | _ => ρ
def dCall (fd : Fd) (fs : Env → Out (List Late × Env)) : Env → Out (Slot × Env) := fun ρ => (fs ρ).bind fun p =>
  if p.1.length = fd.np then match argD fd.own p.2 0 p.1 with
    | some ds => match fd.run ds with
      | .ok r => .ok (r.1, putOwn fd.own p.1 r.2 p.2)
      | .exc c f _ => if fd.own = none then .exc c f p.2 else .bad
      | .bad => .bad
    | none => .bad
  else .bad
section
variable {K : PySem.W.Frag} {mg : Str → Option Value} {F : Fr} {S S' H H' : Hp} {σ : L2.St} {ρ : Env}
theorem argOk_of (g : G K F S H σ ρ) {own : Option Nat} : ∀ {k : Nat} {vs : List V} {ls : List Late} {ds : List D}, LtAll K S σ vs ls → argD own ρ k ls = some ds → ArgOk K S H own k vs ds
  | _, _, _, _, .nil, h => by cases h; trivial
  | k, _, _, ds, .cons a b, h => by
    rename_i v vs l ls
    unfold argD at h
    split at h
    · rename_i d ds' h1 h2
      cases h
      refine ⟨?_, argOk_of g b h2⟩
      by_cases ho : own = some k
      · rw [if_pos ho] at h1 ⊢
        cases l with
        | now _ => cases h1
        | slot i =>
          dsimp only at h1
          split at h1
          · rename_i x hx
            cases h1
            obtain ⟨p, e1, hw, _⟩ := g.sl i _ hx
            have a : σ[i]? = some (some v) := a
            rw [e1] at a
            cases a
            exact ⟨p, x, rfl, rfl, hw⟩
          · cases h1
      · rw [if_neg ho] at h1 ⊢
        cases l with
        | now d' => cases h1; exact a
        | slot i => cases h1
    · cases h
theorem LtAll.get : ∀ {vs : List V} {ls : List Late} {k : Nat} {l : Late}, LtAll K S σ vs ls → ls[k]? = some l → ∃ v, vs[k]? = some v ∧ LtOk K S σ v l
  | _, _, _, _, .nil, h => by simp at h
  | _, _, 0, _, .cons a b, h => by simp at h; subst h; exact ⟨_, rfl, a⟩
  | _, _, k + 1, l, .cons a b, h => by
    obtain ⟨v, h1, h2⟩ := LtAll.get (k := k) (l := l) b (by simpa using h)
    exact ⟨v, by simpa using h1, h2⟩
theorem LtAll.len : ∀ {vs : List V} {ls : List Late}, LtAll K S σ vs ls → vs.length = ls.length
  | _, _, .nil => rfl
  | _, _, .cons _ b => by simp [LtAll.len b]
theorem argD_get {own : Option Nat} : ∀ {k j : Nat} {ls : List Late} {ds : List D}, argD own ρ k ls = some ds → own = some (k + j) → j < ls.length → ∃ i x, ls[j]? = some (.slot i) ∧ ρ[i]? = some (some (.ow x))
  | k, j, [], ds, h, ho, hj => absurd hj (by simp)
  | k, 0, l :: ls, ds, h, ho, hj => by
    unfold argD at h
    split at h
    · rename_i d ds' h1 h2
      rw [if_pos (by simpa using ho)] at h1
      cases l with
      | now _ => cases h1
      | slot i =>
        dsimp only at h1
        split at h1
        · rename_i x hx; exact ⟨i, x, rfl, hx⟩
        · cases h1
    · cases h
  | k, j + 1, l :: ls, ds, h, ho, hj => by
    unfold argD at h
    split at h
    · rename_i d ds' h1 h2
      obtain ⟨i, x, h3, h4⟩ := argD_get (j := j) h2 (by rw [ho]; congr 1; omega) (by simpa using hj)
      exact ⟨i, x, by simpa using h3, h4⟩
    · cases h
/-- behind a call that changed nothing of ours -/
theorem G.after (g : G K F S H σ ρ) (eS : Ex S S') (nw : ∀ a, S' a ≠ none → S a ≠ none ∨ H a = none) (ex : Ex S' H') (fr : ∀ a o, H a = some o → H' a = some o) : G K F S' H' σ ρ := by
  refine ⟨ex, g.ex0.trans eS, fun a ha => ?_, fun a o e q => fr a o (g.frame a o e q), fun i s e => (g.sl i s e).mono eS fun l p xs _ _ h1 h2 => ⟨?_, fr p _ h2⟩, g.apart, g.par, g.len⟩
  · rcases nw a ha with h | h
    · exact g.new a h
    · exact .inr (g.h0 h)
  · cases e : S' p with
    | none => rfl
    | some o =>
      rcases nw p (by rw [e]; simp) with h | h
      · exact absurd h1 h
      · rw [h2] at h; cases h
/-- behind a call that changed the own list of slot i -/
theorem G.afterO (g : G K F S H σ ρ) (eS : Ex S S') (nw : ∀ a, S' a ≠ none → S a ≠ none ∨ H a = none) (ex : Ex S' H') {i : Nat} {x l' : List D} {p : Addr} (hi : ρ[i]? = some (some (.ow x))) (hp : σ[i]? = some (some (.ref p)))
    (fr : ∀ a o, H a = some o → a ≠ p → H' a = some o) (hw : OwnAt K S' H' p l') : G K F S' H' σ (ρ.set i (some (.ow l'))) := by
  obtain ⟨p', e', hw0, hq⟩ := g.sl i _ hi
  rw [hp] at e'; cases e'
  have hil : i < ρ.length := (List.getElem?_eq_some_iff.mp hi).1
  have key : ∀ (j : Nat) (k : List D), (ρ.set i (some (.ow l')))[j]? = some (some (.ow k)) → ∃ k', ρ[j]? = some (some (.ow k')) := fun j k ej => by
    rcases set_get? ej with ⟨rfl, _⟩ | ⟨hj, ej⟩
    · exact ⟨x, hi⟩
    · exact ⟨k, ej⟩
  have s0 : ∀ a xs, S a = none → H a = some (HO.lst xs) → S' a = none := fun a xs h1 h2 => by
    cases e : S' a with
    | none => rfl
    | some o =>
      rcases nw a (by rw [e]; simp) with h | h
      · exact absurd h1 h
      · rw [h2] at h; cases h
  refine ⟨ex, g.ex0.trans eS, fun a ha => ?_, fun a o e q => fr a o (g.frame a o e q) fun z => ?_, fun j s ej => ?_, fun j k l1 l2 q hjk e1 e2 e3 => ?_, fun j q hj => ?_, by simp [g.len]⟩
  · rcases nw a ha with h | h
    · exact g.new a h
    · exact .inr (g.h0 h)
  · subst z
    rcases hq with hq | ⟨_, h0⟩
    · exact q i hq
    · rw [h0] at e; cases e
  · rcases set_get? ej with ⟨rfl, ej'⟩ | ⟨hj, ej⟩
    · have ej' := Option.some.inj ej'
      subst ej'
      exact ⟨p, hp, hw, hq⟩
    · refine (g.sl j s ej).mono eS fun l1 q ys es e1 h1 h2 => ?_
      subst es
      refine ⟨s0 q ys h1 h2, fr q _ h2 fun z => ?_⟩
      subst z
      exact g.apart i j x l1 q (Ne.symm hj) hi ej hp e1
  · obtain ⟨k1, e1⟩ := key _ _ e1
    obtain ⟨k2, e2⟩ := key _ _ e2
    exact g.apart j k k1 k2 q hjk e1 e2 e3
  · obtain ⟨a, k, b⟩ := g.par j q hj
    refine ⟨a, ?_⟩
    by_cases hji : j = i
    · subst hji; exact ⟨l', List.getElem?_set_self hil⟩
    · exact ⟨k, by rw [List.getElem?_set_ne (Ne.symm hji)]; exact b⟩
end
theorem passAtW {X : Cx} {W : WX} (tk : Takes X W) (σ : L2.St) : PassesAt (L2.CX X.prog X.w) X σ (fun cls d H => W cls d σ H) := fun _ _ _ e s' I c => tk e s' (XE.of_call I (fun _ _ _ h => h) c)
section
variable {X : Cx} {F : Fr} {W : WX} {e : Expr} {es : List Expr} {pos p : Pos} {x : Str}
theorem call_core {fd : Fd} {fs : Env → Out (List Late × Env)} {σ : L2.St} {H : Hp} {Q : VK} (q : tE X.K X.mg F W (dCall fd fs) σ H Q) :
    tOL X.K X.mg F W fs σ H fun vs H1 => spD X.K X.mg fd (vs ++ []) H1 Q (fun cls d H => W cls d σ H) := by
  obtain ⟨S, ρ, g, q⟩ := q
  refine ⟨S, ρ, g, ?_⟩
  unfold dCall at q
  cases hf : fs ρ with
  | ok p =>
    obtain ⟨ls, ρ1⟩ := p
    rw [hf] at q
    intro vs S1 H1 g1 e1 hv
    dsimp only [Out.bind] at q
    rw [List.append_nil]
    split at q
    · rename_i hl
      refine ⟨by rw [hv.len]; exact hl, S1, ?_⟩
      split at q
      · rename_i ds hd
        refine ⟨ds, g1.ex, argOk_of g1 hv hd, ?_⟩
        revert q
        generalize fd.run ds = o
        intro q
        cases o with
        | ok r =>
          obtain ⟨r, l'⟩ := r
          intro v S2 H2 e2 nw ex fr ow hr
          cases ho : fd.own with
          | none =>
            rw [ho] at fr ow
            have g2 : G X.K F S2 H2 σ ρ1 := g1.after e2 nw ex fun a o h => fr a o h (fun z => nomatch z)
            refine q v S2 H2 ?_ (e1.trans e2) ?_
            · rw [ho]; exact g2
            · rw [ho]
              cases r with
              | sh d => exact hr
              | ow l =>
                obtain ⟨a, rfl, ha, hw⟩ := hr
                refine ⟨a, rfl, hw, g1.h0 ha, fun i l'' hi e => ?_⟩
                obtain ⟨b, e', ⟨_, ys, hy, _⟩, _⟩ := g1.sl i _ hi
                rw [e] at e'; cases e'
                rw [ha] at hy; cases hy
              | tk => exact hr.elim
          | some k =>
            have hk : k < ls.length ∨ ¬ k < ls.length := Nat.lt_or_ge k ls.length |>.imp id Nat.not_lt.mpr
            rcases hk with hk | hk
            · obtain ⟨i, x, hi, hx⟩ := argD_get (own := fd.own) (k := 0) (j := k) hd (by rw [ho]; simp) hk
              obtain ⟨w, hw1, hw2⟩ := hv.get hi
              have hw2 : σ[i]? = some (some w) := hw2
              obtain ⟨a, ea, hw0, hq⟩ := g1.sl i _ hx
              rw [hw2] at ea
              cases ea
              have hpo : pOf fd.own vs = some a := by rw [ho]; show (match vs[k]? with | some (.ref p) => some p | _ => none) = _; rw [hw1]
              have g2 : G X.K F S2 H2 σ (ρ1.set i (some (.ow l'))) := g1.afterO e2 nw ex hx hw2 (fun b o h hb => fr b o h fun z => hb (Option.some.inj (hpo.symm.trans z)).symm) (ow a hpo)
              have hput : putOwn fd.own ls l' ρ1 = ρ1.set i (some (.ow l')) := by rw [ho]; show (match ls[k]? with | some (.slot i) => ρ1.set i (some (.ow l')) | _ => ρ1) = _; rw [hi]
              refine q v S2 H2 ?_ (e1.trans e2) ?_
              · show G X.K F S2 H2 σ (putOwn fd.own ls l' ρ1)
                rw [hput]; exact g2
              · show VOk X.K F S2 H2 σ (putOwn fd.own ls l' ρ1) v r
                rw [hput]
                cases r with
                | sh d => exact hr
                | ow l =>
                  obtain ⟨b, rfl, hb, hw⟩ := hr
                  refine ⟨b, rfl, hw, g1.h0 hb, fun j l'' hj e => ?_⟩
                  have : ∃ m, ρ1[j]? = some (some (.ow m)) := by
                    rcases set_get? hj with ⟨rfl, _⟩ | ⟨_, hj⟩
                    · exact ⟨x, hx⟩
                    · exact ⟨_, hj⟩
                  obtain ⟨m, hm⟩ := this
                  obtain ⟨c, e', ⟨_, ys, hy, _⟩, _⟩ := g1.sl j _ hm
                  rw [e] at e'; cases e'
                  rw [hb] at hy; cases hy
                | tk => exact hr.elim
            · -- no such argument
              have hvk : vs[k]? = none := List.getElem?_eq_none (by rw [hv.len]; omega)
              have hpo : pOf fd.own vs = none := by rw [ho]; show (match vs[k]? with | some (.ref p) => some p | _ => none) = _; rw [hvk]
              have g2 : G X.K F S2 H2 σ ρ1 := g1.after e2 nw ex fun a o h => fr a o h (by rw [hpo]; exact fun z => nomatch z)
              have hput : putOwn fd.own ls l' ρ1 = ρ1 := by rw [ho]; show (match ls[k]? with | some (.slot i) => ρ1.set i (some (.ow l')) | _ => ρ1) = _; rw [List.getElem?_eq_none (by omega)]
              refine q v S2 H2 ?_ (e1.trans e2) ?_
              · show G X.K F S2 H2 σ (putOwn fd.own ls l' ρ1)
                rw [hput]; exact g2
              · show VOk X.K F S2 H2 σ (putOwn fd.own ls l' ρ1) v r
                rw [hput]
                cases r with
                | sh d => exact hr
                | ow l =>
                  obtain ⟨a, rfl, ha, hw⟩ := hr
                  refine ⟨a, rfl, hw, g1.h0 ha, fun i l'' hi e => ?_⟩
                  obtain ⟨b, e', ⟨_, ys, hy, _⟩, _⟩ := g1.sl i _ hi
                  rw [e] at e'; cases e'
                  rw [ha] at hy; cases hy
                | tk => exact hr.elim
        | exc c f _ =>
          dsimp only at q
          split at q
          · rename_i ho
            refine ⟨ho, fun cls dd S2 H2 e2 nw ex fr hx => q cls dd S2 H2 (g1.after e2 nw ex fr) (e1.trans e2) hx⟩
          · exact q.elim
        | bad => exact q.elim
      · exact q.elim
    · exact q.elim
  | exc c fs ρ' => rw [hf] at q; exact q
  | bad => rw [hf] at q; exact q.elim
theorem re_call {fd : Fd} {k : Nat} {fs : Env → Out (List Late × Env)} (h : Own X.prog X.w X.K X.mg X.base x fd k) (hr : Room k X.A) (hg : Gl X x) (tk : Takes X W) (ha : ROL X F W (e :: es) fs) (hdb : (x == ("__debug__" : Str)) = false := by decide)
    (he : starEach (e :: es) X.env = (false, eval e X.env) :: starEach es X.env := by rfl) (hpl : (backTo pos (starEach es X.env)).any (·.1) = false := by rfl) : RE X F W (.Call (.Name x p) (e :: es) [] pos) (dCall fd fs) := by
  obtain ⟨f, fdata, ps, hF, hm, hk, hb⟩ := h.ex
  exact PE.imp (pe_callSD (E := fun σ cls d H => W cls d σ H) hF hr hg hm hk hb .nil (passAtW tk) ha hdb he hpl) fun σ H Q q => call_core q
end

/-! ### a def by its body -/
def initE (own : Option Nat) : Nat → List D → Env
  | _, [] => []
  | k, d :: ds => (if own = some k then match d with
      | .list l => some (Slot.ow l)
      | d => some (Slot.sh d)
    else some (Slot.sh d)) :: initE own (k + 1) ds
def ownOut (own : Option Nat) (ρ : Env) : List D := match own with
  | none => []
  | some k => match ρ[k]? with
    | some (some (.ow l)) => l
    | _ => []
def runB (own : Option Nat) (n : Nat) (f : Env → Res) : List D → Out (Slot × List D) := fun ds => match f (initE own 0 ds ++ List.replicate (n - ds.length) none) with
  | .ret r ρ => .ok (r, ownOut own ρ)
  | .nx ρ => .ok (.sh .none, ownOut own ρ)
  | .exc c fs _ => if own = none then .exc c fs [] else .bad
  | _ => .bad
theorem initE_len (own : Option Nat) : ∀ (k : Nat) (ds : List D), (initE own k ds).length = ds.length
  | _, [] => rfl
  | k, d :: ds => by simp [initE, initE_len own (k + 1) ds]
theorem ArgOk.len {K : PySem.W.Frag} {S H : Hp} {own : Option Nat} : ∀ {k : Nat} {vs : List V} {ds : List D}, ArgOk K S H own k vs ds → vs.length = ds.length
  | _, [], [], _ => rfl
  | _, v :: vs, d :: ds, h => by simp [ArgOk.len h.2]
  | _, [], _ :: _, h => h.elim
  | _, _ :: _, [], h => h.elim
theorem initE_get {K : PySem.W.Frag} {S H : Hp} {own : Option Nat} : ∀ {k : Nat} {vs : List V} {ds : List D} {i : Nat} {s : Slot}, ArgOk K S H own k vs ds → (initE own k ds)[i]? = some (some s) →
    ∃ v, vs[i]? = some v ∧ match s with
      | .sh d => Dp K S v d ∧ own ≠ some (k + i)
      | .ow l => own = some (k + i) ∧ ∃ p, v = .ref p ∧ OwnAt K S H p l
      | .tk => False
  | _, [], [], _, _, _, h => by simp [initE] at h
  | k, v :: vs, d :: ds, 0, s, ha, h => by
    refine ⟨v, rfl, ?_⟩
    obtain ⟨ha, _⟩ := ha
    unfold initE at h
    by_cases ho : own = some k
    · rw [if_pos ho] at h ha
      obtain ⟨p, l, rfl, rfl, hw⟩ := ha
      simp at h
      subst h
      exact ⟨by simpa using ho, p, rfl, hw⟩
    · rw [if_neg ho] at h ha
      simp at h
      subst h
      exact ⟨ha, by simpa using ho⟩
  | k, v :: vs, d :: ds, i + 1, s, ha, h => by
    obtain ⟨w, h1, h2⟩ := initE_get (i := i) (s := s) ha.2 (by simpa [initE] using h)
    refine ⟨w, by simpa using h1, ?_⟩
    have e : k + 1 + i = k + (i + 1) := by omega
    rw [e] at h2
    exact h2
  | _, [], _ :: _, _, _, h, _ => h.elim
  | _, _ :: _, [], _, _, h, _ => h.elim
/-- the frame of a call -/
def frOf (own : Option Nat) (vs : List V) (S H : Hp) (n : Nat) : Fr := ⟨H, S, fun i => if own = some i then pOf own vs else none, n, fun _ => .non⟩
theorem G.start {K : PySem.W.Frag} {S H : Hp} {own : Option Nat} {N : List Str} {vs : List V} {ds : List D} (eS : Ex S H) (ha : ArgOk K S H own 0 vs ds) (hN : vs.length ≤ N.length) (hown : ∀ k, own = some k → k < vs.length) :
    G K (frOf own vs S H N.length) S H (L2.start N vs) (initE own 0 ds ++ List.replicate (N.length - ds.length) none) := by
  have hl := ha.len
  have get : ∀ (i : Nat) (s : Slot), (initE own 0 ds ++ List.replicate (N.length - ds.length) none)[i]? = some (some s) → (initE own 0 ds)[i]? = some (some s) := fun i s e => by
    by_cases hi : i < (initE own 0 ds).length
    · rwa [List.getElem?_append_left hi] at e
    · rw [List.getElem?_append_right (by omega), List.getElem?_replicate] at e
      split at e <;> cases e
  have val : ∀ (i : Nat) (v : V), vs[i]? = some v → (L2.start N vs)[i]? = some (some v) := fun i v e => by
    unfold L2.start
    have hi : i < vs.length := (List.getElem?_eq_some_iff.mp e).1
    rw [List.getElem?_append_left (by simpa using hi), List.getElem?_map, e]
    rfl
  refine ⟨eS, Ex.refl S, fun a h => .inl h, fun a o h _ => h, fun i s e => ?_, fun i j l l' p hij e1 e2 _ => ?_, fun i p hp => ?_, ?_, ?_⟩
  · obtain ⟨v, hv, h⟩ := initE_get ha (get i s e)
    rw [val i v hv]
    cases s with
    | tk => exact h.elim
    | sh d => exact ⟨v, rfl, h.1⟩
    | ow l =>
      obtain ⟨ho, p, rfl, hw⟩ := h
      refine ⟨p, rfl, hw, .inl ?_⟩
      show (if own = some i then pOf own vs else none) = some p
      rw [if_pos (by simpa using ho)]
      have ho' : own = some i := by simpa using ho
      rw [ho']
      show (match vs[i]? with | some (.ref p) => some p | _ => none) = some p
      rw [hv]
  · obtain ⟨_, _, h1, _⟩ := initE_get ha (get i _ e1)
    obtain ⟨_, _, h2, _⟩ := initE_get ha (get j _ e2)
    rw [h1] at h2
    have := Option.some.inj h2
    omega
  · have hp : (if own = some i then pOf own vs else none) = some p := hp
    by_cases ho : own = some i
    · rw [if_pos ho, ho] at hp
      have hi := hown i ho
      have hv := List.getElem?_eq_getElem hi
      have hp : (match vs[i]? with | some (.ref p) => some p | _ => none) = some p := hp
      have hd : i < (initE own 0 ds).length := by rw [initE_len]; omega
      rw [List.getElem?_append_left hd]
      obtain ⟨s, hs⟩ : ∃ s, (initE own 0 ds)[i]? = some (some s) := by
        have : ∀ (k : Nat) (ds : List D) (i : Nat), i < (initE own k ds).length → ∃ s, (initE own k ds)[i]? = some (some s) := by
          intro k ds
          induction ds generalizing k with
          | nil => intro i h; simp [initE] at h
          | cons d ds ih =>
            intro i h
            cases i with
            | zero =>
              unfold initE
              split
              · cases d <;> exact ⟨_, rfl⟩
              · exact ⟨_, rfl⟩
            | succ i =>
              obtain ⟨s, hs⟩ := ih (k + 1) i (by simpa [initE] using h)
              exact ⟨s, by simpa [initE] using hs⟩
        exact this 0 ds i hd
      obtain ⟨v, hv', h⟩ := initE_get ha hs
      rw [hv'] at hp
      cases s with
      | tk => exact h.elim
      | sh d => exact absurd (by simpa using ho) h.2
      | ow l =>
        obtain ⟨_, q, rfl, _⟩ := h
        cases hp
        exact ⟨val i _ hv', l, hs⟩
    · rw [if_neg ho] at hp; cases hp
  · unfold L2.start
    show _ = N.length
    rw [List.length_append, List.length_map, List.length_replicate]; omega
  · show _ = N.length
    rw [List.length_append, initE_len, List.length_replicate]; omega
section
variable {P : Program} {w : World} {K : PySem.W.Frag} {mg : Str → Option Value} {base : Heap}
/-- THE RULE -/
theorem fn_den {x qual : Str} {st : Stmt} {f : Addr} {fdata : FuncData} {N ps : List Str} {k : Nat} {own : Option Nat} {b : Env → Res} (Fn : Fun K x qual st f fdata) (Sc : FnScope N ps (defScope st)) (hown : ∀ k, own = some k → k < ps.length)
    (body : ∀ (cdv : Value) (A : Around) (outer : List PySem.Env) (s : Shared) (H : Hp) (E : XK) (F : Fr), Room k (A.deeper (PyProof.Rows.envOfC qual (defScope st) s.heap.objs.size f cdv)) → F.n = N.length → (∀ i, own ≠ some i → F.pw i = none) →
      RSs (cxOf (L2.CX P w) P w K mg base N qual (defScope st) f cdv A outer s H E) F (fun cls d _ H => E cls d H) (defBody st) b) :
    FnOk P w K mg base (L2.CX P w) (k + 1) f fdata ps (spD K mg ⟨ps.length, own, runB own N.length b⟩) := by
  have hpl : ps.length ≤ N.length := by have := congrArg List.length Sc.pre; rw [List.length_take] at this; omega
  refine Fn.okX Sc (fun vs H Q E h => h.1) fun cdv A outer s H vs Q E hr h => ?_
  obtain ⟨hl, S, ds, eS, ha, q⟩ := h
  have hl : vs.length = ps.length := hl
  have hdl := ha.len
  refine ⟨_, body cdv A outer s H E (frOf own vs S H N.length) hr rfl (fun i hi => if_neg hi), S, _, G.start eS ha (by omega) (fun k hk => by rw [hl]; exact hown k hk), ?_⟩
  have q : FPost K mg own S H vs Q E (runB own N.length b ds) := q
  unfold runB at q
  revert q
  generalize b (initE own 0 ds ++ List.replicate (N.length - ds.length) none) = o
  intro q
  have fin : ∀ {r : Slot} {ρ' : Env} {v : V} {σ' : L2.St} {S' H' : Hp}, FPost K mg own S H vs Q E (.ok (r, ownOut own ρ')) → G K (frOf own vs S H N.length) S' H' σ' ρ' → Ex S S' → VOk K (frOf own vs S H N.length) S' H' σ' ρ' v r → Q v H' := fun {r ρ' v σ' S' H'} q g e hv => by
    refine q v S' H' e g.new g.ex (fun a o h hn => g.frame a o h fun i hi => ?_) (fun p hp => ?_) ?_
    · have hi : (if own = some i then pOf own vs else none) = some a := hi
      by_cases ho : own = some i
      · rw [if_pos ho] at hi; exact hn hi
      · rw [if_neg ho] at hi; cases hi
    · cases ho : own with
      | none => rw [ho] at hp; cases hp
      | some k =>
        have hpw : (frOf own vs S H N.length).pw k = some p := by
          show (if own = some k then pOf own vs else none) = some p
          rw [if_pos ho]; exact hp
        obtain ⟨h1, l, h2⟩ := g.par k p hpw
        obtain ⟨p', e', hw, _⟩ := g.sl k _ h2
        rw [h1] at e'; cases e'
        have : ownOut (some k) ρ' = l := by show (match ρ'[k]? with | some (some (.ow l)) => l | _ => []) = l; rw [h2]
        rw [this]; exact hw
    · cases r with
      | tk => exact hv.elim
      | sh d => exact hv
      | ow l =>
        obtain ⟨p, rfl, hw, h0, _⟩ := hv
        exact ⟨p, rfl, h0, hw⟩
  cases o with
  | nx ρ' => exact fun σ' S' H' g e => fin q g e .non
  | ret r ρ' => exact fun v σ' S' H' g e hv => fin q g e hv
  | brk ρ' => exact q.elim
  | ct ρ' => exact q.elim
  | exc c fs ρ' =>
    dsimp only at q
    split at q
    · rename_i ho
      intro cls dd σ' S' H' g e hx
      exact q.2 cls dd S' H' e g.new g.ex (fun a o h => g.frame a o h fun i hi => by
        have hi : (if own = some i then pOf own vs else none) = some a := hi
        rw [ho] at hi
        rw [if_neg (by simp)] at hi
        cases hi) hx
    · exact q.elim
  | bad => exact q.elim
end
end Den

namespace Den
open PySem PySem.Spec L2

/-! ### what a loop walks, as the list of its items -/
structure JOk (K : PySem.W.Frag) (S : Hp) (J : It) (l : List D) : Prop where
  go : ∀ (i : Nat) (H : Hp), Ex S H → i < l.length → J.go i H
  stop : ∀ (i : Nat) (H : Hp), Ex S H → l.length ≤ i → J.stop i H
  yld : ∀ (i : Nat) (H : Hp) (x : V) (H' : Hp) (d : D), Ex S H → J.yld i H x H' → l[i]? = some d →
    (H' = H ∧ Dp K S x d) ∨ ∃ T xs ds, x = .ref T ∧ H T = none ∧ H' = upd H T (.tup xs) ∧ d = .tuple ds ∧ DpAll K S xs ds
theorem sqL_inj {K : PySem.W.Frag} : True := trivial
theorem jok_list {K : PySem.W.Frag} {S : Hp} {a : Addr} {xs : List V} {l : List D} (h : SqL K S a xs) (hd : DpAll K S xs l) : JOk K S (Itl K a) l where
  go := fun i H e hi => by
    obtain ⟨d, hd'⟩ : ∃ d, l[i]? = some d := ⟨_, List.getElem?_eq_getElem hi⟩
    obtain ⟨v, hv, _⟩ := DpAll.getd hd hd'
    exact ⟨xs, v, sqL_mono e h, hv⟩
  stop := fun i H e hi => ⟨xs, sqL_mono e h, by rw [DpAll.len hd]; exact hi⟩
  yld := fun i H x H' d e hy hi => by
    obtain ⟨rfl, hy⟩ := hy
    obtain ⟨v, hv, hv2⟩ := DpAll.getd hd hi
    rw [hy xs (sqL_mono e h)] at hv
    cases hv
    exact .inl ⟨rfl, hv2⟩
theorem jok_tup {K : PySem.W.Frag} {S : Hp} {a : Addr} {xs : List V} {l : List D} (h : SqT K S a xs) (hd : DpAll K S xs l) : JOk K S (Itt K a) l where
  go := fun i H e hi => by
    obtain ⟨d, hd'⟩ : ∃ d, l[i]? = some d := ⟨_, List.getElem?_eq_getElem hi⟩
    obtain ⟨v, hv, _⟩ := DpAll.getd hd hd'
    exact ⟨xs, v, sqT_mono e h, hv⟩
  stop := fun i H e hi => ⟨xs, sqT_mono e h, by rw [DpAll.len hd]; exact hi⟩
  yld := fun i H x H' d e hy hi => by
    obtain ⟨rfl, hy⟩ := hy
    obtain ⟨v, hv, hv2⟩ := DpAll.getd hd hi
    rw [hy xs (sqT_mono e h)] at hv
    cases hv
    exact .inl ⟨rfl, hv2⟩
def signs (z : Str) : List D := z.cps.toList.map fun c => .str ⟨#[c]⟩
theorem jok_str {K : PySem.W.Frag} {S : Hp} {z : Str} : JOk K S (Its z) (signs z) where
  go := fun i H e hi => by show i < z.cps.size; simpa [signs] using hi
  stop := fun i H e hi => by show z.cps.size ≤ i; simpa [signs] using hi
  yld := fun i H x H' d e hy hi => by
    obtain ⟨rfl, c, hc, rfl⟩ := hy
    unfold signs at hi
    rw [List.getElem?_map, Array.getElem?_toList, hc] at hi
    cases hi
    exact .inl ⟨rfl, .str _⟩
def intsD (lo : Int) (n : Nat) : List D := (List.range n).map fun (i : Nat) => PyData.int (lo + (i : Int))
theorem jok_range {K : PySem.W.Frag} {S : Hp} {lo : Int} {n : Nat} : JOk K S (Itr lo n) (intsD lo n) where
  go := fun i H e hi => by simpa [intsD, Itr] using hi
  stop := fun i H e hi => by simpa [intsD, Itr] using hi
  yld := fun i H x H' d e hy hi => by
    obtain ⟨rfl, rfl⟩ := hy
    unfold intsD at hi
    rw [List.getElem?_map] at hi
    by_cases h : i < n
    · rw [List.getElem?_range h] at hi
      cases hi
      exact .inl ⟨rfl, .int _⟩
    · rw [List.getElem?_eq_none (by simpa using h)] at hi
      cases hi
def enumD (l : List D) : List D := l.mapIdx fun i d => .tuple [.int (i : Int), d]
theorem jok_enum {K : PySem.W.Frag} {S : Hp} {a : Addr} {xs : List V} {l : List D} (h : SqL K S a xs) (hd : DpAll K S xs l) : JOk K S (Ite K a) (enumD l) where
  go := fun i H e hi => by
    have hi : i < l.length := by simpa [enumD] using hi
    obtain ⟨v, hv, _⟩ := DpAll.getd hd (List.getElem?_eq_getElem hi)
    exact ⟨xs, v, sqL_mono e h, hv⟩
  stop := fun i H e hi => ⟨xs, sqL_mono e h, by rw [DpAll.len hd]; simpa [enumD] using hi⟩
  yld := fun i H x H' d e hy hi => by
    obtain ⟨T, y, rfl, hT, rfl, hy⟩ := hy
    unfold enumD at hi
    rw [List.getElem?_mapIdx] at hi
    cases hl : l[i]? with
    | none => rw [hl] at hi; cases hi
    | some d' =>
      rw [hl] at hi
      cases hi
      obtain ⟨v, hv, hv2⟩ := DpAll.getd hd hl
      rw [hy xs (sqL_mono e h)] at hv
      cases hv
      exact .inr ⟨T, _, _, rfl, hT, rfl, rfl, .cons (.int _) (.cons hv2 .nil)⟩
theorem jok_rev {K : PySem.W.Frag} {S : Hp} {a : Addr} {xs : List V} {l : List D} (h : SqL K S a xs) (hd : DpAll K S xs l) : JOk K S (Itv K a xs.length) l.reverse where
  go := fun i H e hi => by
    have hi : i < l.length := by simpa using hi
    have hl := DpAll.len hd
    exact ⟨by omega, xs, _, sqL_mono e h, List.getElem?_eq_getElem (show xs.length - 1 - i < xs.length by omega)⟩
  stop := fun i H e hi => by
    have hl := DpAll.len hd
    show xs.length ≤ i
    simpa [hl] using hi
  yld := fun i H x H' d e hy hi => by
    obtain ⟨rfl, hy⟩ := hy
    have hil : i < l.length := by simpa using (List.getElem?_eq_some_iff.mp hi).1
    rw [List.getElem?_reverse hil] at hi
    obtain ⟨v, hv, hv2⟩ := DpAll.getd hd hi
    have hl := DpAll.len hd
    rw [← hl, hy xs (sqL_mono e h)] at hv
    cases hv
    exact .inl ⟨rfl, hv2⟩

def IPost (K : PySem.W.Frag) (mg : Str → Option Value) (F : Fr) (W : WX) (S : Hp) (σ : L2.St) (R : It → Hp → Prop) : Out (List D × Env) → Prop
  | .ok (l, ρ') => ∀ J S' H', G K F S' H' σ ρ' → Ex S S' → JOk K S' J l → R J H'
  | .exc c fs ρ' => ∀ cls dd S' H', G K F S' H' σ ρ' → Ex S S' → XOk K mg S' c fs cls dd → W cls dd σ H'
  | .bad => False
def tI (K : PySem.W.Frag) (mg : Str → Option Value) (F : Fr) (W : WX) (f : Env → Out (List D × Env)) : TI := fun σ H R => ∃ S ρ, G K F S H σ ρ ∧ IPost K mg F W S σ R (f ρ)
def RI (X : Cx) (F : Fr) (W : WX) (tg iter : Expr) (f : Env → Out (List D × Env)) : Prop := PI X tg iter (tI X.K X.mg F W f)
theorem PI.imp {X : Cx} {tg e : Expr} {t u : TI} (h : PI X tg e t) (k : ∀ σ H R, u σ H R → t σ H R) : PI X tg e u := ⟨fun pins s σ H R I q => h.run pins s σ H R I (k σ H R q)⟩
/-- items of a list, a tuple, a text -/
def itemsOf : D → Option (List D)
  | .list l => some l
  | .tuple l => some l
  | .str z => some (signs z)
  | _ => none
def dSeqI (f : Env → Out (D × Env)) : Env → Out (List D × Env) := fun ρ => (f ρ).bind fun p => match itemsOf p.1 with
  | some l => .ok (l, p.2)
  | none => .bad
def dRange1 (fs : Env → Out (List Late × Env)) : Env → Out (List D × Env) := fun ρ => (fs ρ).bind fun p => match resAll p.2 p.1 with
  | some [.int n] => if n < 2 ^ 62 ∧ -(2 ^ 62) ≤ n then .ok (intsD 0 n.toNat, p.2) else .bad
  | _ => .bad
def dRange2 (fs : Env → Out (List Late × Env)) : Env → Out (List D × Env) := fun ρ => (fs ρ).bind fun p => match resAll p.2 p.1 with
  | some [.int m, .int n] => if m < 2 ^ 62 ∧ -(2 ^ 62) ≤ m ∧ n < 2 ^ 62 ∧ -(2 ^ 62) ≤ n then .ok (intsD m (n - m).toNat, p.2) else .bad
  | _ => .bad
def dEnum (fs : Env → Out (List D × Env)) : Env → Out (List D × Env) := fun ρ => (fs ρ).bind fun p => match p.1 with
  | [.list l] => .ok (enumD l, p.2)
  | _ => .bad
def dRev (fs : Env → Out (List D × Env)) : Env → Out (List D × Env) := fun ρ => (fs ρ).bind fun p => match p.1 with
  | [.list l] => .ok (l.reverse, p.2)
  | _ => .bad
theorem LDAll.two {K : PySem.W.Frag} {S H : Hp} {vs : List V} {d e : D} (h : LDAll K S H vs [d, e]) : ∃ v u, vs = [v, u] ∧ LD K S H v d ∧ LD K S H u e := by
  cases h with
  | cons a b => cases b with
    | cons b c => cases c; exact ⟨_, _, rfl, a, b⟩
section
variable {X : Cx} {F : Fr} {W : WX} {tg a b c e : Expr} {es : List Expr} {pos p p2 : Pos}
/-- what is walked is a list, a tuple or a text -/
def iSeq (K : PySem.W.Frag) (tl : TE) : TI := fun σ H R => tl σ H fun x H1 => (∃ a, x = .ref a ∧ (∃ xs, SqL K H1 a xs) ∧ R (Itl K a) H1) ∨ (∃ a, x = .ref a ∧ (∃ xs, SqT K H1 a xs) ∧ R (Itt K a) H1) ∨ ∃ z, x = .str z ∧ R (Its z) H1
theorem pi_seq {l : Expr} {tl : TE} (hl : PE X l tl) : PI X tg l (iSeq X.K tl) := by
  refine ⟨fun pins s σ H R I h => ?_⟩
  refine thn (hl.run pins s σ H _ I h) fun v s1 ⟨x, H1, I1, r1, q1⟩ => ?_
  rcases q1 with ⟨a, e, ⟨xs, hq⟩, q⟩ | ⟨a, e, ⟨xs, hq⟩, q⟩ | ⟨x, ex, q⟩
  · subst e
    cases r1
    obtain ⟨its, rv, p, hz⟩ := I1.list hq
    refine wpAny_pyIter_list p.isList ?_
    refine ⟨s1.heap.objs.size, [s1.heap.objs.size], _, _, H1, rfl, I1.kept (t' := s1.toks) fun b o e => Heap.get?_push_of_some _ e, turn_list a _, ⟨_, Heap.get?_push_size _ rfl, rfl, rfl⟩, fun b hb => ?_, q⟩
    have e : b = s1.heap.objs.size := by simpa using hb
    subst e
    exact I1.fpOk (Nat.le_refl _) (I1.hok.fresh (Nat.le_refl _))
  · subst e
    cases r1
    obtain ⟨its, rv, p, hz⟩ := I1.tuple hq
    refine wpAny_pyIter_tuple (show s1.heap.IsTuple a its.toArray from p) ?_
    refine ⟨s1.heap.objs.size, [s1.heap.objs.size], _, _, H1, rfl, I1.kept (t' := s1.toks) fun b o e => Heap.get?_push_of_some _ e, turn_tuple a _, ⟨_, Heap.get?_push_size _ rfl, rfl, rfl⟩, fun b hb => ?_, q⟩
    have e : b = s1.heap.objs.size := by simpa using hb
    subst e
    exact I1.fpOk (Nat.le_refl _) (I1.hok.fresh (Nat.le_refl _))
  · subst ex
    obtain ⟨t, rfl⟩ := r1
    cases ha : x.cps.all (· < 128)
    · exact wpAny_pyIter_wide ha (pi_one (tk := s1.toks) I1 _ (turn_str _ x t "str_iterator" (.inr rfl)) ⟨_, Heap.get?_push_size _ rfl, rfl, rfl⟩ q)
    · exact wpAny_pyIter_ascii ha (pi_one (tk := s1.toks) I1 _ (turn_str _ x t "str_ascii_iterator" (.inl rfl)) ⟨_, Heap.get?_push_size _ rfl, rfl, rfl⟩ q)
theorem ri_seq {f : Env → Out (D × Env)} (h : RD X F W e f) : RI X F W tg e (dSeqI f) := PI.imp (pi_seq h) fun σ H R q => by
  obtain ⟨S, ρ, g, q⟩ := q
  refine ⟨S, ρ, g, ?_⟩
  unfold dSeqI at q
  cases hf : f ρ with
  | ok p =>
    obtain ⟨d, ρ1⟩ := p
    rw [hf] at q
    intro v S1 H1 g1 e1 hv
    dsimp only [Out.bind] at q
    cases d with
    | list l =>
      cases hv with
      | lst a b => exact .inl ⟨_, rfl, ⟨_, sqL_mono g1.ex a⟩, q _ S1 H1 g1 e1 (jok_list a b)⟩
    | tuple l =>
      cases hv with
      | tup a b => exact .inr (.inl ⟨_, rfl, ⟨_, sqT_mono g1.ex a⟩, q _ S1 H1 g1 e1 (jok_tup a b)⟩)
    | str z => cases hv; exact .inr (.inr ⟨_, rfl, q _ S1 H1 g1 e1 jok_str⟩)
    | _ => exact q.elim
  | exc c fs ρ' => rw [hf] at q; exact q
  | bad => rw [hf] at q; exact q.elim
theorem ri_range1 {fs : Env → Out (List Late × Env)} (hg : Gl X "range") (hm : X.mg "range" = none) (ha : ROL X F W [a] fs) (hs : starEach [a] X.env = [(false, eval a X.env)] := by rfl) : RI X F W tg (.Call (.Name "range" p) [a] [] pos) (dRange1 fs) := PI.imp (pi_range1 hg hm ha hs) fun σ H R q => by
  obtain ⟨S, ρ, g, q⟩ := q
  refine ⟨S, ρ, g, ?_⟩
  unfold dRange1 at q
  cases hf : fs ρ with
  | ok p =>
    obtain ⟨ls, ρ1⟩ := p
    rw [hf] at q
    intro vs S1 H1 g1 e1 hv
    dsimp only [Out.bind] at q
    split at q
    · rename_i n hr
      split at q
      · rename_i hn
        obtain ⟨v, rfl, hl⟩ := (hv.ld g1 hr).one
        have h1 := hl.int
        subst h1
        exact ⟨n, rfl, hn.2, hn.1, q _ S1 H1 g1 e1 jok_range⟩
      · exact q.elim
    · exact q.elim
  | exc c fs ρ' => rw [hf] at q; exact q
  | bad => rw [hf] at q; exact q.elim
theorem ri_range2 {fs : Env → Out (List Late × Env)} (hg : Gl X "range") (hm : X.mg "range" = none) (ha : ROL X F W [a, b] fs) (hs : starEach [a, b] X.env = [(false, eval a X.env), (false, eval b X.env)] := by rfl) (hs2 : starEach [b] X.env = [(false, eval b X.env)] := by rfl) :
    RI X F W tg (.Call (.Name "range" p) [a, b] [] pos) (dRange2 fs) := PI.imp (pi_range2 hg hm ha hs hs2) fun σ H R q => by
  obtain ⟨S, ρ, g, q⟩ := q
  refine ⟨S, ρ, g, ?_⟩
  unfold dRange2 at q
  cases hf : fs ρ with
  | ok p =>
    obtain ⟨ls, ρ1⟩ := p
    rw [hf] at q
    intro vs S1 H1 g1 e1 hv
    dsimp only [Out.bind] at q
    split at q
    · rename_i m n hr
      split at q
      · rename_i hn
        obtain ⟨v, u, rfl, hl, hl2⟩ := (hv.ld g1 hr).two
        have h1 := hl.int
        subst h1
        have h2 := hl2.int
        subst h2
        exact ⟨m, n, rfl, ⟨hn.2.1, hn.1, hn.2.2.2, hn.2.2.1⟩, q _ S1 H1 g1 e1 jok_range⟩
      · exact q.elim
    · exact q.elim
  | exc c fs ρ' => rw [hf] at q; exact q
  | bad => rw [hf] at q; exact q.elim
theorem ri_enum {fs : Env → Out (List D × Env)} {elts : List Expr} {kk : Nat} {tpos : Pos} (hg : Gl X "enumerate") (hm : X.mg "enumerate" = none) (ha : RL X F W [e] fs) (hs : starEach [e] X.env = [(false, eval e X.env)] := by rfl) :
    RI X F W (.Tuple elts kk tpos) (.Call (.Name "enumerate" p) [e] [] pos) (dEnum fs) := PI.imp (pi_enum hg hm ha hs) fun σ H R q => by
  obtain ⟨S, ρ, g, q⟩ := q
  refine ⟨S, ρ, g, ?_⟩
  unfold dEnum at q
  cases hf : fs ρ with
  | ok p =>
    obtain ⟨ls, ρ1⟩ := p
    rw [hf] at q
    intro vs S1 H1 g1 e1 hv
    dsimp only [Out.bind] at q
    split at q
    · rename_i hr
      cases hv with
      | cons a b =>
        cases b
        cases a with
        | lst a b => exact ⟨_, _, rfl, sqL_mono g1.ex a, q _ S1 H1 g1 e1 (jok_enum a b)⟩
    · exact q.elim
  | exc c fs ρ' => rw [hf] at q; exact q
  | bad => rw [hf] at q; exact q.elim
theorem ri_rev {fs : Env → Out (List D × Env)} (hg : Gl X "reversed") (hm : X.mg "reversed" = none) (ha : RL X F W [e] fs) (hs : starEach [e] X.env = [(false, eval e X.env)] := by rfl) :
    RI X F W tg (.Call (.Name "reversed" p) [e] [] pos) (dRev fs) := PI.imp (pi_reversed hg hm ha hs) fun σ H R q => by
  obtain ⟨S, ρ, g, q⟩ := q
  refine ⟨S, ρ, g, ?_⟩
  unfold dRev at q
  cases hf : fs ρ with
  | ok p =>
    obtain ⟨ls, ρ1⟩ := p
    rw [hf] at q
    intro vs S1 H1 g1 e1 hv
    dsimp only [Out.bind] at q
    split at q
    · rename_i hr
      cases hv with
      | cons a b =>
        cases b
        cases a with
        | lst a b => exact ⟨_, _, rfl, sqL_mono g1.ex a, q _ S1 H1 g1 e1 (jok_rev a b)⟩
    · exact q.elim
  | exc c fs ρ' => rw [hf] at q; exact q
  | bad => rw [hf] at q; exact q.elim

/-! ### targets -/
/-- ts: the slots that are stored -/
def TgOk (K : PySem.W.Frag) (F : Fr) (g : TG) (st : D → Env → Option Env) (ts : List Nat) : Prop := ∀ (S H : Hp) (σ : L2.St) (ρ ρ' : Env) (x : V) (d : D) (Q : L2.St → Hp → Prop), G K F S H σ ρ → Dp K S x d → st d ρ = some ρ' → (∀ σ', G K F S H σ' ρ' → (∀ j : Nat, j ∉ ts → σ'[j]? = σ[j]?) → Q σ' H) → g x σ H Q
def TgsOk (K : PySem.W.Frag) (F : Fr) (g : TGs) (st : List D → Env → Option Env) (ts : List Nat) : Prop := ∀ (S H : Hp) (σ : L2.St) (ρ ρ' : Env) (xs : List V) (ds : List D) (Q : L2.St → Hp → Prop), G K F S H σ ρ → DpAll K S xs ds → st ds ρ = some ρ' → (∀ σ', G K F S H σ' ρ' → (∀ j : Nat, j ∉ ts → σ'[j]? = σ[j]?) → Q σ' H) → g xs σ H Q
def RG (X : Cx) (F : Fr) (tg : Expr) (st : D → Env → Option Env) (ts : List Nat) : Prop := ∃ g, PG X tg g ∧ ∀ F' : Fr, F'.n = F.n → F'.pw = F.pw → TgOk X.K F' g st ts
def RGs (X : Cx) (F : Fr) (tgs : List Expr) (st : List D → Env → Option Env) (ts : List Nat) : Prop := ∃ g, PGs X tgs g ∧ ∀ F' : Fr, F'.n = F.n → F'.pw = F.pw → TgsOk X.K F' g st ts
def sName (i : Nat) : D → Env → Option Env := fun d ρ => some (ρ.set i (some (.sh d)))
def sNil : List D → Env → Option Env := fun ds ρ => match ds with
  | [] => some ρ
  | _ => none
def sCons (s : D → Env → Option Env) (t : List D → Env → Option Env) : List D → Env → Option Env := fun ds ρ => match ds with
  | d :: ds => (s d ρ).bind (t ds)
  | [] => none
def sTup (n : Nat) (t : List D → Env → Option Env) : D → Env → Option Env := fun d ρ => match d with
  | .tuple ds => if ds.length = n then t ds ρ else none
  | _ => none
theorem tg_name {K : PySem.W.Frag} {i : Nat} (hp : F.pw i = none) (hi : i < F.n) : TgOk K F (gName i) (sName i) [i] := fun S H σ ρ ρ' x d Q g hd hs q => by
  cases hs
  exact q _ (g.store (r := .sh d) hd hp hi) fun j hj => List.getElem?_set_ne (by simpa using Ne.symm (by simpa using hj))
theorem rg_name {i : Nat} {x : Str} (hp : F.pw i = none) (hi : i < F.n) (hN : X.N.Nodup) (hx : X.N[i]? = some x) (hl : Loc X.env.scope x) (hf : X.fn x = true ∨ X.env.scope.names.lookup x = some .local := by first | exact .inl rfl | exact .inr rfl | assumption) : RG X F (.Name x pos) (sName i) [i] :=
  ⟨_, pg_name hN hx hl hf, fun F' h1 h2 => tg_name (by rw [h2]; exact hp) (by rw [h1]; exact hi)⟩
theorem rgs_nil : RGs X F [] sNil [] := ⟨_, pgs_nil, fun F' _ _ S H σ ρ ρ' xs ds Q g hd hs q => by
  unfold sNil at hs
  split at hs
  · cases hs; cases hd; exact ⟨rfl, q _ g fun _ _ => rfl⟩
  · cases hs⟩
theorem rgs_cons {s : D → Env → Option Env} {t : List D → Env → Option Env} {ts us : List Nat} (h1 : RG X F e s ts) (h2 : RGs X F es t us) (hs : (assignEach (e :: es) X.env).map (·.2) = assign e X.env :: (assignEach es X.env).map (·.2) := by rfl) : RGs X F (e :: es) (sCons s t) (ts ++ us) := by
  obtain ⟨g1, p1, k1⟩ := h1
  obtain ⟨g2, p2, k2⟩ := h2
  refine ⟨_, pgs_cons p1 p2 hs, fun F' l1 l2 S H σ ρ ρ' xs ds Q g hd hs q => ?_⟩
  unfold sCons at hs
  split at hs
  · rename_i d ds'
    cases hd with
    | cons a b =>
      rename_i v vs
      cases hd1 : s d ρ with
      | none => rw [hd1] at hs; cases hs
      | some ρ1 =>
        rw [hd1] at hs
        exact ⟨v, vs, rfl, k1 F' l1 l2 S H σ ρ ρ1 v d _ g a hd1 fun σ' g' hj1 => k2 F' l1 l2 S H σ' ρ1 ρ' vs ds' Q g' b hs fun σ2 g2 hj2 => q σ2 g2 fun j hj => by
          rw [List.mem_append, not_or] at hj
          rw [hj2 j hj.2, hj1 j hj.1]⟩
  · cases hs
theorem rg_tup {k n : Nat} {t : List D → Env → Option Env} {ts : List Nat} (hc : X.calm = true) (h : RGs X F es t ts) (hn : (assignEach es X.env).length = n := by rfl) (hst : (assignEach es X.env).findIdx? (·.1) = none := by rfl) : RG X F (.Tuple es k pos) (sTup n t) ts := by
  obtain ⟨g, p, kk⟩ := h
  refine ⟨_, pg_tup hc p hn hst, fun F' l1 l2 S H σ ρ ρ' x d Q gg hd hs q => ?_⟩
  unfold sTup at hs
  split at hs
  · rename_i ds
    split at hs
    · rename_i hl
      cases hd with
      | tup a b => exact ⟨_, _, rfl, sqT_mono gg.ex a, by rw [DpAll.len b]; exact hl, kk F' l1 l2 S H σ ρ ρ' _ ds Q gg b hs q⟩
    · cases hs
  · cases hs

/-! ### statements -/
theorem spost_weak {K : PySem.W.Frag} {mg : Str → Option Value} {S S1 : Hp} {Dn : Ends} {r : Res} (e : Ex S S1) (h : SPost K mg F W S Dn r) : SPost K mg F W S1 Dn r := by
  cases r with
  | nx ρ => exact fun σ' S' H' g e' => h σ' S' H' g (e.trans e')
  | brk ρ => exact fun σ' S' H' g e' => h σ' S' H' g (e.trans e')
  | ct ρ => exact fun σ' S' H' g e' => h σ' S' H' g (e.trans e')
  | ret r ρ => exact fun v σ' S' H' g e' hv => h v σ' S' H' g (e.trans e') hv
  | exc c fs ρ => exact fun cls dd σ' S' H' g e' hx => h cls dd σ' S' H' g (e.trans e') hx
  | bad => exact h.elim
def Res.bind (r : Res) (k : Env → Res) : Res := match r with
  | .nx ρ => k ρ
  | r => r
def ofOut {α : Type} (o : Out (α × Env)) (k : α → Env → Res) : Res := match o with
  | .ok p => k p.1 p.2
  | .exc c fs ρ => .exc c fs ρ
  | .bad => .bad
def dSeq (f g : Env → Res) : Env → Res := fun ρ => (f ρ).bind g
def dSkip : Env → Res := fun ρ => .nx ρ
theorem seq_core {f g : Env → Res} {Dn : Ends} {σ : L2.St} {H : Hp} (q : tS X.K X.mg F W (dSeq f g) Dn σ H) : tSeq (tS X.K X.mg F W f) (tS X.K X.mg F W g) Dn σ H := by
  obtain ⟨S, ρ, gg, q⟩ := q
  refine ⟨S, ρ, gg, ?_⟩
  unfold dSeq at q
  revert q
  generalize f ρ = o
  intro q
  cases o with
  | nx ρ1 => exact fun σ' S' H' g' e' => ⟨S', ρ1, g', spost_weak e' q⟩
  | brk ρ => exact q
  | ct ρ => exact q
  | ret r ρ => exact q
  | exc c fs ρ => exact q
  | bad => exact q.elim
theorem rss_nil : RSs X F W [] dSkip := PSs.imp pss_nil fun Dn σ H q => by
  obtain ⟨S, ρ, g, q⟩ := q
  exact q σ S H g (Ex.refl S)
theorem rss_one {st : Stmt} {f : Env → Res} (h : RS X F W st f) : RSs X F W [st] f := pss_one h
theorem rss_cons {st : Stmt} {rest : List Stmt} {f g : Env → Res} (h : RS X F W st f) (hr : RSs X F W rest g) : RSs X F W (st :: rest) (dSeq f g) := PSs.imp (pss_cons h hr) fun Dn σ H q => seq_core q
def dRet (f : Env → Out (Slot × Env)) : Env → Res := fun ρ => ofOut (f ρ) .ret
def dRetN : Env → Res := fun ρ => .ret (.sh .none) ρ
def dBrk : Env → Res := fun ρ => .brk ρ
def dCt : Env → Res := fun ρ => .ct ρ
def dExpr (f : Env → Out (Slot × Env)) : Env → Res := fun ρ => ofOut (f ρ) fun _ ρ' => .nx ρ'
def dIf (c : Env → Out (Bool × Env)) (f g : Env → Res) : Env → Res := fun ρ => ofOut (c ρ) fun b ρ' => if b then f ρ' else g ρ'
def dAsg (i : Nat) (f : Env → Out (Slot × Env)) : Env → Res := fun ρ => ofOut (f ρ) fun r ρ' => .nx (ρ'.set i (some r))
def dAsgT (st : D → Env → Option Env) (f : Env → Out (D × Env)) : Env → Res := fun ρ => ofOut (f ρ) fun d ρ' => match st d ρ' with
  | some ρ'' => .nx ρ''
  | none => .bad
theorem rs_ret {f : Env → Out (Slot × Env)} (h : RE X F W e f) : RS X F W (.Return (some e) pos) (dRet f) := PS.imp (ps_ret h) fun Dn σ H q => by
  obtain ⟨S, ρ, g, q⟩ := q
  refine ⟨S, ρ, g, ?_⟩
  unfold dRet ofOut at q
  cases hf : f ρ with
  | ok p => rw [hf] at q; exact fun v S' H' g' e' hv => q v σ S' H' g' e' hv
  | exc c fs ρ' => rw [hf] at q; exact fun cls dd S' H' g' e' hx => q cls dd σ S' H' g' e' hx
  | bad => rw [hf] at q; exact q.elim
theorem rs_retN : RS X F W (.Return none pos) dRetN := PS.imp ps_retN fun Dn σ H q => by
  obtain ⟨S, ρ, g, q⟩ := q
  exact q .non σ S H g (Ex.refl S) .non
theorem rs_brk : RS X F W (.Break pos) dBrk := PS.imp ps_break fun Dn σ H q => by
  obtain ⟨S, ρ, g, q⟩ := q
  exact q σ S H g (Ex.refl S)
theorem rs_ct : RS X F W (.Continue pos) dCt := PS.imp ps_continue fun Dn σ H q => by
  obtain ⟨S, ρ, g, q⟩ := q
  exact q σ S H g (Ex.refl S)
theorem rs_pass : RS X F W (.Pass pos) dSkip := PS.imp ps_pass fun Dn σ H q => by
  obtain ⟨S, ρ, g, q⟩ := q
  exact q σ S H g (Ex.refl S)
theorem rs_expr {f : Env → Out (Slot × Env)} (h : RE X F W e f) (hs : swapsWith e none pos.line X.env = pure false := by rfl) : RS X F W (.Expr e pos) (dExpr f) := PS.imp (ps_expr h hs) fun Dn σ H q => by
  obtain ⟨S, ρ, g, q⟩ := q
  refine ⟨S, ρ, g, ?_⟩
  unfold dExpr ofOut at q
  cases hf : f ρ with
  | ok p => rw [hf] at q; exact fun v S' H' g' e' hv => q σ S' H' g' e'
  | exc c fs ρ' => rw [hf] at q; exact fun cls dd S' H' g' e' hx => q cls dd σ S' H' g' e' hx
  | bad => rw [hf] at q; exact q.elim
theorem rs_if {sa sb : List Stmt} {c : Expr} {t : Env → Out (Bool × Env)} {f g : Env → Res} (hc : RT X F W c t) (ha : RSs X F W sa f) (hb : RSs X F W sb g) : RS X F W (.If c sa sb pos) (dIf t f g) := PS.imp (ps_if hc ha hb) fun Dn σ H q => by
  obtain ⟨S, ρ, gg, q⟩ := q
  refine ⟨S, ρ, gg, ?_⟩
  unfold dIf ofOut at q
  cases hf : t ρ with
  | ok p =>
    obtain ⟨b, ρ1⟩ := p
    rw [hf] at q
    intro S' H' g' e'
    cases b with
    | true => exact ⟨S', ρ1, g', spost_weak e' q⟩
    | false => exact ⟨S', ρ1, g', spost_weak e' q⟩
  | exc c fs ρ' => rw [hf] at q; exact fun cls dd S' H' g' e' hx => q cls dd σ S' H' g' e' hx
  | bad => rw [hf] at q; exact q.elim
theorem asg_core {i : Nat} {f : Env → Out (Slot × Env)} (hp : F.pw i = none) (hi : i < F.n) {Dn : Ends} {σ : L2.St} {H : Hp} (q : tS X.K X.mg F W (dAsg i f) Dn σ H) : tAsg (tE X.K X.mg F W f) (gName i) Dn σ H := by
  obtain ⟨S, ρ, g, q⟩ := q
  refine ⟨S, ρ, g, ?_⟩
  unfold dAsg ofOut at q
  cases hf : f ρ with
  | ok p => rw [hf] at q; exact fun v S' H' g' e' hv => q _ S' H' (g'.store hv hp hi) e'
  | exc c fs ρ' => rw [hf] at q; exact fun cls dd S' H' g' e' hx => q cls dd σ S' H' g' e' hx
  | bad => rw [hf] at q; exact q.elim
theorem rs_asg {i : Nat} {x : Str} {f : Env → Out (Slot × Env)} (hp : F.pw i = none) (hi : i < F.n) (hN : X.N.Nodup) (hx : X.N[i]? = some x) (hl : Loc X.env.scope x) (h : RE X F W e f) (hs : swapsWithSole [Expr.Name x p] e pos.line X.env = pure false := by rfl) (hw : swappedStores [Expr.Name x p] e X.env = pure none := by rfl)
    (h1 : (assignEach [Expr.Name x p] X.env).map (·.2) = [assign (Expr.Name x p) X.env] := by rfl) (hf : X.fn x = true ∨ X.env.scope.names.lookup x = some .local := by first | exact .inl rfl | exact .inr rfl | assumption) : RS X F W (.Assign [.Name x p] e pos) (dAsg i f) :=
  PS.imp (ps_asg h (pg_name hN hx hl hf) hs hw h1) fun Dn σ H q => asg_core hp hi q
theorem rs_asgT {st : D → Env → Option Env} {ts : List Nat} {f : Env → Out (D × Env)} (hg : RG X F tg st ts) (h : RD X F W e f) (hs : swapsWithSole [tg] e pos.line X.env = pure false := by rfl) (hw : swappedStores [tg] e X.env = pure none := by rfl)
    (h1 : (assignEach [tg] X.env).map (·.2) = [assign tg X.env] := by rfl) : RS X F W (.Assign [tg] e pos) (dAsgT st f) := by
  obtain ⟨g, pg, kg⟩ := hg
  refine PS.imp (ps_asg h pg hs hw h1) fun Dn σ H q => ?_
  obtain ⟨S, ρ, gg, q⟩ := q
  refine ⟨S, ρ, gg, ?_⟩
  unfold dAsgT ofOut at q
  cases hf : f ρ with
  | ok p =>
    obtain ⟨d, ρ1⟩ := p
    rw [hf] at q
    intro v S' H' g' e' hv
    dsimp only at q
    cases hst : st d ρ1 with
    | none => rw [hst] at q; exact q.elim
    | some ρ2 => rw [hst] at q; exact kg F rfl rfl S' H' σ ρ1 ρ2 v d _ g' hv hst fun σ' g2 _ => q σ' S' H' g2 e'
  | exc c fs ρ' => rw [hf] at q; exact fun cls dd S' H' g' e' hx => q cls dd σ S' H' g' e' hx
  | bad => rw [hf] at q; exact q.elim

/-! ### for -/
def loopE (st : D → Env → Option Env) (body : Env → Res) : List D → Env → Res
  | [], ρ => .nx ρ
  | d :: ds, ρ => match st d ρ with
    | none => .bad
    | some ρ1 => match body ρ1 with
      | .nx ρ2 => loopE st body ds ρ2
      | .ct ρ2 => loopE st body ds ρ2
      | .brk ρ2 => .nx ρ2
      | .ret r ρ2 => .ret r ρ2
      | .exc c fs ρ2 => .exc c fs ρ2
      | .bad => .bad
def dFor (fi : Env → Out (List D × Env)) (st : D → Env → Option Env) (body : Env → Res) : Env → Res := fun ρ => ofOut (fi ρ) fun l ρ' => loopE st body l ρ'
theorem G.item {K : PySem.W.Frag} {S S1 H H' : Hp} {σ : L2.St} {ρ : Env} {x : V} {d : D} (g : G K F S H σ ρ) (e1 : Ex S1 S) (h : (H' = H ∧ Dp K S1 x d) ∨ ∃ T xs ds, x = .ref T ∧ H T = none ∧ H' = upd H T (.tup xs) ∧ d = .tuple ds ∧ DpAll K S1 xs ds) :
    ∃ S', G K F S' H' σ ρ ∧ Ex S S' ∧ Dp K S' x d := by
  rcases h with ⟨rfl, h⟩ | ⟨T, xs, ds, rfl, hT, rfl, rfl, h⟩
  · exact ⟨S, g, Ex.refl S, Dp.mono e1 _ _ h⟩
  · have e2 : Ex S (upd S T (.tup xs)) := Ex.new (g.ex.free hT)
    exact ⟨_, g.newS hT, e2, .tup (.inl (.inl upd_same)) (DpAll.mono (e1.trans e2) _ _ h)⟩
theorem rs_for {fi : Env → Out (List D × Env)} {st : D → Env → Option Env} {ts : List Nat} {bf : Env → Res} {body : List Stmt} {iter : Expr} (hp : PassesOwn (model X.prog X.w) X.A X.env X.xe) (hc : X.calm = true) (hi : RI X F W tg iter fi) (hg : RG X F tg st ts) (hb : RSs X F W body bf)
    (hs : ∀ x, foldedSetIterable iter X.env x = pure x := by intro _; rfl) : RS X F W (.For tg iter body [] pos) (dFor fi st bf) := by
  obtain ⟨g, pg, kg⟩ := hg
  refine PS.imp (ps_for hp hc hi pg hb hs) fun Dn σ H q => ?_
  obtain ⟨S, ρ, gg, q⟩ := q
  refine ⟨S, ρ, gg, ?_⟩
  unfold dFor ofOut at q
  cases hf : fi ρ with
  | exc c fs ρ' => rw [hf] at q; exact fun cls dd S' H' g' e' hx => q cls dd σ S' H' g' e' hx
  | bad => rw [hf] at q; exact q.elim
  | ok p =>
    obtain ⟨l, ρ1⟩ := p
    rw [hf] at q
    dsimp only at q
    intro J S1 H1 g1 e1 jok
    refine ⟨fun i m σ H => m = l.length - i ∧ i ≤ l.length ∧ ∃ S ρ, G X.K F S H σ ρ ∧ Ex S1 S ∧ SPost X.K X.mg F W S Dn (loopE st bf (l.drop i) ρ), ⟨l.length, rfl, Nat.zero_le _, S1, ρ1, g1, Ex.refl S1, spost_weak e1 q⟩, ?_⟩
    rintro i m σ2 H2 ⟨rfl, hil, S2, ρ2, g2, e2, q2⟩
    by_cases hlt : i < l.length
    · refine .inr ⟨jok.go i H2 (e2.trans g2.ex) hlt, fun σ3 H3 => ∃ S3 ρ3, G X.K F S3 H3 σ3 ρ3 ∧ Ex S1 S3 ∧ SPost X.K X.mg F W S3 Dn (loopE st bf (l.drop (i + 1)) ρ3), fun σ3 H3 h3 => ⟨l.length - (i + 1), by omega, rfl, hlt, h3⟩, fun x H3 hy => ?_⟩
      have hget : l[i]? = some l[i] := List.getElem?_eq_getElem hlt
      obtain ⟨S3, g3, e3, hx⟩ := g2.item e2 (jok.yld i H2 x H3 l[i] (e2.trans g2.ex) hy hget)
      rw [List.drop_eq_getElem_cons hlt] at q2
      unfold loopE at q2
      cases hst : st l[i] ρ2 with
      | none => rw [hst] at q2; exact q2.elim
      | some ρ3 =>
        rw [hst] at q2
        dsimp only at q2
        refine kg F rfl rfl S3 H3 σ2 ρ2 ρ3 x l[i] _ g3 hx hst fun σ3 g4 _ => ⟨S3, ρ3, g4, ?_⟩
        have q2 := spost_weak e3 q2
        revert q2
        generalize bf ρ3 = o
        intro q2
        cases o with
        | nx ρ4 => exact fun σ5 S5 H5 g5 e5 => ⟨S5, ρ4, g5, (e2.trans e3).trans e5, spost_weak e5 q2⟩
        | ct ρ4 => exact fun σ5 S5 H5 g5 e5 => ⟨S5, ρ4, g5, (e2.trans e3).trans e5, spost_weak e5 q2⟩
        | brk ρ4 => exact fun σ5 S5 H5 g5 e5 => q2 σ5 S5 H5 g5 e5
        | ret r ρ4 => exact q2
        | exc c fs ρ4 => exact q2
        | bad => exact q2.elim
    · refine .inl ⟨jok.stop i H2 (e2.trans g2.ex) (by omega), ?_⟩
      rw [List.drop_eq_nil_of_le (by omega)] at q2
      exact q2 σ2 S2 H2 g2 (Ex.refl S2)

/-! ### while -/
def whileE (c : Env → Out (Bool × Env)) (body : Env → Res) : Nat → Env → Res
  | 0, _ => .bad
  | n + 1, ρ => ofOut (c ρ) fun b ρ1 => if b then match body ρ1 with
      | .nx ρ2 => whileE c body n ρ2
      | .ct ρ2 => whileE c body n ρ2
      | .brk ρ2 => .nx ρ2
      | r => r
    else .nx ρ1
theorem rs_while {c : Expr} {t : Env → Out (Bool × Env)} {bf : Env → Res} {body : List Stmt} (n : Nat) (hp : PassesOwn (model X.prog X.w) X.A X.env X.xe) (hc : RT X F W c t) (hb : RSs X F W body bf) : RS X F W (.While c body [] pos) (whileE t bf n) := by
  refine PS.imp (ps_while hp hc hb) fun Dn σ H q => ?_
  obtain ⟨S, ρ, gg, q⟩ := q
  refine ⟨fun m σ H => ∃ S ρ, G X.K F S H σ ρ ∧ SPost X.K X.mg F W S Dn (whileE t bf m ρ), ⟨n, S, ρ, gg, q⟩, ?_⟩
  rintro m σ2 H2 ⟨S2, ρ2, g2, q2⟩
  cases m with
  | zero => exact q2.elim
  | succ m =>
    unfold whileE ofOut at q2
    refine ⟨S2, ρ2, g2, ?_⟩
    cases hf : t ρ2 with
    | exc c fs ρ' => rw [hf] at q2; exact fun cls dd S' H' g' e' hx => q2 cls dd σ2 S' H' g' e' hx
    | bad => rw [hf] at q2; exact q2.elim
    | ok p =>
      obtain ⟨b, ρ3⟩ := p
      rw [hf] at q2
      dsimp only at q2
      intro S3 H3 g3 e3
      have q2 := spost_weak e3 q2
      cases b with
      | false => exact q2 σ2 S3 H3 g3 (Ex.refl S3)
      | true =>
        refine ⟨fun σ4 H4 => ∃ S ρ, G X.K F S H4 σ4 ρ ∧ SPost X.K X.mg F W S Dn (whileE t bf m ρ), fun σ4 H4 h4 => ⟨m, Nat.lt_succ_self m, h4⟩, S3, ρ3, g3, ?_⟩
        rw [if_pos rfl] at q2
        revert q2
        generalize bf ρ3 = o
        intro q2
        cases o with
        | nx ρ4 => exact fun σ5 S5 H5 g5 e5 => ⟨S5, ρ4, g5, spost_weak e5 q2⟩
        | ct ρ4 => exact fun σ5 S5 H5 g5 e5 => ⟨S5, ρ4, g5, spost_weak e5 q2⟩
        | brk ρ4 => exact fun σ5 S5 H5 g5 e5 => q2 σ5 S5 H5 g5 e5
        | ret r ρ4 => exact q2
        | exc c fs ρ4 => exact q2
        | bad => exact q2.elim
end
end Den

namespace Den
open PySem PySem.Spec L2

section
variable {X : Cx} {F : Fr} {W : WX} {tg a b c e : Expr} {es : List Expr} {pos p p2 : Pos}
/-! ### own lists changed -/
theorem loc_of {i : Nat} {x : Str} (hN : X.N[i]? = some x) (hv : Vis X.env.scope x) (hd : (x == ("__debug__" : Str)) = false := by decide) (hcd : (x == ("__classdict__" : Str)) = false := by decide) : PE X (.Name x pos) (tVar i) := pe_var hN hv hd hcd
def isOw (ρ : Env) (i : Nat) : Option (List D) := match ρ[i]? with
  | some (some (.ow l)) => some l
  | _ => none
theorem isOw_eq {ρ : Env} {i : Nat} {l : List D} (h : isOw ρ i = some l) : ρ[i]? = some (some (.ow l)) := by
  unfold isOw at h
  split at h
  · rename_i h1; cases h; exact h1
  · cases h
/-- x.append(e) -/
def dApp (i : Nat) (f : Env → Out (D × Env)) : Env → Res := fun ρ => match isOw ρ i with
  | none => .bad
  | some _ => ofOut (f ρ) fun d ρ' => match isOw ρ' i with
    | some l => if l.length < 10000000 then .nx (ρ'.set i (some (.ow (l ++ [d])))) else .bad
    | none => .bad
theorem sz_lt {n : Nat} (h : n < 10000000) : n < sizeLine := Nat.lt_of_lt_of_le h (by decide)
theorem rs_app {i : Nat} {f : Env → Out (D × Env)} {o : Expr} {apos : Pos} (ho : PE X o (tVar i)) (h : RD X F W e f)
    (hbase : attributeBase o "append" X.env (eval o X.env) = eval o X.env := by rfl)
    (hfew : ((backTo p (starEach [e] X.env)).all (fun x => !x.1) && (backToKw p (keywordEach [] X.env)).all (fun x => x.1.isSome)
      && decide ([e].length + ([] : List Keyword).length + (if ([] : List Keyword).isEmpty then 0 else 1) < 30)) = true := by rfl)
    (hline : (apos.endLine == p.line) = true := by rfl) (hs : starEach [e] X.env = (false, eval e X.env) :: starEach [] X.env := by rfl) (hplain : (backTo p (starEach [] X.env)).any (·.1) = false := by rfl)
    (hsw : swapsWith (.Call (.Attribute o "append" apos) [e] [] p) none pos.line X.env = pure false := by rfl) :
    RS X F W (.Expr (.Call (.Attribute o "append" apos) [e] [] p) pos) (dApp i f) := by
  refine PS.imp (ps_expr (pe_bm PySem.F.plainAttrs_list PySem.F.slot_list_append PySem.F.type_list_append mt_append ho (pa_cons h pa_nil hs) hbase hfew hline hs hplain) hsw) fun Dn σ H q => ?_
  obtain ⟨S, ρ, g, q⟩ := q
  unfold dApp at q
  cases h1 : isOw ρ i with
  | none => rw [h1] at q; exact q.elim
  | some l0 =>
    rw [h1] at q
    dsimp only at q
    obtain ⟨p0, e0, ⟨hs0, xs0, hx0, hd0⟩, _⟩ := g.sl i _ (isOw_eq h1)
    refine ⟨.ref p0, e0, .inl ⟨rfl, xs0, .inl (.inl hx0)⟩, S, ρ, g, ?_⟩
    unfold ofOut at q
    cases hf : f ρ with
    | exc c fs ρ' => rw [hf] at q; exact fun cls dd S' H' g' e' hx => q cls dd σ S' H' g' e' hx
    | bad => rw [hf] at q; exact q.elim
    | ok r =>
      obtain ⟨d, ρ1⟩ := r
      rw [hf] at q
      dsimp only at q
      intro v S1 H1 g1 e1 hv
      cases h2 : isOw ρ1 i with
      | none => rw [h2] at q; exact q.elim
      | some l =>
        rw [h2] at q
        dsimp only at q
        split at q
        · rename_i hl
          obtain ⟨p1, xs, e2, hs1, hx1, hd1, k⟩ := g1.change (isOw_eq h2)
          rw [e0] at e2
          cases e2
          refine ⟨p0, xs, v, rfl, rfl, hx1, sz_lt (by rw [DpAll.len hd1]; exact hl), ?_⟩
          exact q σ S1 _ (k (xs ++ [v]) (l ++ [d]) (DpAll.app hd1 (.cons hv .nil))) e1
        · exact q.elim
/-- x.pop() -/
def dPop (i : Nat) : Env → Out (D × Env) := fun ρ => match isOw ρ i with
  | none => .bad
  | some l => match l.getLast? with
    | some d => .ok (d, ρ.set i (some (.ow l.dropLast)))
    | none => .bad
theorem DpAll.dropLast {K : PySem.W.Frag} {H : Hp} {xs : List V} {l : List D} (h : DpAll K H xs l) : DpAll K H xs.dropLast l.dropLast := by
  rw [List.dropLast_eq_take, List.dropLast_eq_take, DpAll.len h]
  exact DpAll.take _ h
theorem rd_pop {i : Nat} {o : Expr} {apos : Pos} (ho : PE X o (tVar i))
    (hbase : attributeBase o "pop" X.env (eval o X.env) = eval o X.env := by rfl) (hline : (apos.endLine == p.line) = true := by rfl) : RD X F W (.Call (.Attribute o "pop" apos) [] [] p) (dPop i) := by
  refine PE.imp (pe_bm0 PySem.F.plainAttrs_list PySem.F.slot_list_pop PySem.F.type_list_pop mt_pop ho hbase hline) fun σ H Q q => ?_
  obtain ⟨S, ρ, g, q⟩ := q
  unfold dPop at q
  cases h1 : isOw ρ i with
  | none => rw [h1] at q; exact q.elim
  | some l =>
    rw [h1] at q
    dsimp only at q
    cases h2 : l.getLast? with
    | none => rw [h2] at q; exact q.elim
    | some d =>
      rw [h2] at q
      obtain ⟨p1, xs, e2, hs1, hx1, hd1, k⟩ := g.change (isOw_eq h1)
      rw [List.getLast?_eq_getElem?] at h2
      obtain ⟨v, hv, hv2⟩ := DpAll.getd hd1 h2
      refine ⟨.ref p1, e2, .inl ⟨rfl, xs, .inl (.inl hx1)⟩, p1, xs, v, rfl, rfl, hx1, by rw [DpAll.len hd1]; exact hv, ?_⟩
      exact q v S _ (k _ _ (DpAll.dropLast hd1)) (Ex.refl S) hv2
/-- x[k] = e -/
def dSet (i : Nat) (fk : Env → Out (D × Env)) (f : Env → Out (D × Env)) : Env → Res := fun ρ => ofOut (f ρ) fun d ρ1 => match isOw ρ1 i with
  | none => .bad
  | some _ => ofOut (fk ρ1) fun k ρ2 => match k, isOw ρ2 i with
    | .int k, some l => match ixN l.length k with
      | some j => .nx (ρ2.set i (some (.ow (l.set j d))))
      | none => .bad
    | _, _ => .bad
theorem rs_set {i : Nat} {f fk : Env → Out (D × Env)} {o k : Expr} {spos : Pos} (ho : PE X o (tVar i)) (hk : RD X F W k fk) (h : RD X F W e f)
    (ha : ∀ v, assign (.Subscript o k spos) X.env v = (do
      let ov ← holding [v] (eval o X.env)
      let iv ← holding [v, ov] (eval k X.env)
      standAt spos
      holding [v, ov, iv] (setItem ov iv v)
      release [v, ov, iv] []) := by intro _; rfl)
    (hs : swapsWithSole [Expr.Subscript o k spos] e pos.line X.env = pure false := by rfl) (hw : swappedStores [Expr.Subscript o k spos] e X.env = pure none := by rfl)
    (h1 : (assignEach [Expr.Subscript o k spos] X.env).map (·.2) = [assign (Expr.Subscript o k spos) X.env] := by rfl) : RS X F W (.Assign [.Subscript o k spos] e pos) (dSet i fk f) := by
  refine PS.imp (ps_asg h (pg_sub ho hk set_list ha) hs hw h1) fun Dn σ H q => ?_
  obtain ⟨S, ρ, g, q⟩ := q
  refine ⟨S, ρ, g, ?_⟩
  unfold dSet ofOut at q
  cases hf : f ρ with
  | exc c fs ρ' => rw [hf] at q; exact fun cls dd S' H' g' e' hx => q cls dd σ S' H' g' e' hx
  | bad => rw [hf] at q; exact q.elim
  | ok r =>
    obtain ⟨d, ρ1⟩ := r
    rw [hf] at q
    dsimp only at q
    intro v S1 H1 g1 e1 hv
    cases h2 : isOw ρ1 i with
    | none => rw [h2] at q; exact q.elim
    | some l0 =>
      rw [h2] at q
      dsimp only at q
      obtain ⟨p0, e0, _, _⟩ := g1.sl i _ (isOw_eq h2)
      refine ⟨.ref p0, e0, S1, ρ1, g1, ?_⟩
      cases hk1 : fk ρ1 with
      | exc c fs ρ' => rw [hk1] at q; exact fun cls dd S' H' g' e' hx => q cls dd σ S' H' g' (e1.trans e') hx
      | bad => rw [hk1] at q; exact q.elim
      | ok r =>
        obtain ⟨kd, ρ2⟩ := r
        rw [hk1] at q
        dsimp only at q
        intro kv S2 H2 g2 e2 hkv
        split at q
        · rename_i k l h3
          split at q
          · rename_i j hj
            cases hkv
            obtain ⟨p1, xs, e3, hs1, hx1, hd1, kk⟩ := g2.change (isOw_eq h3)
            rw [e0] at e3
            cases e3
            refine ⟨p0, xs, k, j, rfl, rfl, hx1, by rw [DpAll.len hd1]; exact hj, ?_⟩
            exact q σ S2 _ (kk _ _ (DpAll.set (Dp.mono e2 _ _ hv) j hd1)) (e1.trans e2)
          · exact q.elim
        · exact q.elim

/-! ### list comprehensions -/
def wipeE (ρ : Env) : List Nat → Env
  | [] => ρ
  | v :: vs => (wipeE ρ vs).set v none
theorem G.wipe {K : PySem.W.Frag} {S H : Hp} {σ : L2.St} {ρ : Env} (g : G K F S H σ ρ) : ∀ {vs : List Nat}, (∀ v ∈ vs, F.pw v = none) → G K F S H (L2.wipe σ vs) (wipeE ρ vs)
  | [], _ => g
  | v :: vs, h => by
    have g1 := G.wipe g (vs := vs) fun w hw => h w (List.mem_cons_of_mem _ hw)
    have hp := h v List.mem_cons_self
    have g2 := g1.drop (i := v) hp
    show G K F S H ((L2.wipe σ vs).set v none) ((wipeE ρ vs).set v none)
    have key : ∀ (j : Nat) (s : Slot), ((wipeE ρ vs).set v none)[j]? = some (some s) → j ≠ v := fun j s e z => by
      subst z
      rcases set_get? e with ⟨_, e⟩ | ⟨hj, _⟩
      · cases e
      · exact hj rfl
    refine ⟨g2.ex, g2.ex0, g2.new, g2.frame, fun j s e => ?_, fun j k l l' q hjk e1 e2 e3 => ?_, fun j q hj => ?_, by have := g2.len; simpa using this⟩
    · rw [List.getElem?_set_ne (Ne.symm (key j s e))]; exact g2.sl j s e
    · rw [List.getElem?_set_ne (Ne.symm (key j _ e1))] at e3
      rw [List.getElem?_set_ne (Ne.symm (key k _ e2))]
      exact g2.apart j k l l' q hjk e1 e2 e3
    · have hjv : j ≠ v := fun z => by rw [z, hp] at hj; cases hj
      rw [List.getElem?_set_ne (Ne.symm hjv)]
      exact g2.par j q hj
theorem wipeE_none {ρ : Env} : ∀ {vs : List Nat} {j : Nat} {s : Slot}, (wipeE ρ vs)[j]? = some (some s) → j ∉ vs
  | [], _, _, _ => by simp
  | v :: vs, j, s, h => by
    rcases set_get? h with ⟨_, e⟩ | ⟨hj, e⟩
    · cases e
    · have := wipeE_none e
      simp [hj, this]
/-- what was wiped in the slots' values alone -/
theorem G.unwipe {K : PySem.W.Frag} {S H : Hp} {σ : L2.St} {ρ : Env} {vs : List Nat} (g : G K F S H (L2.wipe σ vs) ρ) (hv : ∀ v ∈ vs, F.pw v = none) (hn : ∀ (j : Nat) (s : Slot), ρ[j]? = some (some s) → j ∉ vs) (hl : σ.length = F.n) : G K F S H σ ρ := by
  refine ⟨g.ex, g.ex0, g.new, g.frame, fun j s e => ?_, fun j k l l' q hjk e1 e2 e3 => ?_, fun j q hj => ?_, ⟨hl, g.len.2⟩⟩
  · rw [← wipe_out (hn j s e)]; exact g.sl j s e
  · rw [← wipe_out (hn j _ e1)] at e3
    rw [← wipe_out (hn k _ e2)]
    exact g.apart j k l l' q hjk e1 e2 e3
  · obtain ⟨a, l, b⟩ := g.par j q hj
    rw [wipe_out (hn j _ b)] at a
    exact ⟨a, l, b⟩
def lcE (own : List Nat) (st : D → Env → Option Env) (cf : Env → Out (Bool × Env)) (f : Env → Out (D × Env)) : List D → Env → Out (List D × Env)
  | [], ρ => .ok ([], ρ)
  | d :: ds, ρ => match st d ρ with
    | none => .bad
    | some ρ1 => match cf ρ1 with
      | .ok (true, ρ2) => match f ρ2 with
        | .ok (y, ρ3) => (lcE own st cf f ds (wipeE ρ3 own)).bind fun q => .ok (y :: q.1, q.2)
        | _ => .bad
      | .ok (false, ρ2) => lcE own st cf f ds (wipeE ρ2 own)
      | _ => .bad
/-- the shared locals that a comprehension's own names hid -/
def backE (ρ : Env) : List Nat → Env → Env
  | [], ρ' => ρ'
  | v :: vs, ρ' => match ρ[v]? with
    | some (some (.sh d)) => (backE ρ vs ρ').set v (some (.sh d))
    | _ => backE ρ vs ρ'
def dLC (own : List Nat) (fi : Env → Out (List D × Env)) (st : D → Env → Option Env) (cf : Env → Out (Bool × Env)) (f : Env → Out (D × Env)) : Env → Out (Slot × Env) := fun ρ => (fi ρ).bind fun p =>
  if p.1.length < 10000000 then (lcE own st cf f p.1 (wipeE p.2 own)).bind fun q => .ok (.ow q.1, backE p.2 own (wipeE q.2 own)) else .bad
def dTrue : Env → Out (Bool × Env) := fun ρ => .ok (true, ρ)
theorem G.back {K : PySem.W.Frag} {S S1 H H1 : Hp} {σ : L2.St} {ρ ρ' : Env} (g0 : G K F S1 H1 σ ρ) (e1 : Ex S1 S) (g : G K F S H σ ρ') : ∀ {vs : List Nat}, (∀ v ∈ vs, F.pw v = none) → G K F S H σ (backE ρ vs ρ')
  | [], _ => g
  | v :: vs, h => by
    have g1 := G.back g0 e1 g (vs := vs) fun w hw => h w (List.mem_cons_of_mem _ hw)
    unfold backE
    split
    · rename_i d hd
      obtain ⟨w, hw, hdp⟩ := g0.sl v _ hd
      exact g1.here hw (Dp.mono e1 _ _ hdp) (h v List.mem_cons_self)
    · exact g1
/-- the accumulator is watched while an element is reckoned -/
def guard (F : Fr) (Dl : Addr) (acc : List V) : Fr := { F with H0 := fun a => if a = Dl then some (.lst acc) else F.H0 a }
theorem G.guard {K : PySem.W.Frag} {S H : Hp} {σ : L2.St} {ρ : Env} {Dl : Addr} {acc : List V} (g : G K F S H σ ρ) (hD : H Dl = some (.lst acc)) (hS : S Dl = none) (hn : ∀ (i : Nat) (l' : List D), ρ[i]? = some (some (.ow l')) → σ[i]? ≠ some (some (.ref Dl))) : G K (guard F Dl acc) S H σ ρ := by
  refine ⟨g.ex, g.ex0, fun a ha => ?_, fun a o e q => ?_, fun i s e => ?_, g.apart, g.par, g.len⟩
  · rcases g.new a ha with h | h
    · exact .inl h
    · refine .inr ?_
      show (if a = Dl then _ else F.H0 a) = none
      rw [if_neg (fun z => ha (by rw [z]; exact hS))]; exact h
  · have e : (if a = Dl then some (HO.lst acc) else F.H0 a) = some o := e
    by_cases z : a = Dl
    · rw [if_pos z] at e; cases e; rw [z]; exact hD
    · rw [if_neg z] at e; exact g.frame a o e q
  · have := g.sl i s e
    cases s with
    | tk => exact this
    | sh d => exact this
    | ow l =>
      obtain ⟨p, e1, hw, hq⟩ := this
      refine ⟨p, e1, hw, ?_⟩
      rcases hq with hq | ⟨hq, h0⟩
      · exact .inl hq
      · refine .inr ⟨hq, ?_⟩
        show (if p = Dl then _ else F.H0 p) = none
        rw [if_neg (fun z => hn i l e (by rw [e1, z]))]; exact h0
theorem G.unguard {K : PySem.W.Frag} {S H : Hp} {σ : L2.St} {ρ : Env} {Dl : Addr} {acc : List V} (g : G K (Den.guard F Dl acc) S H σ ρ) (h0 : F.H0 Dl = none) (hS0 : F.S0 Dl = none) (hpw : ∀ i, F.pw i ≠ some Dl) :
    G K F S H σ ρ ∧ H Dl = some (.lst acc) ∧ S Dl = none ∧ ∀ (i : Nat) (l' : List D), ρ[i]? = some (some (.ow l')) → σ[i]? ≠ some (some (.ref Dl)) := by
  have hD : (Den.guard F Dl acc).H0 Dl = some (.lst acc) := if_pos rfl
  have hne : ∀ a, a ≠ Dl → (Den.guard F Dl acc).H0 a = F.H0 a := fun a z => if_neg z
  refine ⟨⟨g.ex, g.ex0, fun a ha => ?_, fun a o e q => ?_, fun i s e => ?_, g.apart, g.par, g.len⟩, g.frame Dl _ hD hpw, ?_, fun i l' e z => ?_⟩
  · by_cases z : a = Dl
    · rw [z]; exact .inr h0
    · rcases g.new a ha with h | h
      · exact .inl h
      · rw [hne a z] at h; exact .inr h
  · have z : a ≠ Dl := fun z => by rw [z, h0] at e; cases e
    exact g.frame a o (by rw [hne a z]; exact e) q
  · have := g.sl i s e
    cases s with
    | tk => exact this
    | sh d => exact this
    | ow l =>
      obtain ⟨p, e1, hw, hq⟩ := this
      refine ⟨p, e1, hw, ?_⟩
      rcases hq with hq | ⟨hq, h1⟩
      · exact .inl hq
      · refine .inr ⟨hq, ?_⟩
        by_cases z : p = Dl
        · rw [z]; exact h0
        · rw [hne p z] at h1; exact h1
  · cases e : S Dl with
    | none => rfl
    | some o =>
      rcases g.new Dl (by rw [e]; simp) with h | h
      · exact absurd hS0 h
      · rw [hD] at h; cases h
  · obtain ⟨p, e1, hw, hq⟩ := g.sl i _ e
    rw [z] at e1
    cases e1
    rcases hq with hq | ⟨_, h1⟩
    · exact hpw i hq
    · rw [hD] at h1; cases h1
abbrev W0 : WX := fun _ _ _ _ => False
theorem rts_nil {X : Cx} : PTs X [] (tT X.K X.mg F W0 dTrue) := ⟨fun pins s σ H Q I q => pts_nil.run pins s σ H Q I (by
  obtain ⟨S, ρ, g, q⟩ := q
  exact q S H g (Ex.refl S))⟩
theorem rts_one {X : Cx} {c : Expr} {f : Env → Out (Bool × Env)} (h : RT X F W0 c f) : PTs X [c] (tT X.K X.mg F W0 f) := pts_one h
theorem wipe_in {σ : L2.St} {j : Nat} (hj : j < σ.length) : ∀ {vs : List Nat}, j ∈ vs → (L2.wipe σ vs)[j]? = some none
  | [], h => absurd h (by simp)
  | v :: vs, h => by
    by_cases e : j = v
    · subst e
      exact List.getElem?_set_self (by rw [wipe_length]; exact hj)
    · show ((L2.wipe σ vs).set v none)[j]? = _
      rw [List.getElem?_set_ne (Ne.symm e)]
      exact wipe_in hj (by simpa [e] using h)
theorem wipe_same {σ σ2 : L2.St} {own ts : List Nat} (hl : σ2.length = σ.length) (hsub : ∀ t ∈ ts, t ∈ own) (h : ∀ j : Nat, j ∉ ts → σ2[j]? = (L2.wipe σ own)[j]?) : L2.wipe σ2 own = L2.wipe σ own := by
  apply List.ext_getElem?
  intro j
  by_cases ho : j ∈ own
  · by_cases hj : j < σ.length
    · rw [wipe_in hj ho, wipe_in (by omega) ho]
    · rw [List.getElem?_eq_none (by rw [wipe_length]; omega), List.getElem?_eq_none (by rw [wipe_length]; omega)]
  · rw [wipe_out ho, h j fun z => ho (hsub j z)]
theorem not_exc {own : List Nat} {st : D → Env → Option Env} {cf : Env → Out (Bool × Env)} {f : Env → Out (D × Env)} : ∀ (l : List D) (ρ : Env) (c : Str) (fs : List (Str × D)) (ρ' : Env), lcE own st cf f l ρ ≠ .exc c fs ρ'
  | [], _, _, _, _, z => by cases z
  | d :: ds, ρ, c, fs, ρ', z => by
    unfold lcE at z
    split at z
    · cases z
    · split at z
      · split at z
        · rename_i y ρ3 _
          cases hh : lcE own st cf f ds (wipeE ρ3 own) with
          | ok q => rw [hh] at z; cases z
          | exc c' fs' ρ'' => exact not_exc _ _ _ _ _ hh
          | bad => rw [hh] at z; cases z
        · cases z
      · exact not_exc _ _ _ _ _ z
      · cases z
theorem wipeE_up {ρ : Env} {j : Nat} {s : Slot} : ∀ {vs : List Nat}, (wipeE ρ vs)[j]? = some (some s) → ρ[j]? = some (some s)
  | [], h => h
  | v :: vs, h => by
    rcases set_get? h with ⟨_, e⟩ | ⟨_, e⟩
    · cases e
    · exact wipeE_up e
theorem backE_up {ρ ρ' : Env} {j : Nat} {l' : List D} : ∀ {vs : List Nat}, (backE ρ vs ρ')[j]? = some (some (.ow l')) → ρ'[j]? = some (some (.ow l'))
  | [], h => h
  | v :: vs, h => by
    unfold backE at h
    split at h
    · rcases set_get? h with ⟨_, e⟩ | ⟨_, e⟩
      · cases e
      · exact backE_up e
    · exact backE_up h
/-- one frame for the watched accumulator -/
structure LcInv (K : PySem.W.Frag) (F : Fr) (S1 : Hp) (τ : L2.St) (Dl : Addr) (own : List Nat) (st : D → Env → Option Env) (cf : Env → Out (Bool × Env)) (f : Env → Out (D × Env)) (l ds : List D) (ρe : Env) (i : Nat) (H : Hp) : Prop where
  ex : ∃ (S : Hp) (ρ : Env) (acc : List V) (done rest : List D), G K F S H τ ρ ∧ Ex S1 S ∧ H Dl = some (.lst acc) ∧ S Dl = none ∧ (∀ (j : Nat) (l' : List D), ρ[j]? = some (some (.ow l')) → τ[j]? ≠ some (some (.ref Dl))) ∧
    DpAll K S acc done ∧ acc.length ≤ i ∧ lcE own st cf f (l.drop i) ρ = .ok (rest, ρe) ∧ done ++ rest = ds
theorem lc_core' {own ts : List Nat} {fi : Env → Out (List D × Env)} {st : D → Env → Option Env} {cf : Env → Out (Bool × Env)} {f : Env → Out (D × Env)} {g : TG} {K : PySem.W.Frag} {mg : Str → Option Value}
    (hown : ∀ v ∈ own, F.pw v = none) (hsub : ∀ t ∈ ts, t ∈ own) (hg : ∀ F' : Fr, F'.n = F.n → F'.pw = F.pw → TgOk K F' g st ts) {tt : TT} {te : TE}
    (ht : ∀ F' : Fr, F'.n = F.n → F'.pw = F.pw → ∀ σ H Q, tT K mg F' W0 cf σ H Q → tt σ H Q) (he : ∀ F' : Fr, F'.n = F.n → F'.pw = F.pw → ∀ σ H Q, tD K mg F' W0 f σ H Q → te σ H Q)
    {σ : L2.St} {H : Hp} {Q : VK} (q : tE K mg F W (dLC own fi st cf f) σ H Q) : tLc (tI K mg F W fi) g tt te own σ H Q := by
  obtain ⟨S, ρ, gg, q⟩ := q
  refine ⟨S, ρ, gg, ?_⟩
  unfold dLC at q
  cases hf : fi ρ with
  | exc c fs ρ' => rw [hf] at q; exact q
  | bad => rw [hf] at q; exact q.elim
  | ok p =>
    obtain ⟨l, ρ1⟩ := p
    rw [hf] at q
    dsimp only [Out.bind] at q
    split at q
    · rename_i hlen
      intro J S1 H1 g1 e1 jok Dl hDl
      have h0 : F.H0 Dl = none := g1.h0 hDl
      have hS1 : S1 Dl = none := g1.ex.free hDl
      have hS0 : F.S0 Dl = none := g1.ex0.free hS1
      have hσ : σ.length = F.n := g1.len.1
      have hpw : ∀ i, F.pw i ≠ some Dl := fun i z => by
        obtain ⟨_, xs, e⟩ := g1.pown z
        rw [hDl] at e; cases e
      obtain ⟨ds, ρe, hall⟩ : ∃ ds ρe, lcE own st cf f l (wipeE ρ1 own) = .ok (ds, ρe) := by
        cases hh : lcE own st cf f l (wipeE ρ1 own) with
        | ok q => exact ⟨q.1, q.2, rfl⟩
        | exc c fs ρ' => exact absurd hh (not_exc _ _ _ _ _)
        | bad => rw [hh] at q; exact q.elim
      rw [hall] at q
      have q : ∀ v S' H', G K F S' H' σ (backE ρ1 own (wipeE ρe own)) → Ex S S' → VOk K F S' H' σ (backE ρ1 own (wipeE ρe own)) v (.ow ds) → Q v H' := q
      have gw := g1.wipe hown
      refine ⟨fun i m H => m = l.length - i ∧ i ≤ l.length ∧ LcInv K F S1 (L2.wipe σ own) Dl own st cf f l ds ρe i H, ⟨l.length, rfl, Nat.zero_le _, ⟨S1, wipeE ρ1 own, [], [], ds, gw.newO hDl, Ex.refl S1, upd_same, hS1, fun j l' hj z => ?_, .nil, Nat.le_refl _, hall, rfl⟩⟩, ?_⟩
      · obtain ⟨p', e', ⟨_, ys, hy, _⟩, _⟩ := gw.sl j _ hj
        rw [z] at e'; cases e'
        rw [hDl] at hy; cases hy
      · rintro i m H2 ⟨rfl, hil, ⟨S2, ρ3, acc, done, rest, g2, e2, hD, hS, hn, hacc, hlen2, hrun, hsum⟩⟩
        by_cases hlt : i < l.length
        · refine .inr ⟨jok.go i H2 (e2.trans g2.ex) hlt, fun H' => LcInv K F S1 (L2.wipe σ own) Dl own st cf f l ds ρe (i + 1) H', fun H' h' => ⟨l.length - (i + 1), by omega, rfl, hlt, h'⟩, fun x H3 hy => ?_⟩
          have hget : l[i]? = some l[i] := List.getElem?_eq_getElem hlt
          have g2' : G K (Den.guard F Dl acc) S2 H2 (L2.wipe σ own) ρ3 := g2.guard hD hS hn
          obtain ⟨S3, g3, e3, hx⟩ := g2'.item e2 (jok.yld i H2 x H3 l[i] (e2.trans g2.ex) hy hget)
          rw [List.drop_eq_getElem_cons hlt] at hrun
          unfold lcE at hrun
          cases hst : st l[i] ρ3 with
          | none => rw [hst] at hrun; cases hrun
          | some ρ4 =>
            rw [hst] at hrun
            dsimp only at hrun
            refine hg (Den.guard F Dl acc) rfl rfl S3 H3 _ ρ3 ρ4 x l[i] _ g3 hx hst fun σ3 g4 hj => ?_
            have hw3 : L2.wipe σ3 own = L2.wipe σ own := wipe_same (by rw [g4.len.1, hσ] <;> rfl) hsub hj
            refine ⟨hw3, ht (Den.guard F Dl acc) rfl rfl _ _ _ ⟨S3, ρ4, g4, ?_⟩⟩
            cases hc : cf ρ4 with
            | exc c fs ρ' => rw [hc] at hrun; cases hrun
            | bad => rw [hc] at hrun; cases hrun
            | ok r =>
              obtain ⟨b, ρ5⟩ := r
              rw [hc] at hrun
              intro S5 H5 g5 e5
              cases b with
              | false =>
                dsimp only at hrun
                rw [if_neg Bool.false_ne_true]
                obtain ⟨u1, u2, u3, u4⟩ := g5.unguard h0 hS0 hpw
                have w1 := u1.wipe hown
                rw [hw3] at w1
                refine ⟨S5, wipeE ρ5 own, acc, done, rest, w1, (e2.trans e3).trans e5, u2, u3, fun j l' hjo z => ?_, DpAll.mono (e3.trans e5) _ _ hacc, by omega, hrun, hsum⟩
                obtain ⟨p', e', ⟨_, ys, hy, _⟩, hq⟩ := w1.sl j _ hjo
                have hno := wipeE_none hjo
                have hj5 := wipeE_up hjo
                refine u4 j l' hj5 ?_
                rw [← wipe_out (σ := σ3) hno, hw3]; exact z
              | true =>
                dsimp only at hrun
                rw [if_pos rfl]
                refine he (Den.guard F Dl acc) rfl rfl _ _ _ ⟨S5, ρ5, g5, ?_⟩
                cases hfy : f ρ5 with
                | exc c fs ρ' => rw [hfy] at hrun; cases hrun
                | bad => rw [hfy] at hrun; cases hrun
                | ok r =>
                  obtain ⟨y, ρ6⟩ := r
                  rw [hfy] at hrun
                  dsimp only at hrun
                  intro v S6 H6 g6 e6 hv
                  obtain ⟨u1, u2, u3, u4⟩ := g6.unguard h0 hS0 hpw
                  have w1 := u1.wipe hown
                  rw [hw3] at w1
                  cases hrest : lcE own st cf f (l.drop (i + 1)) (wipeE ρ6 own) with
                  | exc c fs ρ' => exact absurd hrest (not_exc _ _ _ _ _)
                  | bad => rw [hrest] at hrun; cases hrun
                  | ok r =>
                    obtain ⟨ys, ρ7⟩ := r
                    rw [hrest] at hrun
                    cases hrun
                    have hn' : ∀ (j : Nat) (l' : List D), (wipeE ρ6 own)[j]? = some (some (.ow l')) → (L2.wipe σ own)[j]? ≠ some (some (.ref Dl)) := fun j l' hjo z => by
                      have hno := wipeE_none hjo
                      refine u4 j l' (wipeE_up hjo) ?_
                      rw [← wipe_out (σ := σ3) hno, hw3]; exact z
                    refine ⟨acc, u2, sz_lt (by omega), ⟨S6, wipeE ρ6 own, acc ++ [v], done ++ [y], ys, ?_, ((e2.trans e3).trans e5).trans e6, upd_same, u3, hn', DpAll.app (DpAll.mono ((e3.trans e5).trans e6) _ _ hacc) (.cons hv .nil), by simp; omega, hrest, by rw [List.append_assoc]; exact hsum⟩⟩
                    -- the accumulator is written
                    refine ⟨w1.ex.put u3, w1.ex0, w1.new, fun a o e q => ?_, fun j s ej => (w1.sl j s ej).mono (Ex.refl _) fun l1 q xs es e1 h1 h2 => ?_, w1.apart, w1.par, w1.len⟩
                    · rw [upd_ne (fun z => by rw [z, h0] at e; cases e)]; exact w1.frame a o e q
                    · subst es
                      rw [upd_ne (fun z => hn' j l1 ej (by rw [e1, z]))]; exact ⟨h1, h2⟩
        · refine .inl ⟨jok.stop i H2 (e2.trans g2.ex) (by omega), ?_⟩
          rw [List.drop_eq_nil_of_le (by omega)] at hrun
          cases hrun
          rw [List.append_nil] at hsum
          subst hsum
          have ww : L2.wipe (L2.wipe σ own) own = L2.wipe σ own := wipe_same (ts := []) (by rw [wipe_length]) (fun t ht => absurd ht (by simp)) fun j _ => rfl
          have g3 : G K F S2 H2 (L2.wipe σ own) (wipeE ρe own) := by
            have := g2.wipe hown
            rw [ww] at this
            exact this
          have g4 := g3.unwipe hown (fun j s h => wipeE_none h) hσ
          have g5 := g1.back e2 g4 hown
          refine q _ S2 H2 g5 (e1.trans e2) ⟨Dl, rfl, ⟨hS, acc, hD, hacc⟩, h0, fun j l' hj z => ?_⟩
          have h3 := backE_up hj
          refine hn j l' (wipeE_up h3) ?_
          rw [wipe_out (wipeE_none h3)]; exact z
    · exact q.elim
end
end Den

namespace Den
open PySem PySem.Spec L2

/-! ### a comprehension, a block -/
/-- a target, the same in every context of a family -/
def RGF (fam : Cx → Prop) (K : PySem.W.Frag) (F : Fr) (tg : Expr) (st : D → Env → Option Env) (ts : List Nat) : Prop := ∃ g, (∀ X, fam X → PG X tg g) ∧ ∀ F' : Fr, F'.n = F.n → F'.pw = F.pw → TgOk K F' g st ts
def RGsF (fam : Cx → Prop) (K : PySem.W.Frag) (F : Fr) (tgs : List Expr) (st : List D → Env → Option Env) (ts : List Nat) : Prop := ∃ g, (∀ X, fam X → PGs X tgs g) ∧ ∀ F' : Fr, F'.n = F.n → F'.pw = F.pw → TgsOk K F' g st ts
section
variable {fam : Cx → Prop} {K : PySem.W.Frag} {F : Fr} {W : WX} {tg e : Expr} {es : List Expr} {pos : Pos}
theorem rgf_name {i : Nat} {x : Str} (hp : F.pw i = none) (hi : i < F.n) (h : ∀ X, fam X → X.N.Nodup ∧ X.N[i]? = some x ∧ Loc X.env.scope x ∧ (X.fn x = true ∨ X.env.scope.names.lookup x = some .local)) : RGF fam K F (.Name x pos) (sName i) [i] :=
  ⟨_, fun X hX => pg_name (h X hX).1 (h X hX).2.1 (h X hX).2.2.1 (h X hX).2.2.2, fun F' h1 h2 => tg_name (by rw [h2]; exact hp) (by rw [h1]; exact hi)⟩
theorem rgsf_nil : RGsF fam K F [] sNil [] := ⟨_, fun X _ => pgs_nil, fun F' _ _ S H σ ρ ρ' xs ds Q g hd hs q => by
  unfold sNil at hs
  split at hs
  · cases hs; cases hd; exact ⟨rfl, q _ g fun _ _ => rfl⟩
  · cases hs⟩
theorem rgsf_cons {s : D → Env → Option Env} {t : List D → Env → Option Env} {ts us : List Nat} (h1 : RGF fam K F e s ts) (h2 : RGsF fam K F es t us) (hs : ∀ X, fam X → (assignEach (e :: es) X.env).map (·.2) = assign e X.env :: (assignEach es X.env).map (·.2)) : RGsF fam K F (e :: es) (sCons s t) (ts ++ us) := by
  obtain ⟨g1, p1, k1⟩ := h1
  obtain ⟨g2, p2, k2⟩ := h2
  refine ⟨_, fun X hX => pgs_cons (p1 X hX) (p2 X hX) (hs X hX), fun F' l1 l2 S H σ ρ ρ' xs ds Q g hd hs q => ?_⟩
  unfold sCons at hs
  split at hs
  · rename_i d ds'
    cases hd with
    | cons a b =>
      rename_i v vs
      cases hd1 : s d ρ with
      | none => rw [hd1] at hs; cases hs
      | some ρ1 =>
        rw [hd1] at hs
        exact ⟨v, vs, rfl, k1 F' l1 l2 S H σ ρ ρ1 v d _ g a hd1 fun σ' g' hj1 => k2 F' l1 l2 S H σ' ρ1 ρ' vs ds' Q g' b hs fun σ2 g2 hj2 => q σ2 g2 fun j hj => by
          rw [List.mem_append, not_or] at hj
          rw [hj2 j hj.2, hj1 j hj.1]⟩
  · cases hs
theorem rgf_tup {k n : Nat} {t : List D → Env → Option Env} {ts : List Nat} (hK : ∀ X, fam X → X.K = K) (hc : ∀ X, fam X → X.calm = true) (h : RGsF fam K F es t ts) (hn : ∀ X, fam X → (assignEach es X.env).length = n) (hst : ∀ X, fam X → (assignEach es X.env).findIdx? (·.1) = none) : RGF fam K F (.Tuple es k pos) (sTup n t) ts := by
  obtain ⟨g, p, kk⟩ := h
  refine ⟨gTup K n g, fun X hX => by have := pg_tup (pos := pos) (k := k) (hc X hX) (p X hX) (hn X hX) (hst X hX); rw [hK X hX] at this; exact this, fun F' l1 l2 S H σ ρ ρ' x d Q gg hd hs q => ?_⟩
  unfold sTup at hs
  split at hs
  · rename_i ds
    split at hs
    · rename_i hl
      cases hd with
      | tup a b => exact ⟨_, _, rfl, sqT_mono gg.ex a, by rw [DpAll.len b]; exact hl, kk F' l1 l2 S H σ ρ ρ' _ ds Q gg b hs q⟩
    · cases hs
  · cases hs
end
/-- the contexts of a comprehension's block -/
def Blk (X : Cx) (scope : Scope) : Cx → Prop := fun X' => ∃ (s : Shared) (H : Hp) (C : Addr) (cl : List (Str × Addr)) (fp : List Addr), X' = X.blk s H scope (PySem.compEnvC scope cl C X.env) fp
section
variable {X : Cx} {F : Fr} {W : WX} {tg iter elt e : Expr} {es ifs : List Expr} {pos p spos py : Pos} {scope : Scope} {own : List (Str × Nat)} {ts : List Nat}
  {fi : Env → Out (List D × Env)} {st : D → Env → Option Env} {cf : Env → Out (Bool × Env)} {f : Env → Out (D × Env)}
/-- a clause's tests, in every frame that is like F -/
def RTs (X : Cx) (F : Fr) (ifs : List Expr) (cf : Env → Out (Bool × Env)) : Prop := PTs X ifs (tT X.K X.mg F W0 cf)
theorem re_lc (hc : X.calm = true) (hN : X.N.Nodup) (hi : RI X F W tg iter fi) (ok : BlkOk X.N X.env.scope scope own) (hp : ∀ v ∈ own.map (·.2), F.pw v = none) (hsub : ∀ t ∈ ts, t ∈ own.map (·.2))
    (hg : RGF (Blk X scope) X.K F tg st ts)
    (ht : ∀ F' : Fr, F'.n = F.n → F'.pw = F.pw → ∀ X', Blk X scope X' → PTs X' ifs (tT X.K X.mg F' W0 cf))
    (he : ∀ F' : Fr, F'.n = F.n → F'.pw = F.pw → ∀ X', Blk X scope X' → PE X' elt (tD X.K X.mg F' W0 f)) (hs : ∀ x, foldedSetIterable iter X.env x = pure x := by intro _; rfl) :
    RE X F W (.ListComp elt [⟨tg, iter, ifs, 0⟩] scope pos) (dLC (own.map (·.2)) fi st cf f) := by
  obtain ⟨g, pg, kg⟩ := hg
  refine PE.imp (pe_lc (tt := fun σ H Q => ∃ F' : Fr, F'.n = F.n ∧ F'.pw = F.pw ∧ tT X.K X.mg F' W0 cf σ H Q) (te := fun σ H Q => ∃ F' : Fr, F'.n = F.n ∧ F'.pw = F.pw ∧ tD X.K X.mg F' W0 f σ H Q) hc hN hi ok
    (fun s H C cl fp => pg _ ⟨s, H, C, cl, fp, rfl⟩) (fun s H C cl fp => ⟨fun pins s' σ H' Q I ⟨F', h1, h2, q⟩ => (ht F' h1 h2 _ ⟨s, H, C, cl, fp, rfl⟩).run pins s' σ H' Q I q⟩)
    (fun s H C cl fp => ⟨fun pins s' σ H' Q I ⟨F', h1, h2, q⟩ => (he F' h1 h2 _ ⟨s, H, C, cl, fp, rfl⟩).run pins s' σ H' Q I q⟩) hs) fun σ H Q q => ?_
  exact lc_core' hp hsub kg (fun F' h1 h2 σ H Q q => ⟨F', h1, h2, q⟩) (fun F' h1 h2 σ H Q q => ⟨F', h1, h2, q⟩) q
theorem rs_setLc {i : Nat} {y : Str} (hpi : F.pw i = none) (hin : i < F.n) (hc : X.calm = true) (hN : X.N.Nodup) (hy : X.N[i]? = some y) (hyl : X.env.scope.names.lookup y = some .local)
    (hsw : swapsWith (.ListComp elt [⟨tg, iter, ifs, 0⟩] scope pos) (some (.Name y py)) spos.line X.env = pure true) (hi : RI X F W tg iter fi) (ok : BlkOk X.N X.env.scope scope own) (hp : ∀ v ∈ own.map (·.2), F.pw v = none) (hsub : ∀ t ∈ ts, t ∈ own.map (·.2))
    (hg : RGF (Blk X scope) X.K F tg st ts)
    (ht : ∀ F' : Fr, F'.n = F.n → F'.pw = F.pw → ∀ X', Blk X scope X' → PTs X' ifs (tT X.K X.mg F' W0 cf))
    (he : ∀ F' : Fr, F'.n = F.n → F'.pw = F.pw → ∀ X', Blk X scope X' → PE X' elt (tD X.K X.mg F' W0 f)) (hs : ∀ x, foldedSetIterable iter X.env x = pure x := by intro _; rfl) :
    RS X F W (.Assign [.Name y py] (.ListComp elt [⟨tg, iter, ifs, 0⟩] scope pos) spos) (dAsg i (dLC (own.map (·.2)) fi st cf f)) := by
  obtain ⟨g, pg, kg⟩ := hg
  refine PS.imp (ps_setLc (tt := fun σ H Q => ∃ F' : Fr, F'.n = F.n ∧ F'.pw = F.pw ∧ tT X.K X.mg F' W0 cf σ H Q) (te := fun σ H Q => ∃ F' : Fr, F'.n = F.n ∧ F'.pw = F.pw ∧ tD X.K X.mg F' W0 f σ H Q) hc hN hy hyl hsw hi ok
    (fun s H C cl fp => pg _ ⟨s, H, C, cl, fp, rfl⟩) (fun s H C cl fp => ⟨fun pins s' σ H' Q I ⟨F', h1, h2, q⟩ => (ht F' h1 h2 _ ⟨s, H, C, cl, fp, rfl⟩).run pins s' σ H' Q I q⟩)
    (fun s H C cl fp => ⟨fun pins s' σ H' Q I ⟨F', h1, h2, q⟩ => (he F' h1 h2 _ ⟨s, H, C, cl, fp, rfl⟩).run pins s' σ H' Q I q⟩) hs) fun Dn σ H q => ?_
  have q := asg_core hpi hin q
  exact lc_core' hp hsub kg (fun F' h1 h2 σ H Q q => ⟨F', h1, h2, q⟩) (fun F' h1 h2 σ H Q q => ⟨F', h1, h2, q⟩) q
end

/-! ### isinstance of data -/
def tyD : D → Option String
  | .none => some "NoneType"
  | .bool _ => some "bool"
  | .int _ => some "int"
  | .str _ => some "str"
  | .list _ => some "list"
  | .tuple _ => some "tuple"
  | .dict _ => none
/-- isinstance(d, T) -/
def isD (T : String) (d : D) : Option Bool := (tyD d).bind fun t => kitB t T
def dIsi (T : String) (f : Env → Out (Late × Env)) : Env → Out (Slot × Env) := fun ρ => (f ρ).bind fun p => match p.1.res p.2 with
  | some d => match isD T d with
    | some b => .ok (.sh (.bool b), p.2)
    | none => .bad
  | none => .bad
def isDs : List String → D → Option Bool
  | [], _ => some false
  | T :: Ts, d => match isD T d with
    | some true => some true
    | some false => isDs Ts d
    | none => none
def dIsiT (Ts : List String) (f : Env → Out (Late × Env)) : Env → Out (Slot × Env) := fun ρ => (f ρ).bind fun p => match p.1.res p.2 with
  | some d => match isDs Ts d with
    | some b => .ok (.sh (.bool b), p.2)
    | none => .bad
  | none => .bad
theorem tyX_of {K : PySem.W.Frag} {H : Hp} {v : V} {d : D} {t : String} (h : Dp K H v d) (ht : tyD d = some t) : TyX K H v (.type t) := by
  cases h with
  | non => cases ht; exact .base .non
  | bl b => cases ht; exact .base (.bl b)
  | int i => cases ht; exact .base (.int i)
  | str x => cases ht; exact .base (.str x)
  | lst a b =>
    cases ht
    rcases a with (a | ⟨o, a⟩) | ⟨o, its, n, hk, hc, _⟩
    · exact .base (.lst a)
    · exact .base (.frz a)
    · exact .kList hk hc
  | tup a b =>
    cases ht
    rcases a with (a | ⟨o, a⟩) | ⟨o, its, n, hk, hc, _⟩
    · exact .base (.tup a)
    · exact .fTuple a
    · exact .kTuple hk hc
section
variable {X : Cx} {F : Fr} {W : WX} {e : Expr} {pos p p2 : Pos} {f : Env → Out (Late × Env)}
theorem re_isi {T : Str} {Ty : String} (hf : RO X F W e f) (hg : Gl X "isinstance") (hm : X.mg "isinstance" = none) (hgT : Gl X T) (hmT : X.mg T = none) (hv : bootBuiltins T = some (.type Ty)) (hn : T ≠ "__name__" := by decide) (hdb : (T == ("__debug__" : Str)) = false := by decide)
    (he : starEach (e :: [.Name T p2]) X.env = (false, eval e X.env) :: starEach [.Name T p2] X.env := by rfl) (hpl : (backTo pos (starEach [.Name T p2] X.env)).any (·.1) = false := by rfl)
    (hs : starEach (Expr.Name T p2 :: []) X.env = (false, eval (Expr.Name T p2) X.env) :: starEach [] X.env := by rfl) :
    RE X F W (.Call (.Name "isinstance" p) [e, .Name T p2] [] pos) (dIsi Ty f) := by
  refine PE.imp (pe_callB call_isi hg hm PyProof.Rows.boot_isinstance (pa_cons hf (pa_cons (pe_bltn (v := .ty Ty) hgT hmT hv rfl hn hdb) pa_nil hs) he) (by decide) (by decide) he hpl) fun σ H Q q => ?_
  obtain ⟨S, ρ, g, q⟩ := q
  refine ⟨S, ρ, g, ?_⟩
  unfold dIsi at q
  cases h1 : f ρ with
  | exc c fs ρ' => rw [h1] at q; exact q
  | bad => rw [h1] at q; exact q.elim
  | ok r =>
    obtain ⟨lt, ρ1⟩ := r
    rw [h1] at q
    dsimp only [Out.bind] at q
    intro v S1 H1 g1 e1 hv1
    cases h2 : lt.res ρ1 with
    | none => rw [h2] at q; exact q.elim
    | some d =>
      rw [h2] at q
      dsimp only at q
      cases h3 : isD Ty d with
      | none => rw [h3] at q; exact q.elim
      | some b =>
        rw [h3] at q
        unfold isD at h3
        cases h4 : tyD d with
        | none => rw [h4] at h3; cases h3
        | some t =>
          rw [h4] at h3
          exact ⟨v, .ty Ty, .type t, .type Ty, b, rfl, .ty Ty, tyX_of ((hv1.ld g1 h2).dp g1.ex) h4, kit_ty h3, q _ S1 H1 g1 e1 (.bl _)⟩
end
end Den
namespace Den
open PySem PySem.Spec L2
section
variable {X : Cx} {F : Fr} {W : WX} {e : Expr} {pos p p2 p3 p4 : Pos} {f : Env → Out (Late × Env)}
theorem re_isi2 {T1 T2 : Str} {Ty1 Ty2 : String} {kk : Nat} (hf : RO X F W e f) (hg : Gl X "isinstance") (hm : X.mg "isinstance" = none) (hg1 : Gl X T1) (hm1 : X.mg T1 = none) (hv1 : bootBuiltins T1 = some (.type Ty1)) (hg2 : Gl X T2) (hm2 : X.mg T2 = none) (hv2 : bootBuiltins T2 = some (.type Ty2))
    (hn1 : T1 ≠ "__name__" := by decide) (hdb1 : (T1 == ("__debug__" : Str)) = false := by decide) (hn2 : T2 ≠ "__name__" := by decide) (hdb2 : (T2 == ("__debug__" : Str)) = false := by decide)
    (he : starEach (e :: [.Tuple [.Name T1 p2, .Name T2 p3] kk p4]) X.env = (false, eval e X.env) :: starEach [.Tuple [.Name T1 p2, .Name T2 p3] kk p4] X.env := by rfl) (hpl : (backTo pos (starEach [.Tuple [.Name T1 p2, .Name T2 p3] kk p4] X.env)).any (·.1) = false := by rfl)
    (hs : starEach (Expr.Tuple [.Name T1 p2, .Name T2 p3] kk p4 :: []) X.env = (false, eval (Expr.Tuple [.Name T1 p2, .Name T2 p3] kk p4) X.env) :: starEach [] X.env := by rfl)
    (hs1 : starEach (Expr.Name T1 p2 :: [.Name T2 p3]) X.env = (false, eval (Expr.Name T1 p2) X.env) :: starEach [.Name T2 p3] X.env := by rfl) (hs2 : starEach (Expr.Name T2 p3 :: []) X.env = (false, eval (Expr.Name T2 p3) X.env) :: starEach [] X.env := by rfl) :
    RE X F W (.Call (.Name "isinstance" p) [e, .Tuple [.Name T1 p2, .Name T2 p3] kk p4] [] pos) (dIsiT [Ty1, Ty2] f) := by
  refine PE.imp (pe_callB call_isiT hg hm PyProof.Rows.boot_isinstance (pa_cons hf (pa_cons (pe_tup (pa_cons (pe_bltn (v := .ty Ty1) hg1 hm1 hv1 rfl hn1 hdb1) (pa_cons (pe_bltn (v := .ty Ty2) hg2 hm2 hv2 rfl hn2 hdb2) pa_nil hs2) hs1)) pa_nil hs) he) (by decide) (by decide) he hpl) fun σ H Q q => ?_
  obtain ⟨S, ρ, g, q⟩ := q
  refine ⟨S, ρ, g, ?_⟩
  unfold dIsiT at q
  cases h1 : f ρ with
  | exc c fs ρ' => rw [h1] at q; exact q
  | bad => rw [h1] at q; exact q.elim
  | ok r =>
    obtain ⟨lt, ρ1⟩ := r
    rw [h1] at q
    dsimp only [Out.bind] at q
    intro v S1 H1 g1 e1 hv
    refine ⟨sz_of (show 2 ≤ 100000 by decide), fun tp htp => ?_⟩
    cases h2 : lt.res ρ1 with
    | none => rw [h2] at q; exact q.elim
    | some d =>
      rw [h2] at q
      dsimp only at q
      cases h3 : isDs [Ty1, Ty2] d with
      | none => rw [h3] at q; exact q.elim
      | some b =>
        rw [h3] at q
        have hdp := Dp.mono (Ex.new (o := .tup [.ty Ty1, .ty Ty2]) htp) _ _ ((hv.ld g1 h2).dp g1.ex)
        obtain ⟨t, h4⟩ : ∃ t, tyD d = some t := by
          cases h4 : tyD d with
          | none => simp [isDs, isD, h4] at h3
          | some t => exact ⟨t, rfl⟩
        have hk : PySem.W.kitAny X.K (.type t) [.type Ty1, .type Ty2] = some b := by
          simp only [isDs, isD, h4, Option.bind_some] at h3
          cases hb1 : kitB t Ty1 with
          | none => rw [hb1] at h3; cases h3
          | some b1 =>
            rw [hb1] at h3
            cases b1 with
            | true =>
              cases h3
              refine kitAny_cons (r := true) (kit_ty hb1) (fun z => by cases z) fun _ => rfl
            | false =>
              refine kitAny_cons (kit_ty hb1) (fun _ => ?_) (fun z => by cases z)
              cases hb2 : kitB t Ty2 with
              | none => rw [hb2] at h3; cases h3
              | some b2 =>
                rw [hb2] at h3
                cases b2 with
                | true => cases h3; exact kitAny_cons (r := true) (kit_ty hb2) (fun z => by cases z) fun _ => rfl
                | false => cases h3; exact kitAny_cons (kit_ty hb2) (fun _ => kitAny_nil) (fun z => by cases z)
        exact ⟨v, tp, [.ty Ty1, .ty Ty2], .type t, [.type Ty1, .type Ty2], b, rfl, upd_same, .cons (.ty _) (.cons (.ty _) .nil), tyX_of hdp h4, hk, q _ S1 _ (g1.newO htp) e1 (.bl _)⟩
end
end Den
namespace Den
open PySem PySem.Spec L2
def visB (sc : Scope) (x : Str) : Bool := match sc.names.lookup x with
  | some .local => true
  | some .cell => true
  | some .free => true
  | _ => false
theorem vis_of {sc : Scope} {x : Str} (h : visB sc x = true) : Vis sc x := by
  unfold visB at h
  split at h
  · rename_i e; exact .inl e
  · rename_i e; exact .inr (.inl e)
  · rename_i e; exact .inr (.inr e)
  · cases h
def locB (sc : Scope) (x : Str) : Bool := match sc.names.lookup x with
  | some .local => true
  | some .cell => true
  | _ => false
theorem locv {sc : Scope} {x : Str} (h : locB sc x = true) : Loc sc x := by
  unfold locB at h
  split at h
  · rename_i e; exact .inl e
  · rename_i e; exact .inr e
  · cases h
end Den
namespace Den
open PySem PySem.Spec L2
def dNeg (f : Env → Out (Late × Env)) : Env → Out (Slot × Env) := fun ρ => (f ρ).bind fun p => match p.1.res p.2 with
  | some (.int i) => .ok (.sh (.int (-i)), p.2)
  | _ => .bad
theorem re_neg {X : Cx} {F : Fr} {W : WX} {e : Expr} {pos : Pos} {f : Env → Out (Late × Env)} (h : RO X F W e f) : RE X F W (.UnaryOp .USub e pos) (dNeg f) := PE.imp (pe_un un_neg h) fun σ H Q q => by
  obtain ⟨S, ρ, g, q⟩ := q
  refine ⟨S, ρ, g, ?_⟩
  unfold dNeg at q
  cases hf : f ρ with
  | exc c fs ρ' => rw [hf] at q; exact q
  | bad => rw [hf] at q; exact q.elim
  | ok r =>
    obtain ⟨lt, ρ1⟩ := r
    rw [hf] at q
    dsimp only [Out.bind] at q
    intro v S1 H1 g1 e1 hv
    split at q
    · rename_i i hr
      have h1 := (hv.ld g1 hr).int
      subst h1
      exact ⟨i, rfl, q _ S1 H1 g1 e1 (.int _)⟩
    · exact q.elim
end Den

/-! exceptions of classes of the program's own: made, raised, caught, read -/
namespace Den
open PySem PySem.Spec L2

/-! ### what an own __init__ does -/
/-- the promise of an __init__ that stores its parameters, in order, in the fields named -/
def spInit (C : Addr) (names : List Str) : Sp := fun vs H Q _ => ∃ (a : Addr) (xs : List V), vs = .ref a :: xs ∧ xs.length = names.length ∧ H a = some (exo a C none) ∧
  ∀ (d : Addr) (H2 : Hp), H d = none → d ≠ a → H2 a = some (exo a C (some d)) → H2 d = some (exd d (names.zip xs).reverse) → (∀ b, b ≠ a → b ≠ d → H2 b = H b) → Q .non H2
/-- a class whose instances are raised -/
structure XOwn (P : Program) (w : World) (K : PySem.W.Frag) (mg : Str → Option Value) (base : Heap) (x : Str) (names : List Str) (k : Nat) : Prop where
  ex : ∃ C fI fd ps, mg x = some (.ref C) ∧ OexC K C ∧ PySem.W.findIn K (.ref C) "__init__" = some (some (.ref fI)) ∧ PySem.W.typeIn K (.ref fI) = some (.type "function") ∧ FnOk P w K mg base (L2.CX P w) k fI fd ps (spInit C names) ∧ Binds K fd ps [] ∧ XfC K C ∧ ∀ n, n ∈ names → PySem.W.findIn K (.ref C) n = some none
section
variable {X : Cx} {to te : TE}
/-- one store into an exception that has no dict yet, and one into its dict -/
theorem ost_first {D : Ends} {σ : L2.St} {H : Hp} {i : Nat} {a C dx0 : Addr} {f : Str} {y : V} {n : Nat} (hi : σ[0]? = some (some (.ref a))) (hy : σ[n]? = some (some y)) (T : OexC X.K C) (hf : PySem.W.findIn X.K (.ref C) f = some none) (ha : H a = some (exo a C none))
    (h : ∀ dx, H dx = none → dx ≠ a → D.nx σ (upd (upd H dx (exd dx [(f, y)])) a (exo a C (some dx)))) : tOst X.K f (tVar 0) (tVar n) D σ H :=
  ⟨y, hy, .ref a, hi, a, C, rfl, T, hf, .inl ⟨ha, h⟩⟩
theorem ost_next {D : Ends} {σ : L2.St} {H : Hp} {a C dx : Addr} {f : Str} {y : V} {n : Nat} {fs : List (Str × V)} (hi : σ[0]? = some (some (.ref a))) (hy : σ[n]? = some (some y)) (T : OexC X.K C) (hf : PySem.W.findIn X.K (.ref C) f = some none) (ha : H a = some (exo a C (some dx))) (hd : H dx = some (exd dx fs)) (hl : fs.length ≤ 900)
    (h : D.nx σ (upd H dx (exd dx ((f, y) :: fs)))) : tOst X.K f (tVar 0) (tVar n) D σ H :=
  ⟨y, hy, .ref a, hi, a, C, rfl, T, hf, .inr ⟨dx, fs, ha, hd, hl, h⟩⟩
end
/-- the end of the stores -/
structure InitEnd (H : Hp) (a C d : Addr) (fs : List (Str × V)) (H2 : Hp) : Prop where
  e1 : H2 a = some (exo a C (some d))
  e2 : H2 d = some (exd d fs)
  e3 : ∀ b, b ≠ a → b ≠ d → H2 b = H b
theorem InitEnd.first {H : Hp} {a C d : Addr} {p : Str × V} (hd : d ≠ a) : InitEnd H a C d [p] (upd (upd H d (exd d [p])) a (exo a C (some d))) :=
  ⟨upd_same, by rw [upd_ne hd, upd_same], fun b h1 h2 => by rw [upd_ne h1, upd_ne h2]⟩
theorem InitEnd.next {H H2 : Hp} {a C d : Addr} {fs : List (Str × V)} {p : Str × V} (hd : d ≠ a) (h : InitEnd H a C d fs H2) : InitEnd H a C d (p :: fs) (upd H2 d (exd d (p :: fs))) :=
  ⟨by rw [upd_ne (Ne.symm hd)]; exact h.e1, upd_same, fun b h1 h2 => by rw [upd_ne h2]; exact h.e3 b h1 h2⟩
section
variable {P : Program} {w : World} {K : PySem.W.Frag} {mg : Str → Option Value} {base : Heap}
theorem init1 {qual n f : Str} {st : Stmt} {fI C : Addr} {fd : FuncData} {pn pf p p' pos : Pos} (Fn : Fun K "__init__" qual st fI fd) (Sc : FnScope ["self", n] ["self", n] (defScope st))
    (hb : defBody st = [.Assign [.Attribute (.Name "self" p) f p'] (.Name n pn) pos]) (T : OexC K C) (hf : PySem.W.findIn K (.ref C) f = some none)
    (v0 : Vis (defScope st) "self") (v1 : Vis (defScope st) n) (hn : (n == ("__debug__" : Str)) = false := by decide) (hn' : (n == ("__classdict__" : Str)) = false := by decide)
    (sw : ∀ X : Cx, X.env.scope = defScope st → swapsWith (.Name n pn) (some (.Attribute (.Name "self" p) f p')) pos.line X.env = pure false := by intro _ _; rfl) : FnOk P w K mg base (L2.CX P w) 1 fI fd ["self", n] (spInit C [f]) :=
  Fn.okX Sc (fun vs H Q E ⟨a, xs, e, hl, _⟩ => by subst e; simp only [List.length_cons, hl]; done) fun cdv A outer s H vs Q E _ h => by
    obtain ⟨a, xs, rfl, hl, ha, q⟩ := h
    match xs, hl with
    | [x], _ =>
    rw [hb]
    refine ⟨_, pss_one (ps_ost (pe_var (i := 0) rfl v0) (pe_var (i := 1) rfl v1 hn hn') (sw _ rfl)), ?_⟩
    exact ost_first (X := cxOf (L2.CX P w) P w K mg base ["self", n] qual (defScope st) fI cdv A outer s H E) (i := 0) (dx0 := a) rfl rfl T hf ha fun dx h1 h2 => q dx _ h1 h2 (InitEnd.first h2).e1 (InitEnd.first h2).e2 (InitEnd.first h2).e3
theorem init2 {qual n m f g : Str} {st : Stmt} {fI C : Addr} {fd : FuncData} {pn pn2 p p' pos p2 p2' pos2 : Pos} (Fn : Fun K "__init__" qual st fI fd) (Sc : FnScope ["self", n, m] ["self", n, m] (defScope st))
    (hb : defBody st = [.Assign [.Attribute (.Name "self" p) f p'] (.Name n pn) pos, .Assign [.Attribute (.Name "self" p2) g p2'] (.Name m pn2) pos2]) (T : OexC K C) (hf : PySem.W.findIn K (.ref C) f = some none) (hg : PySem.W.findIn K (.ref C) g = some none)
    (v0 : Vis (defScope st) "self") (v1 : Vis (defScope st) n) (v2 : Vis (defScope st) m) (hn : (n == ("__debug__" : Str)) = false := by decide) (hn' : (n == ("__classdict__" : Str)) = false := by decide) (hm : (m == ("__debug__" : Str)) = false := by decide) (hm' : (m == ("__classdict__" : Str)) = false := by decide)
    (sw : ∀ X : Cx, X.env.scope = defScope st → swapsWith (.Name n pn) (some (.Attribute (.Name "self" p) f p')) pos.line X.env = pure false := by intro _ _; rfl)
    (sw2 : ∀ X : Cx, X.env.scope = defScope st → swapsWith (.Name m pn2) (some (.Attribute (.Name "self" p2) g p2')) pos2.line X.env = pure false := by intro _ _; rfl) : FnOk P w K mg base (L2.CX P w) 1 fI fd ["self", n, m] (spInit C [f, g]) :=
  Fn.okX Sc (fun vs H Q E ⟨a, xs, e, hl, _⟩ => by subst e; simp only [List.length_cons, hl]; done) fun cdv A outer s H vs Q E _ h => by
    obtain ⟨a, xs, rfl, hl, ha, q⟩ := h
    match xs, hl with
    | [x, y], _ =>
    rw [hb]
    refine ⟨_, pss_cons (ps_ost (pe_var (i := 0) rfl v0) (pe_var (i := 1) rfl v1 hn hn') (sw _ rfl)) (pss_one (ps_ost (pe_var (i := 0) rfl v0) (pe_var (i := 2) rfl v2 hm hm') (sw2 _ rfl))), ?_⟩
    refine ost_first (X := cxOf (L2.CX P w) P w K mg base ["self", n, m] qual (defScope st) fI cdv A outer s H E) (i := 0) (dx0 := a) rfl rfl T hf ha fun dx h1 h2 => ?_
    have i1 := InitEnd.first (H := H) (C := C) (p := (f, x)) h2
    have i2 := i1.next (p := (g, y)) h2
    exact ost_next (X := cxOf (L2.CX P w) P w K mg base ["self", n, m] qual (defScope st) fI cdv A outer s H E) rfl rfl T hg i1.e1 i1.e2 (by simp) (q dx _ h1 h2 i2.e1 i2.e2 i2.e3)
end

/-! ### raise -/
def dRaise (x : Str) (names : List Str) (fl : Env → Out (List D × Env)) : Env → Res := fun ρ => match fl ρ with
  | .ok p => if p.1.length = names.length ∧ p.1.length ≤ 1000 then .exc x (names.zip p.1).reverse p.2 else .bad
  | .exc c fs ρ' => .exc c fs ρ'
  | .bad => .bad
theorem noCX {P : Program} {w : World} {l : List PySem.Env} {H : Hp} {s s' : Shared} {e : Value} (h : L2.CX P w l H s (fun _ _ _ => False) e s') : False := by
  obtain ⟨_, _, _, _, _, _, _, _, _, _, _, _, z⟩ := h
  exact z
theorem zip_fst {α β : Type} : ∀ (a : List α) (b : List β), b.length = a.length → (a.zip b).map (·.1) = a
  | [], _, _ => rfl
  | x :: a, [], h => by cases h
  | x :: a, y :: b, h => by rw [List.zip_cons_cons, List.map_cons, zip_fst a b (by simpa using h)]
theorem zip_snd {α β : Type} : ∀ (a : List α) (b : List β), b.length = a.length → (a.zip b).map (·.2) = b
  | [], [], _ => rfl
  | [], _ :: _, h => by cases h
  | x :: a, [], h => by cases h
  | x :: a, y :: b, h => by rw [List.zip_cons_cons, List.map_cons, zip_snd a b (by simpa using h)]
theorem DpAll.rev {K : PySem.W.Frag} {S : Hp} : ∀ {vs : List V} {ds : List D}, DpAll K S vs ds → DpAll K S vs.reverse ds.reverse
  | _, _, .nil => .nil
  | _, _, .cons a b => by rw [List.reverse_cons, List.reverse_cons]; exact DpAll.app (DpAll.rev b) (.cons a .nil)
section
variable {X : Cx} {F : Fr} {W : WX} {e : Expr} {es : List Expr} {pos p pos' : Pos} {x : Str} {names : List Str} {k : Nat}
theorem rs_raise {fl : Env → Out (List D × Env)} (h : XOwn X.prog X.w X.K X.mg X.base x names k) (hc : X.calm = true) (tk : Takes X W) (hr : Room (k + 1) X.A) (hg : Gl X x) (ha : RL X F W (e :: es) fl)
    (hdb : (x == ("__debug__" : Str)) = false := by decide) (he : starEach (e :: es) X.env = (false, eval e X.env) :: starEach es X.env := by rfl) (hpl : (backTo pos' (starEach es X.env)).any (·.1) = false := by rfl) :
    RS X F W (.Raise (some (.Call (.Name x p) (e :: es) [] pos')) none pos) (dRaise x names fl) := by
  obtain ⟨C, fI, fd, ps, hm, T, iC, tI, hF, hb, _, _⟩ := h.ex
  refine PS.imp (ps_raise hc tk (pmk_oex T iC tI hF hr hb .nil (fun _ _ _ _ _ _ _ c => (noCX c).elim) hg hm ha hdb he hpl)) fun D σ H q => ?_
  obtain ⟨S, ρ, g, q⟩ := q
  refine ⟨S, ρ, g, ?_⟩
  unfold dRaise at q
  cases hf : fl ρ with
  | bad => rw [hf] at q; exact q.elim
  | exc c fs ρ' => rw [hf] at q; exact fun cls dd S' H' g' e' hx => q cls dd σ S' H' g' e' hx
  | ok r =>
    obtain ⟨ds, ρ1⟩ := r
    rw [hf] at q
    dsimp only at q
    intro vs S1 H1 g1 e1 hv
    split at q
    · rename_i hl
      have hvl := DpAll.len hv
      refine ⟨by omega, fun a ha => ⟨a, vs, by rw [List.append_nil], by omega, upd_same, fun d H2 hd hda h2a h2d hb2 => ⟨rfl, d, _, h2a, h2d, by rw [upd_ne hda] at hd; exact hd, ?_⟩⟩⟩
      rw [upd_ne hda] at hd
      have eH : upd (del H2 a) d (.xd (names.zip vs).reverse) = upd H1 d (.xd (names.zip vs).reverse) := by
        funext b
        by_cases hbd : b = d
        · subst hbd; rw [upd_same, upd_same]
        · rw [upd_ne hbd, upd_ne hbd]
          by_cases hba : b = a
          · subst hba; rw [del_same, ha]
          · rw [del_ne hba, hb2 b hba hbd, upd_ne hba]
      rw [eH]
      have eS : Ex S1 (upd S1 d (.xd (names.zip vs).reverse)) := Ex.new (g1.ex.free hd)
      refine q _ _ σ _ _ (g1.newS hd) (e1.trans eS) ⟨C, hm, rfl, (names.zip vs).reverse, upd_same, ?_, ?_⟩
      · rw [List.map_reverse, List.map_reverse, zip_fst _ _ (by omega), zip_fst _ _ hl.1]
      · rw [List.map_reverse, List.map_reverse, zip_snd _ _ (by omega), zip_snd _ _ hl.1]
        exact DpAll.rev (DpAll.mono eS ds vs hv)
    · exact q.elim
end
end Den

/-! try .. except X as e -/
namespace Den
open PySem PySem.Spec L2

def wipeR (i : Nat) : Res → Res
  | .nx ρ => .nx (ρ.set i none)
  | .brk ρ => .brk (ρ.set i none)
  | .ct ρ => .ct (ρ.set i none)
  | .ret r ρ => .ret r (ρ.set i none)
  | .exc _ _ _ => .bad
  | .bad => .bad
/-- a suite lets no exception out -/
def noX : Res → Res
  | .exc _ _ _ => .bad
  | r => r
/-- body, the clause: of an exception whether it is caught, the suite; slot i the exception's name -/
def dTry (i : Nat) (caught : Str → Option Bool) (body : Env → Res) (suite : Str → List (Str × D) → Env → Res) : Env → Res := fun ρ => match body ρ with
  | .exc c fs ρ' => match caught c with
    | some true => wipeR i (suite c fs (ρ'.set i (some .tk)))
    | some false => .exc c fs ρ'
    | none => .bad
  | r => r
/-- .. the exception not named -/
def dTryO (caught : Str → Option Bool) (body : Env → Res) (suite : Str → List (Str × D) → Env → Res) : Env → Res := fun ρ => match body ρ with
  | .exc c fs ρ' => match caught c with
    | some true => noX (suite c fs ρ')
    | some false => .exc c fs ρ'
    | none => .bad
  | r => r
/-- what a clause catches, class by class -/
def CatchOk (K : PySem.W.Frag) (mg : Str → Option Value) (cc : Value) (caught : Str → Option Bool) : Prop := ∀ c b cls, caught c = some b → mg c = some cls → PySem.W.exmOne K cls cc = some b
section
variable {K : PySem.W.Frag} {F : Fr} {S S' H H' : Hp} {σ : L2.St} {ρ : Env}
/-- a slot that holds nothing we know of -/
theorem G.junk (g : G K F S H σ ρ) {i : Nat} {x : Option V} (hp : F.pw i = none) : G K F S H (σ.set i x) (ρ.set i none) := by
  have key : ∀ (j : Nat) (s : Slot), (ρ.set i none)[j]? = some (some s) → j ≠ i ∧ ρ[j]? = some (some s) := fun j s e => by
    rcases set_get? e with ⟨rfl, e'⟩ | ⟨hj, e'⟩
    · cases e'
    · exact ⟨hj, e'⟩
  refine ⟨g.ex, g.ex0, g.new, g.frame, fun j s e => ?_, fun j k l l' q hjk e1 e2 e3 => ?_, fun j q hq => ?_, by simp [g.len]⟩
  · obtain ⟨hj, e⟩ := key j s e
    rw [List.getElem?_set_ne (Ne.symm hj)]
    exact g.sl j s e
  · obtain ⟨h1, e1⟩ := key _ _ e1
    obtain ⟨h2, e2⟩ := key _ _ e2
    rw [List.getElem?_set_ne (Ne.symm h1)] at e3
    rw [List.getElem?_set_ne (Ne.symm h2)]
    exact g.apart j k l l' q hjk e1 e2 e3
  · have hj : j ≠ i := fun z => by rw [z, hp] at hq; cases hq
    obtain ⟨a, l, b⟩ := g.par j q hq
    exact ⟨by rw [List.getElem?_set_ne (Ne.symm hj)]; exact a, l, by rw [List.getElem?_set_ne (Ne.symm hj)]; exact b⟩
/-- the frame from here on: what stands still now stands still to its end; slot i may hold the object v -/
def Fr.at (F : Fr) (S : Hp) (i : Nat) (v : V) : Fr := { F with S0 := S, tv := fun j => if j = i then v else F.tv j }
theorem SlotOk.tv {F' : Fr} {j : Nat} {x : Option (Option V)} {s : Slot} (h0 : F'.H0 = F.H0) (hp : F'.pw = F.pw) (ht : s = .tk → F'.tv j = F.tv j) (h : SlotOk K F S H j x s) : SlotOk K F' S H j x s := by
  cases s with
  | sh d => exact h
  | ow l =>
    obtain ⟨p, e, hw, hq⟩ := h
    exact ⟨p, e, hw, by rw [h0, hp]; exact hq⟩
  | tk =>
    have h : x = some (some (F.tv j)) := h
    show x = some (some (F'.tv j))
    rw [ht rfl]; exact h
/-- the suite's start: slot i holds the exception -/
theorem G.at (g : G K F S H σ ρ) {i : Nat} {v : V} (hp : F.pw i = none) (hi : i < F.n) : G K (F.at S i v) S H (σ.set i (some v)) (ρ.set i (some .tk)) := by
  have g1 := g.junk (i := i) (x := some v) hp
  refine ⟨g.ex, Ex.refl S, fun a h => .inl h, g.frame, fun j s e => ?_, fun j k l l' q hjk e1 e2 e3 => ?_, fun j q hq => ?_, by simp [Fr.at, g.len]⟩
  · rcases set_get? e with ⟨rfl, e'⟩ | ⟨hj, e⟩
    · have e' := Option.some.inj e'
      subst e'
      show _ = some (some (if j = j then v else F.tv j))
      rw [List.getElem?_set_self (by rw [g.len.1]; exact hi), if_pos rfl]
    · rw [List.getElem?_set_ne (Ne.symm hj)]
      exact SlotOk.tv (F := F) (F' := F.at S i v) rfl rfl (fun _ => if_neg hj) (g.sl j s e)
  · have key : ∀ {j : Nat} {l : List D}, (ρ.set i (some .tk))[j]? = some (some (.ow l)) → (ρ.set i none)[j]? = some (some (.ow l)) := fun {j l} e => by
      rcases set_get? e with ⟨_, e'⟩ | ⟨hj, e⟩
      · cases e'
      · rw [List.getElem?_set_ne (Ne.symm hj)]; exact e
    exact g1.apart j k l l' q hjk (key e1) (key e2) e3
  · obtain ⟨h1, l, h2⟩ := g1.par j q hq
    have hj : j ≠ i := fun z => by
      have hq : F.pw j = some q := hq
      rw [z, hp] at hq; cases hq
    exact ⟨h1, l, by rw [List.getElem?_set_ne (Ne.symm hj)] at h2 ⊢; exact h2⟩
/-- .. and its end: slot i forgotten -/
theorem G.un {i : Nat} {v : V} {x : Option V} (hp : F.pw i = none) (e : Ex F.S0 S) (hn : ∀ a, S a ≠ none → F.S0 a ≠ none ∨ F.H0 a = none) (g : G K (F.at S i v) S' H σ ρ) : G K F S' H (σ.set i x) (ρ.set i none) := by
  have g1 := g.junk (i := i) (x := x) hp
  refine ⟨g.ex, e.trans g.ex0, fun a h => (g.new a h).elim (hn a) .inr, g.frame, fun j s e => ?_, g1.apart, g1.par, g1.len⟩
  refine SlotOk.tv (F := F.at S i v) (F' := F) rfl rfl (fun hs => ?_) (g1.sl j s e)
  rcases set_get? e with ⟨_, e'⟩ | ⟨hj, _⟩
  · rw [hs] at e'; cases e'
  · show F.tv j = if j = i then v else F.tv j
    rw [if_neg hj]
theorem VOk.un {i : Nat} {w v : V} {x : Option V} {r : Slot} (h : VOk K (F.at S i w) S' H σ ρ v r) : VOk K F S' H (σ.set i x) (ρ.set i none) v r := by
  cases r with
  | tk => exact h.elim
  | sh d => exact h
  | ow l =>
    obtain ⟨p, rfl, hw, h0, hn⟩ := h
    refine ⟨p, rfl, hw, h0, fun j l' e1 e2 => ?_⟩
    rcases set_get? e1 with ⟨_, e'⟩ | ⟨hj, e⟩
    · cases e'
    · rw [List.getElem?_set_ne (Ne.symm hj)] at e2
      exact hn j l' e e2
def Fr.at0 (F : Fr) (S : Hp) : Fr := { F with S0 := S }
theorem G.at0 (g : G K F S H σ ρ) : G K (F.at0 S) S H σ ρ := ⟨g.ex, Ex.refl S, fun a h => .inl h, g.frame, fun j s e => SlotOk.tv (F := F) (F' := F.at0 S) rfl rfl (fun _ => rfl) (g.sl j s e), g.apart, g.par, g.len⟩
theorem G.un0 (e : Ex F.S0 S) (hn : ∀ a, S a ≠ none → F.S0 a ≠ none ∨ F.H0 a = none) (g : G K (F.at0 S) S' H σ ρ) : G K F S' H σ ρ :=
  ⟨g.ex, e.trans g.ex0, fun a h => (g.new a h).elim (hn a) .inr, g.frame, fun j s e => SlotOk.tv (F := F.at0 S) (F' := F) rfl rfl (fun _ => rfl) (g.sl j s e), g.apart, g.par, g.len⟩
end
section
variable {X : Cx} {F : Fr} {W : WX} {x n : Str} {cc : Value} {i : Nat} {body suite : List Stmt} {b₀ : Stmt} {np pos pos' : Pos} {caught : Str → Option Bool} {fb : Env → Res} {fs : Str → List (Str × D) → Env → Res}
/-- what a suite is told -/
def tSuite (K : PySem.W.Frag) (mg : Str → Option Value) (F : Fr) (ok : Str → Bool) (fs : Str → List (Str × D) → Env → Res) (z : Fr → Prop) (cls : Value) (d : Option Addr) : TS := fun D σ H =>
  ∃ (c : Str) (ff : List (Str × Den.D)) (F' : Fr), ok c = true ∧ F'.n = F.n ∧ F'.pw = F.pw ∧ z F' ∧ XOk K mg F'.S0 c ff cls d ∧ tS K mg F' W0 (fs c ff) D σ H
theorem pss_suite {X' : Cx} {st : List Stmt} {cls : Value} {d : Option Addr} {z : Fr → Prop} {ok : Str → Bool} (h : ∀ (c : Str) (ff : List (Str × Den.D)) (F' : Fr), ok c = true → F'.n = F.n → F'.pw = F.pw → z F' → XOk X'.K X'.mg F'.S0 c ff cls d → RSs X' F' W0 st (fs c ff)) : PSs X' st (tSuite X'.K X'.mg F ok fs z cls d) :=
  ⟨fun pins s σ H Dn I q => by
    obtain ⟨c, ff, F', h0, h1, h2, h3, h4, q⟩ := q
    exact (h c ff F' h0 h1 h2 h3 h4).run pins s σ H Dn I q⟩
def isT : Option Bool → Bool
  | some true => true
  | _ => false
theorem rs_try_as (hs : X.stack = X.env :: X.outer) (hf : X.env.frame = some X.env.locals) (hN : X.N.Nodup) (hi : X.N[i]? = some n) (hln : X.env.kindOf n = some .local) (hc : Names X x cc) (tk : Takes X W) (hpi : F.pw i = none) (hin : i < F.n) (hcl : CatchOk X.K X.mg cc caught)
    (hb : ∀ (W' : WX) (pn : List (Addr × Obj)) (xe : Value → Shared → Prop), Takes (X.tr pn xe) W' → RSs (X.tr pn xe) F W' body fb)
    (hsu : ∀ (a : Addr) (oe : Obj) (cls : Value) (d : Option Addr) (pn : List (Addr × Obj)), Zc cls d oe → (∃ vs, oe.data = .fields vs) →
      ∀ (c : Str) (ff : List (Str × D)) (F' : Fr), isT (caught c) = true → F'.n = F.n → F'.pw = F.pw → F'.tv i = .ref a → XOk X.K X.mg F'.S0 c ff cls d → RSs (X.suite a ((a, oe) :: pn)) F' W0 (b₀ :: suite) (fs c ff)) :
    RS X F W (.Try body [.ExceptHandler (some (.Name x np)) (some n) (b₀ :: suite) pos'] [] [] pos) (dTry i caught fb fs) := by
  refine PS.imp (ps_try_as (ts := fun a cls d => tSuite X.K X.mg F (fun c => isT (caught c)) fs (fun F' => F'.tv i = .ref a) cls d) (tb := fun W' => tS X.K X.mg F W' fb) hs hf hN hi hln hc tk (fun W' pn xe tk' _ => hb W' pn xe tk')
    (fun a oe cls d pn hz hd => pss_suite (X' := X.suite a ((a, oe) :: pn)) fun c ff F' h0 h1 h2 hz' h3 => hsu a oe cls d pn hz hd c ff F' h0 h1 h2 hz' h3)) fun Dn σ H q => ?_
  obtain ⟨S, ρ, g, q⟩ := q
  refine ⟨S, ρ, g, ?_⟩
  unfold dTry at q
  cases hr : fb ρ with
  | nx ρ' => rw [hr] at q; exact q
  | ret r ρ' => rw [hr] at q; exact q
  | brk ρ' => rw [hr] at q; exact q
  | ct ρ' => rw [hr] at q; exact q
  | bad => rw [hr] at q; exact q.elim
  | exc c ff ρ' =>
    rw [hr] at q
    dsimp only at q
    intro cls dd σ' S' H' g' e' hx
    have hm : X.mg c = some cls := by obtain ⟨C, h1, h2, _⟩ := hx; rw [h2]; exact h1
    cases hca : caught c with
    | none => rw [hca] at q; exact q.elim
    | some b =>
      rw [hca] at q
      refine ⟨b, hcl c b cls hca hm, fun hb a na => ?_, fun hb => ?_⟩
      · subst hb
        dsimp only at q
        refine ⟨c, ff, F.at S' i (.ref a), by dsimp only; rw [hca]; rfl, rfl, rfl, if_pos rfl, hx, S', ρ'.set i (some .tk), g'.at hpi hin, ?_⟩
        have back : ∀ {S2 H2 : Hp} {σ2 : L2.St} {ρ2 : Env} (x : Option V), G X.K (F.at S' i (.ref a)) S2 H2 σ2 ρ2 → G X.K F S2 H2 (σ2.set i x) (ρ2.set i none) := fun x g2 => g2.un hpi g'.ex0 g'.new
        cases hsr : fs c ff (ρ'.set i (some .tk)) with
        | nx ρ2 => rw [hsr] at q; exact fun σ2 S2 H2 g2 e2 => q _ S2 H2 (back none g2) (e'.trans e2)
        | brk ρ2 => rw [hsr] at q; exact fun σ2 S2 H2 g2 e2 => q _ S2 H2 (back none g2) (e'.trans e2)
        | ct ρ2 => rw [hsr] at q; exact fun σ2 S2 H2 g2 e2 => q _ S2 H2 (back none g2) (e'.trans e2)
        | ret r ρ2 => rw [hsr] at q; exact fun v σ2 S2 H2 g2 e2 hv => q v _ S2 H2 (back none g2) (e'.trans e2) hv.un
        | exc c2 f2 ρ2 => rw [hsr] at q; exact q.elim
        | bad => rw [hsr] at q; exact q.elim
      · subst hb
        exact q cls dd σ' S' H' g' e' hx
theorem rs_try_only (hs : X.stack = X.env :: X.outer) (hf : X.env.frame = some X.env.locals) (hc : Names X x cc) (tk : Takes X W) (hcl : CatchOk X.K X.mg cc caught)
    (hb : ∀ (W' : WX) (pn : List (Addr × Obj)) (xe : Value → Shared → Prop), Takes (X.tr pn xe) W' → RSs (X.tr pn xe) F W' body fb)
    (hsu : ∀ (a : Addr) (oe : Obj) (cls : Value) (d : Option Addr) (pn : List (Addr × Obj)), Zc cls d oe → (∃ vs, oe.data = .fields vs) →
      ∀ (c : Str) (ff : List (Str × D)) (F' : Fr), isT (caught c) = true → F'.n = F.n → F'.pw = F.pw → XOk X.K X.mg F'.S0 c ff cls d → RSs (X.suite a ((a, oe) :: pn)) F' W0 (b₀ :: suite) (fs c ff)) :
    RS X F W (.Try body [.ExceptHandler (some (.Name x np)) none (b₀ :: suite) pos'] [] [] pos) (dTryO caught fb fs) := by
  refine PS.imp (ps_try_only (ts := fun _ cls d => tSuite X.K X.mg F (fun c => isT (caught c)) fs (fun _ => True) cls d) (tb := fun W' => tS X.K X.mg F W' fb) hs hf hc tk (fun W' pn xe tk' _ => hb W' pn xe tk')
    (fun a oe cls d pn hz hd => pss_suite (X' := X.suite a ((a, oe) :: pn)) fun c ff F' h0 h1 h2 _ h3 => hsu a oe cls d pn hz hd c ff F' h0 h1 h2 h3)) fun Dn σ H q => ?_
  obtain ⟨S, ρ, g, q⟩ := q
  refine ⟨S, ρ, g, ?_⟩
  unfold dTryO at q
  cases hr : fb ρ with
  | nx ρ' => rw [hr] at q; exact q
  | ret r ρ' => rw [hr] at q; exact q
  | brk ρ' => rw [hr] at q; exact q
  | ct ρ' => rw [hr] at q; exact q
  | bad => rw [hr] at q; exact q.elim
  | exc c ff ρ' =>
    rw [hr] at q
    dsimp only at q
    intro cls dd σ' S' H' g' e' hx
    have hm : X.mg c = some cls := by obtain ⟨C, h1, h2, _⟩ := hx; rw [h2]; exact h1
    cases hca : caught c with
    | none => rw [hca] at q; exact q.elim
    | some b =>
      rw [hca] at q
      refine ⟨b, hcl c b cls hca hm, fun hb a na => ?_, fun hb => ?_⟩
      · subst hb
        dsimp only at q
        refine ⟨c, ff, F.at0 S', by dsimp only; rw [hca]; rfl, rfl, rfl, trivial, hx, S', ρ', g'.at0, ?_⟩
        have back : ∀ {S2 H2 : Hp} {σ2 : L2.St} {ρ2 : Env}, G X.K (F.at0 S') S2 H2 σ2 ρ2 → G X.K F S2 H2 σ2 ρ2 := fun g2 => g2.un0 g'.ex0 g'.new
        cases hsr : fs c ff ρ' with
        | nx ρ2 => rw [hsr] at q; exact fun σ2 S2 H2 g2 e2 => q _ S2 H2 (back g2) (e'.trans e2)
        | brk ρ2 => rw [hsr] at q; exact fun σ2 S2 H2 g2 e2 => q _ S2 H2 (back g2) (e'.trans e2)
        | ct ρ2 => rw [hsr] at q; exact fun σ2 S2 H2 g2 e2 => q _ S2 H2 (back g2) (e'.trans e2)
        | ret r ρ2 => rw [hsr] at q; exact fun v σ2 S2 H2 g2 e2 hv => q v σ2 S2 H2 (back g2) (e'.trans e2) (by cases r with
          | tk => exact hv.elim
          | sh d => exact hv
          | ow l => exact hv)
        | exc c2 f2 ρ2 => rw [hsr] at q; exact q.elim
        | bad => rw [hsr] at q; exact q.elim
      · subst hb
        exact q cls dd σ' S' H' g' e' hx
/-! ### a field of the exception that the suite holds -/
def dXf (i : Nat) (fs : List (Str × D)) (f : Str) : Env → Out (D × Env) := fun ρ => match ρ[i]? with
  | some (some .tk) => match fs.lookup f with
    | some d => .ok (d, ρ)
    | none => .bad
  | _ => .bad
theorem xlook {K : PySem.W.Frag} {S : Hp} {f : Str} {d : D} : ∀ {vfs : List (Str × V)} {fs : List (Str × D)}, vfs.map (·.1) = fs.map (·.1) → DpAll K S (vfs.map (·.2)) (fs.map (·.2)) → fs.lookup f = some d → ∃ v, vfs.lookup f = some v ∧ Dp K S v d
  | [], [], _, _, h => by cases h
  | [], _ :: _, h, _, _ => by cases h
  | _ :: _, [], h, _, _ => by cases h
  | (n, v) :: vfs, (m, e) :: fs, h1, h2, h => by
    rw [List.map_cons, List.map_cons, List.cons.injEq] at h1
    obtain ⟨hn, h1⟩ := h1
    cases h2 with
    | cons a b =>
      have hn : n = m := hn
      subst hn
      rw [List.lookup_cons] at h ⊢
      cases hq : (f == n) with
      | true => rw [hq] at h; cases h; exact ⟨v, rfl, a⟩
      | false => rw [hq] at h; exact xlook h1 b h
theorem rd_xf {a : Addr} {oe : Obj} {cls : Value} {d : Option Addr} {pn : List (Addr × Obj)} {c : Str} {ff : List (Str × D)} {F' : Fr} {W' : WX} {p pos : Pos} {n f : Str} {names : List Str} {k : Nat} {i : Nat}
    (T : XOwn X.prog X.w X.K X.mg X.base c names k) (hz : Zc cls d oe) (hf : ∃ vs, oe.data = .fields vs) (htv : F'.tv i = .ref a) (hx : XOk X.K X.mg F'.S0 c ff cls d) (hfn : f ∈ names)
    (hN : X.N[i]? = some n) (hv : Vis X.env.scope n) (hd : (n == ("__debug__" : Str)) = false := by decide) (hcd : (n == ("__classdict__" : Str)) = false := by decide) :
    RD (X.suite a ((a, oe) :: pn)) F' W' (.Attribute (.Name n p) f pos) (dXf i ff f) := by
  obtain ⟨C, fI, fd, ps, hm, _, _, _, _, _, xf, hno⟩ := T.ex
  refine PE.imp (pe_xf (C := C) xf (hno f hfn) hz hf (pe_var (X := X.suite a ((a, oe) :: pn)) hN hv hd hcd)) fun σ H Q q => ?_
  obtain ⟨S, ρ, g, q⟩ := q
  unfold dXf at q
  cases e : ρ[i]? with
  | none => rw [e] at q; exact q.elim
  | some s =>
    cases s with
    | none => rw [e] at q; exact q.elim
    | some s =>
      rw [e] at q
      cases s with
      | sh _ => exact q.elim
      | ow _ => exact q.elim
      | tk =>
        have hs : σ[i]? = some (some (F'.tv i)) := g.sl i _ e
        obtain ⟨C', h1, h2, h3⟩ := hx
        rw [hm] at h1
        cases h1
        cases d with
        | none =>
          subst h3
          exact q.elim
        | some dx =>
          obtain ⟨vfs, e1, e2, e3⟩ := h3
          cases hl : ff.lookup f with
          | none => rw [hl] at q; exact q.elim
          | some dd =>
            rw [hl] at q
            obtain ⟨v, hv1, hv2⟩ := xlook e2 e3 hl
            exact ⟨_, hs, htv, h2, dx, vfs, v, rfl, g.ex _ _ (g.ex0 _ _ e1), hv1, q v S H g (Ex.refl S) (Dp.mono g.ex0 dd v hv2)⟩
end
end Den

/-! texts: str, int of a text, methods -/
namespace Den
open PySem PySem.Spec L2

section
variable {K : PySem.W.Frag} {S H : Hp}
/-- data that is a list of texts -/
def strsOf : List D → Option (List Str)
  | [] => some []
  | .str z :: r => match strsOf r with
    | some t => some (z :: t)
    | none => none
  | _ :: _ => none
theorem dp_strs : ∀ (ys : List Str), DpAll K S (ys.map V.str) (ys.map PyData.str)
  | [] => .nil
  | z :: ys => .cons (.str z) (dp_strs ys)
theorem strs_vals : ∀ {ds : List D} {vs : List V} {ys : List Str}, DpAll K S vs ds → strsOf ds = some ys → vs = ys.map V.str
  | [], _, _, .nil, h => by cases h; rfl
  | d :: ds, _, ys, .cons a b, h => by
    cases d with
    | str z =>
      unfold strsOf at h
      cases h1 : strsOf ds with
      | none => rw [h1] at h; cases h
      | some t =>
        rw [h1] at h
        cases h
        cases a
        rw [strs_vals b h1]
        rfl
    | _ => cases h
end

/-! ### str(i), int(text) -/
def gStr : List D → Option Rv
  | [.int i] => if i.natAbs.log2 < 1920 then some (.val (.str (toString i))) else none
  | _ => none
theorem sem_str {K : PySem.W.Frag} : SemC K (fun xs H Q => ∃ i, xs = [.int i] ∧ i.natAbs.log2 < 1920 ∧ Q (.str (toString i)) H) gStr := fun S H vs ds z Q e hx hz q => by
  unfold gStr at hz
  split at hz
  · split at hz
    · rename_i hl
      cases hz
      obtain ⟨v, rfl, h⟩ := hx.one
      have h1 := h.int
      subst h1
      exact ⟨_, rfl, hl, q _ (.str _)⟩
    · cases hz
  · cases hz
def gIntS : List D → Option Rv
  | [.str a] => match PySem.intText? a with
    | some n => if a.length ≤ 640 then some (.val (.int n)) else none
    | none => none
  | ds => gInt ds
theorem sem_intS {K : PySem.W.Frag} : SemC K (fun xs H Q => (∃ a n, xs = [.str a] ∧ PySem.intText? a = some n ∧ a.length ≤ 640 ∧ Q (.int n) H) ∨ ((∃ i, xs = [.int i] ∧ Q (.int i) H) ∨ ∃ k, xs = [.bl k] ∧ Q (.int (if k then 1 else 0)) H)) gIntS := fun S H vs ds z Q e hx hz q => by
  unfold gIntS at hz
  split at hz
  · cases hn : PySem.intText? _ with
    | none => rw [hn] at hz; cases hz
    | some n =>
      rw [hn] at hz
      dsimp only at hz
      split at hz
      · rename_i hl
        cases hz
        obtain ⟨v, rfl, h⟩ := hx.one
        have h1 := h.str
        subst h1
        exact .inl ⟨_, n, rfl, hn, hl, q _ (.int _)⟩
      · cases hz
  · exact .inr (sem_int S H vs _ z Q e hx hz q)
theorem call_intS {X : Cx} : CallR X (.type "int") (fun xs H Q => (∃ a n, xs = [.str a] ∧ PySem.intText? a = some n ∧ a.length ≤ 640 ∧ Q (.int n) H) ∨ ((∃ i, xs = [.int i] ∧ Q (.int i) H) ∨ ∃ k, xs = [.bl k] ∧ Q (.int (if k then 1 else 0)) H)) := call_int_str.or call_int1

/-! ### text * n -/
theorem op_mulS {X : Cx} : OpR X (binaryOp .Mult) (fun x y H Q => ∃ a n, x = .str a ∧ y = .int n ∧ MulOk a n ∧ Q (.str (Txt.mul a n)) H) := by
  intro pins s σ H x y v u Q I rx ry h
  obtain ⟨a, n, rfl, rfl, hz, q⟩ := h
  obtain ⟨t, rfl⟩ := rx
  obtain ⟨t', rfl⟩ := ry
  exact SB.mul hz fun t' tk => ⟨.str _, H, I.tok _, ⟨_, rfl⟩, q⟩
def gMulS : D → D → Option Rv
  | .str a, .int n => if a.length ≤ 1000 ∧ -1000 ≤ n ∧ n ≤ 1000 then some (.val (.str (Txt.mul a n))) else none
  | _, _ => none
theorem opd_mulS {X : Cx} : OpD X (binaryOp .Mult) gMulS := ⟨_, op_mulS, fun S H x y a b z Q e hx hy hz q => by
  unfold gMulS at hz
  split at hz
  · rename_i i j
    split at hz
    · rename_i h1
      cases hz
      exact ⟨i, j, hx.str, hy.int, PyProof.Rows.mulOk_of 1000 1000 h1.1 (by have := h1.2.2; omega) (by omega) (by decide) (by decide), q _ (.str _)⟩
    · cases hz
  · cases hz⟩

/-! ### methods of texts -/
def SemM (K : PySem.W.Frag) (r : V → List V → Hp → VK → Prop) (op : Str → List D → Option Rv) : Prop :=
  ∀ (S H : Hp) (a : Str) (vs : List V) (ds : List D) (z : Rv) (Q : VK), Ex S H → LDAll K S H vs ds → op a ds = some z → RQ K S H Q z → r (.str a) vs H Q
def txtOf : D → Option Str
  | .str a => some a
  | _ => none
/-- the text, then the argument -/
def dM1 (op : Str → List D → Option Rv) (fo : Env → Out (D × Env)) (fe : Env → Out (Late × Env)) : Env → Out (Slot × Env) := fun ρ => (fo ρ).bind fun p => match txtOf p.1 with
  | some a => (fe p.2).bind fun r => match resAll r.2 [r.1] with
    | some ds => rvOut r.2 (op a ds)
    | none => .bad
  | none => .bad
def dM0 (op : Str → List D → Option Rv) (fo : Env → Out (D × Env)) : Env → Out (Slot × Env) := fun ρ => (fo ρ).bind fun p => match txtOf p.1 with
  | some a => rvOut p.2 (op a [])
  | none => .bad
section
variable {X : Cx} {F : Fr} {W : WX} {o e : Expr} {name : Str} {id : String} {apos pos : Pos} {r : V → List V → Hp → VK → Prop} {op : Str → List D → Option Rv} {fo : Env → Out (D × Env)} {fe : Env → Out (Late × Env)}
theorem re_m1 (slot : PySem.Slot "str" name id) (ty : typeOf (.builtin id) = pure (.type "method_descriptor")) (rule : MtR X id r) (sr : SemM X.K r op) (ho : RD X F W o fo) (he : RO X F W e fe)
    (hs : starEach [e] X.env = [(false, eval e X.env)] := by rfl) (hbase : attributeBase o name X.env (eval o X.env) = eval o X.env := by rfl) (hline : (apos.endLine == pos.line) = true := by rfl) :
    RE X F W (.Call (.Attribute o name apos) [e] [] pos) (dM1 op fo fe) := PE.imp (pe_m1 slot ty rule ho he hs hbase hline) fun σ H Q q => by
  obtain ⟨S, ρ, g, q⟩ := q
  refine ⟨S, ρ, g, ?_⟩
  unfold dM1 at q
  cases hf : fo ρ with
  | exc c fs ρ' => rw [hf] at q; exact q
  | bad => rw [hf] at q; exact q.elim
  | ok p =>
    obtain ⟨d, ρ1⟩ := p
    rw [hf] at q
    intro v S1 H1 g1 e1 hv
    dsimp only [Out.bind] at q
    cases d with
    | str a =>
      cases hv
      refine ⟨⟨a, rfl⟩, S1, ρ1, g1, ?_⟩
      dsimp only [txtOf] at q
      cases h2 : fe ρ1 with
      | exc c fs ρ' => rw [h2] at q; exact xweak e1 q
      | bad => rw [h2] at q; exact q.elim
      | ok p2 =>
        obtain ⟨lt, ρ2⟩ := p2
        rw [h2] at q
        intro v2 S2 H2 g2 e2 hv2
        dsimp only at q
        cases h3 : resAll ρ2 [lt] with
        | none => rw [h3] at q; exact q.elim
        | some ds =>
          rw [h3] at q
          obtain ⟨z, hz, rq⟩ := epost_of g2 (e1.trans e2) q
          exact sr S2 H2 a [v2] ds z Q g2.ex (LtAll.ld g2 (.cons hv2 .nil) h3) hz rq
    | _ => exact q.elim
theorem re_m0 (slot : PySem.Slot "str" name id) (ty : typeOf (.builtin id) = pure (.type "method_descriptor")) (rule : MtR X id r) (sr : SemM X.K r op) (ho : RD X F W o fo)
    (hbase : attributeBase o name X.env (eval o X.env) = eval o X.env := by rfl) (hline : (apos.endLine == pos.line) = true := by rfl) :
    RE X F W (.Call (.Attribute o name apos) [] [] pos) (dM0 op fo) := PE.imp (pe_m0 slot ty rule ho hbase hline) fun σ H Q q => by
  obtain ⟨S, ρ, g, q⟩ := q
  refine ⟨S, ρ, g, ?_⟩
  unfold dM0 at q
  cases hf : fo ρ with
  | exc c fs ρ' => rw [hf] at q; exact q
  | bad => rw [hf] at q; exact q.elim
  | ok p =>
    obtain ⟨d, ρ1⟩ := p
    rw [hf] at q
    intro v S1 H1 g1 e1 hv
    dsimp only [Out.bind] at q
    cases d with
    | str a =>
      cases hv
      obtain ⟨z, hz, rq⟩ := epost_of g1 e1 q
      exact ⟨⟨a, rfl⟩, sr S1 H1 a [] [] z Q g1.ex .nil hz rq⟩
    | _ => exact q.elim
end
def gSplit (a : Str) : List D → Option Rv
  | [.str b] => if (b.length == 0) = false ∧ a.length ≤ 99990 then some (.newL ((Txt.split a b).map PyData.str)) else none
  | _ => none
theorem sem_split {K : PySem.W.Frag} : SemM K (fun x xs H Q => ∃ a b, x = .str a ∧ xs = [.str b] ∧ (b.length == 0) = false ∧ a.length + 2 ≤ sizeLine ∧ rNewStrs (Txt.split a b) H Q) gSplit := fun S H a vs ds z Q e hx hz q => by
  unfold gSplit at hz
  split at hz
  · split at hz
    · rename_i hl
      cases hz
      obtain ⟨v, rfl, h⟩ := hx.one
      have h1 := h.str
      subst h1
      exact ⟨a, _, rfl, rfl, hl.1, sz_of (by have := hl.2; omega), fun p hp => q p _ hp (dp_strs _)⟩
    · cases hz
  · cases hz
def gJoinL (a : Str) (l : List D) : Option Rv := match strsOf l with
  | some ys => if (ys.map (·.length)).sum + ys.length * a.length ≤ 1000000 then some (.val (.str (Txt.join a ys))) else none
  | none => none
def gJoin (a : Str) : List D → Option Rv
  | [.list l] => gJoinL a l
  | [.tuple l] => gJoinL a l
  | _ => none
theorem sem_join {K : PySem.W.Frag} : SemM K (fun x xs H Q => ∃ a p, ∃ ys : List Str, x = .str a ∧ xs = [.ref p] ∧ (SqL K H p (ys.map V.str) ∨ SqT K H p (ys.map V.str)) ∧ (ys.map (·.length)).sum + ys.length * a.length ≤ 16777216 ∧ Q (.str (Txt.join a ys)) H) gJoin := fun S H a vs ds z Q e hx hz q => by
  have key : ∀ {l : List D} {p : Addr} {xs : List V}, gJoinL a l = some z → DpAll K S xs l → (SqL K H p xs ∨ SqT K H p xs) → (∃ a' p', ∃ ys : List Str, V.str a = .str a' ∧ [V.ref p] = [.ref p'] ∧ (SqL K H p' (ys.map V.str) ∨ SqT K H p' (ys.map V.str)) ∧ (ys.map (·.length)).sum + ys.length * a'.length ≤ 16777216 ∧ Q (.str (Txt.join a' ys)) H) := fun {l p xs} hz hd hs => by
    unfold gJoinL at hz
    cases hy : strsOf l with
    | none => rw [hy] at hz; cases hz
    | some ys =>
      rw [hy] at hz
      dsimp only at hz
      split at hz
      · rename_i hl
        cases hz
        have := strs_vals hd hy
        subst this
        exact ⟨a, p, ys, rfl, rfl, hs, by omega, q _ (.str _)⟩
      · cases hz
  unfold gJoin at hz
  split at hz
  · obtain ⟨v, rfl, h⟩ := hx.one
    obtain ⟨p, xs, rfl, hs, hd⟩ := h.list e
    exact key hz hd (.inl hs)
  · obtain ⟨v, rfl, h⟩ := hx.one
    obtain ⟨p, xs, rfl, hs, hd⟩ := h.tuple e
    exact key hz hd (.inr hs)
  · cases hz
def gIndexS (a : Str) : List D → Option Rv
  | [.str b] => match Builtin.Str.occurrences a b 0 a.length 1 with
    | i :: _ => some (.val (.int (i : Nat)))
    | [] => none
  | _ => none
theorem sem_indexS {K : PySem.W.Frag} : SemM K (fun x xs H Q => ∃ a b i rest, x = .str a ∧ xs = [.str b] ∧ Builtin.Str.occurrences a b 0 a.length 1 = i :: rest ∧ Q (.int (i : Nat)) H) gIndexS := fun S H a vs ds z Q e hx hz q => by
  unfold gIndexS at hz
  split at hz
  · cases ho : Builtin.Str.occurrences a _ 0 a.length 1 with
    | nil => rw [ho] at hz; cases hz
    | cons i rest =>
      rw [ho] at hz
      cases hz
      obtain ⟨v, rfl, h⟩ := hx.one
      have h1 := h.str
      subst h1
      exact ⟨a, _, i, rest, rfl, rfl, ho, q _ (.int _)⟩
  · cases hz
end Den

/-! classes of exceptions: what the top has left of them -/
namespace Den
open PySem PySem.Spec L2

def oexB (K : PySem.W.Frag) (C : Addr) : Bool := (match K.lookup C with
  | some ⟨.type "type", _, .cls cd, sl⟩ => (match cd.mro, sl.toList with
    | .ref C' :: bm, [_, _, _, _, some (.builtin n), _] => C' == C && n == "ValueError.__new__" && !cd.hasDel && cd.hasDict && PySem.HandSPX.refsVE bm
    | _, _ => false)
  | _ => false) && decide (PySem.W.findIn K (.ref C) "__setattr__" = some (some (.builtin "object.__setattr__"))) && decide (PySem.W.subIn K (.ref C) (.type "BaseException") = some true) && decide (PySem.W.typeIn K (.ref C) = some (.type "type")) && PySem.W.keepIn K (.ref C)
theorem oexB_ok {K : PySem.W.Frag} {C : Addr} (h : oexB K C = true) : OexC K C := by
  unfold oexB at h
  simp only [Bool.and_eq_true, decide_eq_true_eq] at h
  obtain ⟨⟨⟨⟨q, h1⟩, h2⟩, h3⟩, h4⟩ := h
  refine ⟨?_, h1, h2, h3, h4⟩
  split at q
  · rename_i dd cd sl ho
    split at q
    · rename_i C' bm k0 k1 k2 k3 n k5 hm hs
      simp only [Bool.and_eq_true, beq_iff_eq, Bool.not_eq_true'] at q
      obtain ⟨⟨⟨⟨rfl, rfl⟩, hdel⟩, hdi⟩, hr⟩ := q
      obtain ⟨nm, bs, mro, ns, qn, hd, sn, sub, ab, col, del⟩ := cd
      dsimp only at hm hdel hdi
      subst hm hdel hdi
      have hsl : sl = #[k0, k1, k2, k3, some (.builtin "ValueError.__new__"), k5] := by
        obtain ⟨l⟩ := sl
        simp only at hs
        rw [hs]
      subst hsl
      exact ⟨nm, qn, ns, bs, bm, sn, sub, ab, col, dd, k0, k1, k2, k3, k5, ho, hr⟩
    · cases q
  · cases q
/-- all that is asked of a class whose __init__ stores its parameters in the fields named -/
def xcB (K : PySem.W.Frag) (C fI : Addr) (names : List Str) : Bool := oexB K C && decide (PySem.W.findIn K (.ref C) "__init__" = some (some (.ref fI))) && decide (PySem.W.typeIn K (.ref fI) = some (.type "function")) && xfB K C && names.all fun n => decide (PySem.W.findIn K (.ref C) n = some none)
structure XcOk (K : PySem.W.Frag) (C fI : Addr) (names : List Str) : Prop where
  o : OexC K C
  i : PySem.W.findIn K (.ref C) "__init__" = some (some (.ref fI))
  t : PySem.W.typeIn K (.ref fI) = some (.type "function")
  x : XfC K C
  n : ∀ n, n ∈ names → PySem.W.findIn K (.ref C) n = some none
theorem xcB_ok {K : PySem.W.Frag} {C fI : Addr} {names : List Str} (h : xcB K C fI names = true) : XcOk K C fI names := by
  unfold xcB at h
  simp only [Bool.and_eq_true, decide_eq_true_eq, List.all_eq_true] at h
  obtain ⟨⟨⟨⟨a, b⟩, c⟩, d⟩, e⟩ := h
  exact ⟨oexB_ok a, b, c, xfB_ok d, e⟩
theorem XcOk.own {P : Program} {w : World} {K : PySem.W.Frag} {mg : Str → Option Value} {base : Heap} {x : Str} {C fI : Addr} {names ps : List Str} {k : Nat} {fd : FuncData} (h : XcOk K C fI names) (hm : mg x = some (.ref C)) (F : FnOk P w K mg base (L2.CX P w) k fI fd ps (spInit C names)) (hb : Binds K fd ps []) : XOwn P w K mg base x names k :=
  ⟨C, fI, fd, ps, hm, h.o, h.i, h.t, F, hb, h.x, h.n⟩
/-- what a clause that names x catches -/
structure Cat (K : PySem.W.Frag) (mg : Str → Option Value) (x : Str) (l : List (Str × Bool)) : Prop where
  ex : ∃ cc, mg x = some cc ∧ CatchOk K mg cc (fun c => l.lookup c)
def catB (K : PySem.W.Frag) (cc : Value) : List (Value × Bool) → Bool
  | [] => true
  | (c, b) :: r => decide (PySem.W.exmOne K c cc = some b) && catB K cc r
theorem cat_nil {K : PySem.W.Frag} {mg : Str → Option Value} {cc : Value} : CatchOk K mg cc (fun c => ([] : List (Str × Bool)).lookup c) := fun c b cls h => by cases h
theorem cat_cons {K : PySem.W.Frag} {mg : Str → Option Value} {cc cls : Value} {y : Str} {b : Bool} {l : List (Str × Bool)} (hm : mg y = some cls) (h : PySem.W.exmOne K cls cc = some b) (hr : CatchOk K mg cc (fun c => l.lookup c)) : CatchOk K mg cc (fun c => ((y, b) :: l).lookup c) := fun c b' cls' h1 h2 => by
  dsimp only at h1
  rw [List.lookup_cons] at h1
  cases hq : (c == y) with
  | true =>
    rw [hq] at h1
    cases h1
    have : c = y := eq_of_beq hq
    subst this
    rw [hm] at h2
    cases h2
    exact h
  | false =>
    rw [hq] at h1
    exact hr c b' cls' h1 h2
/-- the only class that is caught -/
theorem only1 {c y : Str} (h : isT ([(y, true)].lookup c) = true) : c = y := by
  rw [List.lookup_cons] at h
  cases hq : (c == y) with
  | true => exact eq_of_beq hq
  | false => rw [hq] at h; cases h
/-- an __init__ among a class's rows -/
def clsRow (s : Stmt) (i : Nat) : Stmt := match s with
  | .ClassDef _ _ _ body .. => body.getD i (.Pass ⟨0, 0, 0, 0⟩)
  | _ => .Pass ⟨0, 0, 0, 0⟩
section
variable {X : Cx} {F : Fr} {W : WX} {x n : Str} {i : Nat} {body suite : List Stmt} {b₀ : Stmt} {np pos pos' : Pos} {l : List (Str × Bool)} {fb : Env → Res} {fs : Str → List (Str × D) → Env → Res}
theorem rs_try (hcat : Cat X.K X.mg x l) (hg : Gl X x) (hs : X.stack = X.env :: X.outer) (hf : X.env.frame = some X.env.locals) (hN : X.N.Nodup) (hi : X.N[i]? = some n) (hln : X.env.kindOf n = some .local) (tk : Takes X W) (hpi : F.pw i = none) (hin : i < F.n)
    (hb : ∀ (W' : WX) (pn : List (Addr × Obj)) (xe : Value → Shared → Prop), Takes (X.tr pn xe) W' → RSs (X.tr pn xe) F W' body fb)
    (hsu : ∀ (a : Addr) (oe : Obj) (cls : Value) (d : Option Addr) (pn : List (Addr × Obj)), Zc cls d oe → (∃ vs, oe.data = .fields vs) →
      ∀ (c : Str) (ff : List (Str × D)) (F' : Fr), isT (l.lookup c) = true → F'.n = F.n → F'.pw = F.pw → F'.tv i = .ref a → XOk X.K X.mg F'.S0 c ff cls d → RSs (X.suite a ((a, oe) :: pn)) F' W0 (b₀ :: suite) (fs c ff)) (hdb : (x == ("__debug__" : Str)) = false := by decide) :
    RS X F W (.Try body [.ExceptHandler (some (.Name x np)) (some n) (b₀ :: suite) pos'] [] [] pos) (dTry i (fun c => l.lookup c) fb fs) := by
  obtain ⟨cc, hm, hc⟩ := hcat.ex
  exact rs_try_as hs hf hN hi hln ⟨hg, hdb, .inl hm⟩ tk hpi hin hc hb hsu
theorem rs_tryO (hcat : Cat X.K X.mg x l) (hg : Gl X x) (hs : X.stack = X.env :: X.outer) (hf : X.env.frame = some X.env.locals) (tk : Takes X W)
    (hb : ∀ (W' : WX) (pn : List (Addr × Obj)) (xe : Value → Shared → Prop), Takes (X.tr pn xe) W' → RSs (X.tr pn xe) F W' body fb)
    (hsu : ∀ (a : Addr) (oe : Obj) (cls : Value) (d : Option Addr) (pn : List (Addr × Obj)), Zc cls d oe → (∃ vs, oe.data = .fields vs) →
      ∀ (c : Str) (ff : List (Str × D)) (F' : Fr), isT (l.lookup c) = true → F'.n = F.n → F'.pw = F.pw → XOk X.K X.mg F'.S0 c ff cls d → RSs (X.suite a ((a, oe) :: pn)) F' W0 (b₀ :: suite) (fs c ff)) (hdb : (x == ("__debug__" : Str)) = false := by decide) :
    RS X F W (.Try body [.ExceptHandler (some (.Name x np)) none (b₀ :: suite) pos'] [] [] pos) (dTryO (fun c => l.lookup c) fb fs) := by
  obtain ⟨cc, hm, hc⟩ := hcat.ex
  exact rs_try_only hs hf ⟨hg, hdb, .inl hm⟩ tk hc hb hsu
end
end Den

/-! isinstance of the exception that a suite holds -/
namespace Den
open PySem PySem.Spec L2

def rIsX (K : PySem.W.Frag) (D a : Addr) (dd : Option Addr) : List V → Hp → VK → Prop := fun xs H Q => ∃ (c : V) (cv : Value) (b : Bool), xs = [.ref a, c] ∧ (∀ u, RelV c u → u = cv) ∧ PySem.W.kitOne K (.ref D) cv = some b ∧ (∀ dx, dd = some dx → ∃ vfs, H dx = some (.xd vfs)) ∧ Q (.bl b) H
theorem call_isX {X : Cx} {a D : Addr} {dd : Option Addr} {oe : Obj} {pn : List (Addr × Obj)} (C : ExcC X.K D) (hz : Zc (.ref D) dd oe) (hf : ∃ vs, oe.data = .fields vs) : CallR (X.suite a ((a, oe) :: pn)) (.builtin "isinstance") (rIsX X.K D a dd) := by
  intro pins s σ H xs us Q I r h
  obtain ⟨c, cv, b, rfl, hcv, e, hdx, q⟩ := h
  cases r with
  | cons rx rr =>
    cases rr with
    | cons rt rr =>
      cases rr
      cases rx
      have ec := hcv _ rt
      subst ec
      obtain ⟨hget, _⟩ := I.pin (a, oe) (List.mem_append.mpr (.inl List.mem_cons_self))
      obtain ⟨vs, hv⟩ := hf
      have J : ∃ od, PySem.W.InstAt s.heap a oe D od := by
        cases dd with
        | none =>
          obtain ⟨oc, od, oda, osl⟩ := oe
          obtain ⟨h1, h2⟩ := hz
          dsimp only at h1 h2 hv
          subst h1 h2 hv
          exact ⟨none, hget, rfl, rfl, trivial⟩
        | some dx =>
          obtain ⟨vfs, ex⟩ := hdx dx rfl
          have hx : ObjOk X.prog X.w H s.heap dx (.xd vfs) := I.hok dx _ ex
          obtain ⟨mA, hns, hr⟩ := hx
          obtain ⟨od, ho, hl⟩ := lookIn_ns hns
          exact ⟨some od, hget, hz.1, by unfold PySem.W.notCls; rw [hv] <;> rfl, by rw [hz.2]; exact ho⟩
      obtain ⟨od, J⟩ := J
      have hcl : (PySem.W.clsIn X.K D).isSome = true := by
        obtain ⟨cd, hc, _⟩ := PySem.W.any_some C.hd
        rw [hc]; rfl
      exact PySem.W.kia_one (PySem.W.kitx_exc hcl C.hg C.hk C.hs C.ha C.hn C.ht C.hm) I.kIn J e (fun z => nomatch z) fun tk => ⟨.bl b, H, I.kept (t' := tk) fun _ _ z => z, rfl, q⟩
/-- an exception class x, a class that is named T -/
structure IsxOk (K : PySem.W.Frag) (mg : Str → Option Value) (x T : Str) (b : Bool) : Prop where
  ex : ∃ (C : Addr) (cv : Value) (c : V), mg x = some (.ref C) ∧ (mg T = some cv ∨ (mg T = none ∧ bootBuiltins T = some cv ∧ T ≠ "__name__")) ∧ RelV c cv ∧ (∀ u, RelV c u → u = cv) ∧ ExcC K C ∧ PySem.W.kitOne K (.ref C) cv = some b
def excCB (K : PySem.W.Frag) (D : Addr) : Bool := decide (PySem.W.findIn K (.ref D) "__getattribute__" = some (some (.builtin "BaseException.__getattribute__"))) && decide (PySem.W.findIn K (.ref D) "__getattr__" = some none) && decide (PySem.W.subIn K (.ref D) (.type "BaseException") = some true) && PySem.W.hasDictIn K D &&
  decide (PySem.W.findIn K (.ref D) "__class__" = some (some (.builtin "object.__class__"))) && decide (PySem.W.specialIn K (.builtin "object.__class__") "__get__" = some (some (.builtin "getset_descriptor.__get__"))) && decide (PySem.W.takesIn K (.builtin "object.__class__") = some true) && decide (PySem.W.mroIn K D (.type "object") = some true)
theorem excCB_ok {K : PySem.W.Frag} {D : Addr} (h : excCB K D = true) : ExcC K D := by
  unfold excCB at h
  simp only [Bool.and_eq_true, decide_eq_true_eq] at h
  obtain ⟨⟨⟨⟨⟨⟨⟨a, b⟩, c⟩, d⟩, e⟩, f⟩, g⟩, i⟩ := h
  exact ⟨a, b, c, d, e, f, g, i⟩
theorem isx_own {K : PySem.W.Frag} {mg : Str → Option Value} {x T : Str} {C C' : Addr} {b : Bool} (hm : mg x = some (.ref C)) (hT : mg T = some (.ref C')) (h : excCB K C = true) (k : PySem.W.kitOne K (.ref C) (.ref C') = some b) : IsxOk K mg x T b :=
  ⟨C, .ref C', .ref C', hm, .inl hT, rfl, fun u h => h, excCB_ok h, k⟩
theorem isx_ty {K : PySem.W.Frag} {mg : Str → Option Value} {x T : Str} {Ty : String} {C : Addr} {b : Bool} (hm : mg x = some (.ref C)) (hT : mg T = none) (hv : bootBuiltins T = some (.type Ty)) (hn : T ≠ "__name__") (h : excCB K C = true) (k : PySem.W.kitOne K (.ref C) (.type Ty) = some b) : IsxOk K mg x T b :=
  ⟨C, .type Ty, .ty Ty, hm, .inr ⟨hT, hv, hn⟩, rfl, fun u h => h, excCB_ok h, k⟩
def dIsx (i : Nat) (b : Bool) : Env → Out (Slot × Env) := fun ρ => match ρ[i]? with
  | some (some .tk) => .ok (.sh (.bool b), ρ)
  | _ => .bad
section
variable {X : Cx} {p p1 p2 pos : Pos}
theorem re_isx {a : Addr} {oe : Obj} {cls : Value} {d : Option Addr} {pn : List (Addr × Obj)} {c : Str} {ff : List (Str × D)} {F' : Fr} {W' : WX} {n T : Str} {b : Bool} {i : Nat}
    (T1 : IsxOk X.K X.mg c T b) (hz : Zc cls d oe) (hf : ∃ vs, oe.data = .fields vs) (htv : F'.tv i = .ref a) (hx : XOk X.K X.mg F'.S0 c ff cls d) (hgi : Gl X "isinstance") (hmi : X.mg "isinstance" = none) (hgT : Gl X T)
    (hN : X.N[i]? = some n) (hv : Vis X.env.scope n) (hd : (n == ("__debug__" : Str)) = false := by decide) (hcd : (n == ("__classdict__" : Str)) = false := by decide) (hdT : (T == ("__debug__" : Str)) = false := by decide)
    (he : starEach (.Name n p1 :: [.Name T p2]) (X.suite a ((a, oe) :: pn)).env = (false, eval (.Name n p1) (X.suite a ((a, oe) :: pn)).env) :: starEach [.Name T p2] (X.suite a ((a, oe) :: pn)).env := by rfl) (hpl : (backTo pos (starEach [.Name T p2] (X.suite a ((a, oe) :: pn)).env)).any (·.1) = false := by rfl)
    (hs : starEach (Expr.Name T p2 :: []) (X.suite a ((a, oe) :: pn)).env = (false, eval (Expr.Name T p2) (X.suite a ((a, oe) :: pn)).env) :: starEach [] (X.suite a ((a, oe) :: pn)).env := by rfl) :
    RE (X.suite a ((a, oe) :: pn)) F' W' (.Call (.Name "isinstance" p) [.Name n p1, .Name T p2] [] pos) (dIsx i b) := by
  obtain ⟨C, cv, cV, hm, hT, hr, hu, hc, hk⟩ := T1.ex
  obtain ⟨C', h1, h2, h3⟩ := hx
  rw [hm] at h1
  cases h1
  subst h2
  have pT : PE (X.suite a ((a, oe) :: pn)) (.Name T p2) (tC cV) := by
    rcases hT with hT | ⟨hT, hvT, hnT⟩
    · exact pe_glob (X := X.suite a ((a, oe) :: pn)) hgT hT hr hdT
    · exact pe_bltn (X := X.suite a ((a, oe) :: pn)) hgT hT hvT hr hnT hdT
  refine PE.imp (pe_callB (X := X.suite a ((a, oe) :: pn)) (call_isX hc hz hf) hgi hmi PyProof.Rows.boot_isinstance (pa_cons (pe_var (X := X.suite a ((a, oe) :: pn)) hN hv hd hcd) (pa_cons pT pa_nil hs) he) (by decide) (by decide) he hpl) fun σ H Q q => ?_
  obtain ⟨S, ρ, g, q⟩ := q
  unfold dIsx at q
  cases e : ρ[i]? with
  | none => rw [e] at q; exact q.elim
  | some s =>
    cases s with
    | none => rw [e] at q; exact q.elim
    | some s =>
      rw [e] at q
      cases s with
      | sh _ => exact q.elim
      | ow _ => exact q.elim
      | tk =>
        have hs : σ[i]? = some (some (F'.tv i)) := g.sl i _ e
        refine ⟨_, hs, cV, cv, b, by rw [htv], hu, hk, fun dx hdx => ?_, q (.bl b) S H g (Ex.refl S) (.bl b)⟩
        subst hdx
        obtain ⟨vfs, e1, _⟩ := h3
        exact ⟨vfs, g.ex _ _ (g.ex0 _ _ e1)⟩
end

section
open PySem.W
variable {K : Frag} {C C' : Addr} {b : Bool}
theorem kit_ref (hd : hasDictIn K C' = true) (ht : typeIn K (.ref C') = some (.type "type")) (h : subIn K (.ref C) (.ref C') = some true) : kitOne K (.ref C) (.ref C') = some true := by
  obtain ⟨cd, hc, _⟩ := any_some hd
  unfold kitOne
  split
  · rfl
  · show (if ((clsIn K C').isSome && typeIn K (.ref C') == some (.type "type")) = true then subIn K (.ref C) (.ref C') else none) = some true
    rw [if_pos (by rw [hc, ht] <;> rfl)]
    exact h
theorem kit_ty2 {T : String} (hm : kitMeta T = true) (h : subIn K (.ref C) (.type T) = some b) : kitOne K (.ref C) (.type T) = some b := by
  unfold kitOne
  rw [if_neg (by intro h; cases eq_of_beq h)]
  show (if kitMeta T = true then subIn K (.ref C) (.type T) else none) = some b
  rw [if_pos hm]
  exact h
end
theorem isx_own' {K : PySem.W.Frag} {mg : Str → Option Value} {x T : Str} {C C' : Addr} {b : Bool} (hm : mg x = some (.ref C)) (hT : mg T = some (.ref C')) (h : ExcC K C) (k : PySem.W.kitOne K (.ref C) (.ref C') = some b) : IsxOk K mg x T b :=
  ⟨C, .ref C', .ref C', hm, .inl hT, rfl, fun u h => h, h, k⟩
theorem isx_ty' {K : PySem.W.Frag} {mg : Str → Option Value} {x T : Str} {Ty : String} {C : Addr} {b : Bool} (hm : mg x = some (.ref C)) (hT : mg T = none) (hv : bootBuiltins T = some (.type Ty)) (hn : T ≠ "__name__") (h : ExcC K C) (k : PySem.W.kitOne K (.ref C) (.type Ty) = some b) : IsxOk K mg x T b :=
  ⟨C, .type Ty, .ty Ty, hm, .inr ⟨hT, hv, hn⟩, rfl, fun u h => h, h, k⟩
end Den

/-! Reckoning with denotations: one equation a form, applied to an environment; what comes behind is not looked at before its turn. -/
namespace Den
open PySem PySem.Spec L2
theorem bind_congr {α β : Type} {x y : Out α} {f : α → Out β} (h : x = y) : x.bind f = y.bind f := by rw [h]
theorem rbind_congr {x y : Res} {f : Den.Env → Res} (h : x = y) : x.bind f = y.bind f := by rw [h]
theorem ofOut_congr {α : Type} {x y : Out (α × Den.Env)} {f : α → Den.Env → Res} (h : x = y) : ofOut x f = ofOut y f := by rw [h]
theorem bind_ok {α β : Type} {a : α} {f : α → Out β} : (Out.ok a).bind f = f a := (rfl)
theorem bind_exc {α β : Type} {c : Str} {fs : List (Str × D)} {ρ : Den.Env} {f : α → Out β} : (Out.exc c fs ρ).bind f = .exc c fs ρ := (rfl)
theorem rbind_nx {ρ : Den.Env} {f : Den.Env → Res} : (Res.nx ρ).bind f = f ρ := (rfl)
theorem rbind_ret {ρ : Den.Env} {r : Slot} {f : Den.Env → Res} : (Res.ret r ρ).bind f = .ret r ρ := (rfl)
theorem rbind_brk {ρ : Den.Env} {f : Den.Env → Res} : (Res.brk ρ).bind f = .brk ρ := (rfl)
theorem rbind_ct {ρ : Den.Env} {f : Den.Env → Res} : (Res.ct ρ).bind f = .ct ρ := (rfl)
theorem rbind_exc {c : Str} {fs : List (Str × D)} {ρ : Den.Env} {f : Den.Env → Res} : (Res.exc c fs ρ).bind f = .exc c fs ρ := (rfl)
theorem ofOut_ok {α : Type} {a : α} {ρ : Den.Env} {k : α → Den.Env → Res} : ofOut (.ok (a, ρ)) k = k a ρ := (rfl)
theorem ofOut_exc {α : Type} {c : Str} {fs : List (Str × D)} {ρ : Den.Env} {k : α → Den.Env → Res} : ofOut (.exc c fs ρ) k = .exc c fs ρ := (rfl)
section
variable {ρ : Den.Env} {f g h : Den.Env → Out (Slot × Den.Env)} {fd gd : Den.Env → Out (D × Den.Env)} {fl gl hl : Den.Env → Out (Late × Den.Env)} {c d : Den.Env → Out (Bool × Den.Env)} {r s : Den.Env → Res} {i : Nat}
def kDat (p : Slot × Den.Env) : Out (D × Den.Env) := .ok (p.1.data, p.2)
theorem e_dat : dat f ρ = (f ρ).bind kDat := (rfl)
theorem k_dat {x : Slot} : kDat (x, ρ) = .ok (x.data, ρ) := (rfl)
def kVal (p : D × Den.Env) : Out (Slot × Den.Env) := .ok (.sh p.1, p.2)
theorem e_val : val fd ρ = (fd ρ).bind kVal := (rfl)
theorem k_val {x : D} : kVal (x, ρ) = .ok (.sh x, ρ) := (rfl)
def kNow (p : D × Den.Env) : Out (Late × Den.Env) := .ok (.now p.1, p.2)
theorem e_now : now fd ρ = (fd ρ).bind kNow := (rfl)
theorem k_now {x : D} : kNow (x, ρ) = .ok (.now x, ρ) := (rfl)
theorem e_C {x : D} : dC x ρ = .ok (x, ρ) := (rfl)
/-- a local's slot as it stands -/
def look (ρ : Den.Env) (i : Nat) : Option Slot := match ρ[i]? with
  | some (some s) => some s
  | _ => none
def locOf (o : Option Slot) (i : Nat) (ρ : Den.Env) : Out (Late × Den.Env) := match o with
  | some _ => .ok (.slot i, ρ)
  | none => .bad
def varOf (o : Option Slot) (i : Nat) (ρ : Den.Env) : Out (D × Den.Env) := match o with
  | some (.sh x) => .ok (x, ρ)
  | some (.ow l) => .ok (.list l, ρ.set i (some (.sh (.list l))))
  | _ => .bad
def movOf (o : Option Slot) (i : Nat) (ρ : Den.Env) : Out (Slot × Den.Env) := match o with
  | some (.sh x) => .ok (.sh x, ρ)
  | some (.ow l) => .ok (.ow l, ρ.set i none)
  | _ => .bad
theorem look_cons_zero {o : Option Slot} {ρ : Den.Env} : look (o :: ρ) 0 = o := by cases o <;> rfl
theorem look_cons_succ {o : Option Slot} {ρ : Den.Env} {i : Nat} : look (o :: ρ) (i + 1) = look ρ i := by simp only [look, List.getElem?_cons_succ]
theorem e_loc : dLoc i ρ = locOf (look ρ i) i ρ := by
  unfold dLoc look
  cases h : ρ[i]? with
  | none => rfl
  | some o => cases o <;> rfl
theorem locOf_some {x : Slot} : locOf (some x) i ρ = .ok (.slot i, ρ) := (rfl)
theorem e_var : dVar i ρ = varOf (look ρ i) i ρ := by
  unfold dVar look
  cases h : ρ[i]? with
  | none => rfl
  | some o => cases o with
    | none => rfl
    | some s => cases s <;> rfl
theorem varOf_sh {x : D} : varOf (some (.sh x)) i ρ = .ok (x, ρ) := (rfl)
theorem varOf_ow {l : List D} : varOf (some (.ow l)) i ρ = .ok (.list l, ρ.set i (some (.sh (.list l)))) := (rfl)
theorem e_mov : dMov i ρ = movOf (look ρ i) i ρ := by
  unfold dMov look
  cases h : ρ[i]? with
  | none => rfl
  | some o => cases o with
    | none => rfl
    | some s => cases s <;> rfl
theorem movOf_sh {x : D} : movOf (some (.sh x)) i ρ = .ok (.sh x, ρ) := (rfl)
theorem movOf_ow {l : List D} : movOf (some (.ow l)) i ρ = .ok (.ow l, ρ.set i none) := (rfl)
theorem res_now {x : D} : (Late.now x).res ρ = some x := (rfl)
def slotD : Slot → Option D
  | .sh d => some d
  | .ow l => some (.list l)
  | .tk => none
theorem slotD_sh {d : D} : slotD (.sh d) = some d := (rfl)
theorem slotD_ow {l : List D} : slotD (.ow l) = some (.list l) := (rfl)
theorem res_slot : (Late.slot i).res ρ = (look ρ i).bind slotD := by
  unfold Late.res look
  cases h : ρ[i]? with
  | none => simp [h]
  | some o =>
    cases o with
    | none => simp [h]
    | some s => cases s <;> simp [h, slotD]
theorem data_sh {x : D} : (Slot.sh x).data = x := (rfl)
theorem data_ow {l : List D} : (Slot.ow l).data = .list l := (rfl)
/-- two operands as they stand, then the operation -/
def fin2 (op : D → D → Option Rv) (a b : Option D) (ρ : Den.Env) : Out (Slot × Den.Env) := match a, b with
  | some a, some b => rvOut ρ (op a b)
  | _, _ => .bad
theorem fin2_some {op : D → D → Option Rv} {a b : D} : fin2 op (some a) (some b) ρ = rvOut ρ (op a b) := (rfl)
def kBin2 (op : D → D → Option Rv) (la : Late) (q : Late × Den.Env) : Out (Slot × Den.Env) := fin2 op (la.res q.2) (q.1.res q.2) q.2
def kBin1 (op : D → D → Option Rv) (gl : Den.Env → Out (Late × Den.Env)) (p : Late × Den.Env) : Out (Slot × Den.Env) := (gl p.2).bind (kBin2 op p.1)
theorem k_bin1 {op : D → D → Option Rv} {l : Late} : kBin1 op gl (l, ρ) = (gl ρ).bind (kBin2 op l) := (rfl)
theorem k_bin2 {op : D → D → Option Rv} {l m : Late} : kBin2 op l (m, ρ) = fin2 op (l.res ρ) (m.res ρ) ρ := (rfl)
theorem e_bin {op : D → D → Option Rv} : dBin op fl gl ρ = (fl ρ).bind (kBin1 op gl) := (rfl)
theorem e_idx : dIdx fl gl ρ = (fl ρ).bind (kBin1 gIdx gl) := (rfl)
theorem rvOut_some {r : Rv} : rvOut ρ (some r) = .ok (r.slot, ρ) := (rfl)
theorem slot_val {x : D} : (Rv.val x).slot = .sh x := (rfl)
theorem slot_newT {l : List D} : (Rv.newT l).slot = .sh (.tuple l) := (rfl)
theorem slot_newL {l : List D} : (Rv.newL l).slot = .ow l := (rfl)
def tstOf (p : Slot × Den.Env) : Out (Bool × Den.Env) := match p.1 with
  | .sh (.bool b) => .ok (b, p.2)
  | _ => .bad
theorem e_tst : tst f ρ = (f ρ).bind tstOf := (rfl)
theorem tstOf_b {b : Bool} : tstOf (.sh (.bool b), ρ) = .ok (b, ρ) := (rfl)
/-- choices: the ways are not looked at before the test is known -/
def chT (b : Bool) (x y : Den.Env → Out (Bool × Den.Env)) (ρ : Den.Env) : Out (Bool × Den.Env) := if b = true then x ρ else y ρ
theorem chT_t {x y : Den.Env → Out (Bool × Den.Env)} : chT true x y ρ = x ρ := (rfl)
theorem chT_f {x y : Den.Env → Out (Bool × Den.Env)} : chT false x y ρ = y ρ := (rfl)
def chV (b : Bool) (x y : Den.Env → Out (Slot × Den.Env)) (ρ : Den.Env) : Out (Slot × Den.Env) := if b = true then x ρ else y ρ
theorem chV_t {x y : Den.Env → Out (Slot × Den.Env)} : chV true x y ρ = x ρ := (rfl)
theorem chV_f {x y : Den.Env → Out (Slot × Den.Env)} : chV false x y ρ = y ρ := (rfl)
def okT (b : Bool) (ρ : Den.Env) : Out (Bool × Den.Env) := .ok (b, ρ)
theorem e_okT {b : Bool} : okT b ρ = .ok (b, ρ) := (rfl)
def okV (b : Bool) (ρ : Den.Env) : Out (Slot × Den.Env) := .ok (.sh (.bool b), ρ)
theorem e_okV {b : Bool} : okV b ρ = .ok (.sh (.bool b), ρ) := (rfl)
def kAndT (d : Den.Env → Out (Bool × Den.Env)) (p : Bool × Den.Env) : Out (Bool × Den.Env) := chT p.1 d (okT false) p.2
theorem k_andT {b : Bool} : kAndT d (b, ρ) = chT b d (okT false) ρ := (rfl)
theorem e_andT : dAndT c d ρ = (c ρ).bind (kAndT d) := (rfl)
def kOrT (d : Den.Env → Out (Bool × Den.Env)) (p : Bool × Den.Env) : Out (Bool × Den.Env) := chT p.1 (okT true) d p.2
theorem k_orT {b : Bool} : kOrT d (b, ρ) = chT b (okT true) d ρ := (rfl)
theorem e_orT : dOrT c d ρ = (c ρ).bind (kOrT d) := (rfl)
def kNotT (p : Bool × Den.Env) : Out (Bool × Den.Env) := .ok (!p.1, p.2)
theorem k_notT {b : Bool} : kNotT (b, ρ) = .ok (!b, ρ) := (rfl)
theorem e_notT : dNotT c ρ = (c ρ).bind kNotT := (rfl)
def kAnd (g : Den.Env → Out (Slot × Den.Env)) (p : Bool × Den.Env) : Out (Slot × Den.Env) := chV p.1 g (okV false) p.2
theorem k_and {b : Bool} : kAnd g (b, ρ) = chV b g (okV false) ρ := (rfl)
theorem e_and : dAnd f g ρ = (tst f ρ).bind (kAnd g) := (rfl)
def kOr (g : Den.Env → Out (Slot × Den.Env)) (p : Bool × Den.Env) : Out (Slot × Den.Env) := chV p.1 (okV true) g p.2
theorem k_or {b : Bool} : kOr g (b, ρ) = chV b (okV true) g ρ := (rfl)
theorem e_or : dOr f g ρ = (tst f ρ).bind (kOr g) := (rfl)
def kNot (p : Bool × Den.Env) : Out (Slot × Den.Env) := .ok (.sh (.bool !p.1), p.2)
theorem k_not {b : Bool} : kNot (b, ρ) = .ok (.sh (.bool !b), ρ) := (rfl)
theorem e_not : dNot f ρ = (tst f ρ).bind kNot := (rfl)
def kIte (f g : Den.Env → Out (Slot × Den.Env)) (p : Bool × Den.Env) : Out (Slot × Den.Env) := chV p.1 f g p.2
theorem k_ite {b : Bool} : kIte f g (b, ρ) = chV b f g ρ := (rfl)
theorem e_ite : dIte c f g ρ = (c ρ).bind (kIte f g) := (rfl)
def chain3 (op : D → D → Option Rv) (a b : Option D) (ρ : Den.Env) : Out (Slot × Den.Env) := match a, b with
  | some a, some b => match gBool (op a b) with
    | some k => .ok (.sh (.bool k), ρ)
    | none => .bad
  | _, _ => .bad
def kCh3 (op : D → D → Option Rv) (lb : Late) (r : Late × Den.Env) : Out (Slot × Den.Env) := chain3 op (lb.res r.2) (r.1.res r.2) r.2
theorem k_ch3 {op : D → D → Option Rv} {l m : Late} : kCh3 op l (m, ρ) = chain3 op (l.res ρ) (m.res ρ) ρ := (rfl)
def chain2 (b : Option Bool) (op : D → D → Option Rv) (hl : Den.Env → Out (Late × Den.Env)) (lb : Late) (ρ : Den.Env) : Out (Slot × Den.Env) := match b with
  | some true => (hl ρ).bind (kCh3 op lb)
  | some false => .ok (.sh (.bool false), ρ)
  | none => .bad
theorem ch2_t {op : D → D → Option Rv} {lb : Late} : chain2 (some true) op hl lb ρ = (hl ρ).bind (kCh3 op lb) := (rfl)
theorem ch2_f {op : D → D → Option Rv} {lb : Late} : chain2 (some false) op hl lb ρ = .ok (.sh (.bool false), ρ) := (rfl)
def chain1 (op op' : D → D → Option Rv) (hl : Den.Env → Out (Late × Den.Env)) (a b : Option D) (lb : Late) (ρ : Den.Env) : Out (Slot × Den.Env) := match a, b with
  | some a, some b => chain2 (gBool (op a b)) op' hl lb ρ
  | _, _ => .bad
theorem ch1_le {op' : D → D → Option Rv} {lb : Late} {a b : Int} : chain1 gLe op' hl (some (.int a)) (some (.int b)) lb ρ = chain2 (some (decide (a ≤ b))) op' hl lb ρ := (rfl)
theorem ch1_lt {op' : D → D → Option Rv} {lb : Late} {a b : Int} : chain1 gLt op' hl (some (.int a)) (some (.int b)) lb ρ = chain2 (some (decide (a < b))) op' hl lb ρ := (rfl)
theorem ch3_le {a b : Int} : chain3 gLe (some (.int a)) (some (.int b)) ρ = .ok (.sh (.bool (decide (a ≤ b))), ρ) := (rfl)
theorem ch3_lt {a b : Int} : chain3 gLt (some (.int a)) (some (.int b)) ρ = .ok (.sh (.bool (decide (a < b))), ρ) := (rfl)
def kCh2 (op op' : D → D → Option Rv) (hl : Den.Env → Out (Late × Den.Env)) (la : Late) (q : Late × Den.Env) : Out (Slot × Den.Env) := chain1 op op' hl (la.res q.2) (q.1.res q.2) q.1 q.2
theorem k_ch2 {op op' : D → D → Option Rv} {l m : Late} : kCh2 op op' hl l (m, ρ) = chain1 op op' hl (l.res ρ) (m.res ρ) m ρ := (rfl)
def kCh1 (op op' : D → D → Option Rv) (gl hl : Den.Env → Out (Late × Den.Env)) (p : Late × Den.Env) : Out (Slot × Den.Env) := (gl p.2).bind (kCh2 op op' hl p.1)
theorem k_ch1 {op op' : D → D → Option Rv} {l : Late} : kCh1 op op' gl hl (l, ρ) = (gl ρ).bind (kCh2 op op' hl l) := (rfl)
theorem e_chain {o o' : D → D → Option Rv} : dChain o o' fl gl hl ρ = (fl ρ).bind (kCh1 o o' gl hl) := by
  unfold dChain
  refine congrArg (Out.bind (fl ρ)) (funext fun p => congrArg (Out.bind (gl p.2)) (funext fun q => ?_))
  unfold kCh2 chain1
  cases p.1.res q.2 with
  | none => rfl
  | some a => cases q.1.res q.2 with
    | none => rfl
    | some b =>
      dsimp only
      unfold chain2
      cases gBool (o a b) with
      | none => rfl
      | some k => cases k <;> rfl
theorem e_dList_nil : dList [] ρ = .ok ([], ρ) := (rfl)
def kL2 (x : D) (q : List D × Den.Env) : Out (List D × Den.Env) := .ok (x :: q.1, q.2)
theorem k_l2 {x : D} {l : List D} : kL2 x (l, ρ) = .ok (x :: l, ρ) := (rfl)
def kL1 (fs : List (Den.Env → Out (D × Den.Env))) (p : D × Den.Env) : Out (List D × Den.Env) := (dList fs p.2).bind (kL2 p.1)
theorem k_l1 {fs : List (Den.Env → Out (D × Den.Env))} {x : D} : kL1 fs (x, ρ) = (dList fs ρ).bind (kL2 x) := (rfl)
theorem e_dList_cons {fs : List (Den.Env → Out (D × Den.Env))} : dList (fd :: fs) ρ = (fd ρ).bind (kL1 fs) := (rfl)
def kTup (p : List D × Den.Env) : Out (D × Den.Env) := .ok (.tuple p.1, p.2)
theorem k_tup {l : List D} : kTup (l, ρ) = .ok (.tuple l, ρ) := (rfl)
theorem e_tup {fs : List (Den.Env → Out (D × Den.Env))} : dTup fs ρ = (dList fs ρ).bind kTup := (rfl)
def kLst (p : List D × Den.Env) : Out (Slot × Den.Env) := .ok (.ow p.1, p.2)
theorem k_lst {l : List D} : kLst (l, ρ) = .ok (.ow l, ρ) := (rfl)
theorem e_lst {fs : List (Den.Env → Out (D × Den.Env))} : dLst fs ρ = (dList fs ρ).bind kLst := (rfl)
theorem e_oNil : oNil ρ = .ok ([], ρ) := (rfl)
def kO2 (x : Late) (q : List Late × Den.Env) : Out (List Late × Den.Env) := .ok (x :: q.1, q.2)
theorem k_o2 {x : Late} {l : List Late} : kO2 x (l, ρ) = .ok (x :: l, ρ) := (rfl)
def kO1 (ol : Den.Env → Out (List Late × Den.Env)) (p : Late × Den.Env) : Out (List Late × Den.Env) := (ol p.2).bind (kO2 p.1)
theorem k_o1 {ol : Den.Env → Out (List Late × Den.Env)} {x : Late} : kO1 ol (x, ρ) = (ol ρ).bind (kO2 x) := (rfl)
theorem e_oCons {ol : Den.Env → Out (List Late × Den.Env)} : oCons fl ol ρ = (fl ρ).bind (kO1 ol) := (rfl)
def finC (op : List D → Option Rv) (ds : Option (List D)) (ρ : Den.Env) : Out (Slot × Den.Env) := match ds with
  | some ds => rvOut ρ (op ds)
  | none => .bad
theorem finC_some {op : List D → Option Rv} {ds : List D} : finC op (some ds) ρ = rvOut ρ (op ds) := (rfl)
def kCB (op : List D → Option Rv) (p : List Late × Den.Env) : Out (Slot × Den.Env) := finC op (resAll p.2 p.1) p.2
theorem k_CB {op : List D → Option Rv} {ls : List Late} : kCB op (ls, ρ) = finC op (resAll ρ ls) ρ := (rfl)
theorem e_CB {op : List D → Option Rv} {ol : Den.Env → Out (List Late × Den.Env)} : dCB op ol ρ = (ol ρ).bind (kCB op) := (rfl)
def cons2 (a : Option D) (b : Option (List D)) : Option (List D) := match a, b with
  | some d, some ds => some (d :: ds)
  | _, _ => none
theorem cons2_some {d : D} {ds : List D} : cons2 (some d) (some ds) = some (d :: ds) := (rfl)
theorem resAll_nil : resAll ρ [] = some [] := (rfl)
theorem resAll_cons {l : Late} {ls : List Late} : resAll ρ (l :: ls) = cons2 (l.res ρ) (resAll ρ ls) := (rfl)
/-- a call: the arguments, the def's value, the own list behind it -/
def callBack (fd : Fd) (ls : List Late) (ρ : Den.Env) : Out (Slot × List D) → Out (Slot × Den.Env)
  | .ok r => .ok (r.1, putOwn fd.own ls r.2 ρ)
  | .exc c f _ => if fd.own = none then .exc c f ρ else .bad
  | .bad => .bad
def callOf (fd : Fd) (ls : List Late) (ds : Option (List D)) (ρ : Den.Env) : Out (Slot × Den.Env) := match ds with
  | some ds => callBack fd ls ρ (fd.run ds)
  | none => .bad
def kCall (fn : Fd) (p : List Late × Den.Env) : Out (Slot × Den.Env) := if p.1.length = fn.np then callOf fn p.1 (argD fn.own p.2 0 p.1) p.2 else .bad
theorem k_call {fn : Fd} {ls : List Late} : kCall fn (ls, ρ) = if ls.length = fn.np then callOf fn ls (argD fn.own ρ 0 ls) ρ else .bad := (rfl)
theorem e_call {fn : Fd} {ol : Den.Env → Out (List Late × Den.Env)} : dCall fn ol ρ = (ol ρ).bind (kCall fn) := by
  unfold dCall
  refine congrArg (Out.bind (ol ρ)) (funext fun p => ?_)
  unfold kCall
  split
  · unfold callOf callBack
    cases argD fn.own p.2 0 p.1 with
    | none => rfl
    | some ds =>
      cases hr : fn.run ds <;> dsimp only <;> (try rw [hr]) <;> (try rfl)
  · rfl
theorem callOf_some {fn : Fd} {ls : List Late} {ds : List D} : callOf fn ls (some ds) ρ = callBack fn ls ρ (fn.run ds) := (rfl)
theorem callBack_ok {fn : Fd} {ls : List Late} {x : Slot} {l : List D} : callBack fn ls ρ (.ok (x, l)) = .ok (x, putOwn fn.own ls l ρ) := (rfl)
theorem e_ptNone : ptNone ρ = .ok (none, ρ) := (rfl)
def ptOf (p : D × Den.Env) : Out (Option Int × Den.Env) := match p.1 with
  | .int i => .ok (some i, p.2)
  | _ => .bad
theorem e_ptSome : ptSome fd ρ = (fd ρ).bind ptOf := (rfl)
theorem ptOf_int {n : Int} : ptOf (.int n, ρ) = .ok (some n, ρ) := (rfl)
def slOf (a : Option D) (lo hi : Option Int) (ρ : Den.Env) : Out (Slot × Den.Env) := match a with
  | some a => rvOut ρ (gSl a lo hi)
  | none => .bad
theorem slOf_some {a : D} {lo hi : Option Int} : slOf (some a) lo hi ρ = rvOut ρ (gSl a lo hi) := (rfl)
def kS3 (la : Late) (lo : Option Int) (h : Option Int × Den.Env) : Out (Slot × Den.Env) := slOf (la.res h.2) lo h.1 h.2
theorem k_s3 {la : Late} {lo hi : Option Int} : kS3 la lo (hi, ρ) = slOf (la.res ρ) lo hi ρ := (rfl)
def kS2 (ph : Den.Env → Out (Option Int × Den.Env)) (la : Late) (l : Option Int × Den.Env) : Out (Slot × Den.Env) := (ph l.2).bind (kS3 la l.1)
theorem k_s2 {ph : Den.Env → Out (Option Int × Den.Env)} {la : Late} {lo : Option Int} : kS2 ph la (lo, ρ) = (ph ρ).bind (kS3 la lo) := (rfl)
def kS1 (pl ph : Den.Env → Out (Option Int × Den.Env)) (p : Late × Den.Env) : Out (Slot × Den.Env) := (pl p.2).bind (kS2 ph p.1)
theorem k_s1 {pl ph : Den.Env → Out (Option Int × Den.Env)} {la : Late} : kS1 pl ph (la, ρ) = (pl ρ).bind (kS2 ph la) := (rfl)
theorem e_sl {fa : Den.Env → Out (Late × Den.Env)} {pl ph : Den.Env → Out (Option Int × Den.Env)} : dSl fa pl ph ρ = (fa ρ).bind (kS1 pl ph) := (rfl)
def isiOf (b : Option Bool) (ρ : Den.Env) : Out (Slot × Den.Env) := match b with
  | some b => .ok (.sh (.bool b), ρ)
  | none => .bad
theorem isiOf_some {b : Bool} : isiOf (some b) ρ = .ok (.sh (.bool b), ρ) := (rfl)
def kIsi (T : String) (p : Late × Den.Env) : Out (Slot × Den.Env) := isiOf ((p.1.res p.2).bind (isD T)) p.2
theorem k_isi {T : String} {l : Late} : kIsi T (l, ρ) = isiOf ((l.res ρ).bind (isD T)) ρ := (rfl)
theorem e_isi {T : String} : dIsi T fl ρ = (fl ρ).bind (kIsi T) := by
  unfold dIsi
  refine congrArg (Out.bind (fl ρ)) (funext fun p => ?_)
  unfold kIsi
  cases p.1.res p.2 with
  | none => rfl
  | some d => show (match isD T d with | some b => _ | none => _) = isiOf (isD T d) p.2; cases isD T d <;> rfl
def kIsiT (Ts : List String) (p : Late × Den.Env) : Out (Slot × Den.Env) := isiOf ((p.1.res p.2).bind (isDs Ts)) p.2
theorem k_isiT {Ts : List String} {l : Late} : kIsiT Ts (l, ρ) = isiOf ((l.res ρ).bind (isDs Ts)) ρ := (rfl)
theorem e_isiT {Ts : List String} : dIsiT Ts fl ρ = (fl ρ).bind (kIsiT Ts) := by
  unfold dIsiT
  refine congrArg (Out.bind (fl ρ)) (funext fun p => ?_)
  unfold kIsiT
  cases p.1.res p.2 with
  | none => rfl
  | some d => show (match isDs Ts d with | some b => _ | none => _) = isiOf (isDs Ts d) p.2; cases isDs Ts d <;> rfl
def negOf (o : Option D) (ρ : Den.Env) : Out (Slot × Den.Env) := match o with
  | some (.int i) => .ok (.sh (.int (-i)), ρ)
  | _ => .bad
def kNeg (p : Late × Den.Env) : Out (Slot × Den.Env) := negOf (p.1.res p.2) p.2
theorem k_neg {l : Late} : kNeg (l, ρ) = negOf (l.res ρ) ρ := (rfl)
theorem e_neg : dNeg fl ρ = (fl ρ).bind kNeg := (rfl)
theorem negOf_int {n : Int} : negOf (some (.int n)) ρ = .ok (.sh (.int (-n)), ρ) := (rfl)
/-! statements -/
theorem e_seq : dSeq r s ρ = (r ρ).bind s := (rfl)
theorem e_skip : dSkip ρ = .nx ρ := (rfl)
theorem e_ret : dRet f ρ = ofOut (f ρ) .ret := (rfl)
theorem e_retN : dRetN ρ = .ret (.sh .none) ρ := (rfl)
theorem e_brk : dBrk ρ = .brk ρ := (rfl)
theorem e_ct : dCt ρ = .ct ρ := (rfl)
def kExpr (x : Slot) (ρ : Den.Env) : Res := .nx ρ
theorem k_expr {x : Slot} : kExpr x ρ = .nx ρ := (rfl)
theorem e_expr : dExpr f ρ = ofOut (f ρ) kExpr := (rfl)
def chR (b : Bool) (r s : Den.Env → Res) (ρ : Den.Env) : Res := if b = true then r ρ else s ρ
theorem chR_t : chR true r s ρ = r ρ := (rfl)
theorem chR_f : chR false r s ρ = s ρ := (rfl)
def kIf (r s : Den.Env → Res) (b : Bool) (ρ : Den.Env) : Res := chR b r s ρ
theorem k_if {b : Bool} : kIf r s b ρ = chR b r s ρ := (rfl)
theorem e_if : dIf c r s ρ = ofOut (c ρ) (kIf r s) := (rfl)
def kAsg (i : Nat) (x : Slot) (ρ : Den.Env) : Res := .nx (ρ.set i (some x))
theorem k_asg {x : Slot} : kAsg i x ρ = .nx (ρ.set i (some x)) := (rfl)
theorem e_asg : dAsg i f ρ = ofOut (f ρ) (kAsg i) := (rfl)
def nxO : Option Den.Env → Res
  | some ρ => .nx ρ
  | none => .bad
theorem nxO_some : nxO (some ρ) = .nx ρ := (rfl)
def kAsgT (st : D → Den.Env → Option Den.Env) (x : D) (ρ : Den.Env) : Res := nxO (st x ρ)
theorem k_asgT {st : D → Den.Env → Option Den.Env} {x : D} : kAsgT st x ρ = nxO (st x ρ) := (rfl)
theorem e_asgT {st : D → Den.Env → Option Den.Env} : dAsgT st fd ρ = ofOut (fd ρ) (kAsgT st) := by
  unfold dAsgT
  refine congrArg (ofOut (fd ρ)) (funext fun d => funext fun ρ' => ?_)
  unfold kAsgT
  cases st d ρ' <;> rfl
theorem e_sName {x : D} : sName i x ρ = some (ρ.set i (some (.sh x))) := (rfl)
theorem e_sTup {n : Nat} {t : List D → Den.Env → Option Den.Env} {ds : List D} : sTup n t (.tuple ds) ρ = if ds.length = n then t ds ρ else none := (rfl)
theorem e_sCons {sd : D → Den.Env → Option Den.Env} {t : List D → Den.Env → Option Den.Env} {x : D} {ds : List D} : sCons sd t (x :: ds) ρ = (sd x ρ).bind (t ds) := (rfl)
theorem e_sNil : sNil [] ρ = some ρ := (rfl)
def kFor (st : D → Den.Env → Option Den.Env) (r : Den.Env → Res) (l : List D) (ρ : Den.Env) : Res := loopE st r l ρ
theorem k_for {st : D → Den.Env → Option Den.Env} {l : List D} : kFor st r l ρ = loopE st r l ρ := (rfl)
theorem e_for {fi : Den.Env → Out (List D × Den.Env)} {st : D → Den.Env → Option Den.Env} : dFor fi st r ρ = ofOut (fi ρ) (kFor st r) := (rfl)
def owOf : Option Slot → Option (List D)
  | some (.ow l) => some l
  | _ => none
theorem isOw_look : isOw ρ i = owOf (look ρ i) := by
  unfold isOw look
  cases h : ρ[i]? with
  | none => rfl
  | some o => cases o with
    | none => rfl
    | some s => cases s <;> rfl
theorem owOf_ow {l : List D} : owOf (some (.ow l)) = some l := (rfl)
def appOf (o : Option (List D)) (i : Nat) (x : D) (ρ : Den.Env) : Res := match o with
  | some l => if l.length < 10000000 then .nx (ρ.set i (some (.ow (l ++ [x])))) else .bad
  | none => .bad
def kApp (i : Nat) (x : D) (ρ : Den.Env) : Res := appOf (owOf (look ρ i)) i x ρ
theorem k_app {x : D} : kApp i x ρ = appOf (owOf (look ρ i)) i x ρ := (rfl)
def appStart (o : Option (List D)) (i : Nat) (fd : Den.Env → Out (D × Den.Env)) (ρ : Den.Env) : Res := match o with
  | some _ => ofOut (fd ρ) (kApp i)
  | none => .bad
theorem appStart_some {l : List D} : appStart (some l) i fd ρ = ofOut (fd ρ) (kApp i) := (rfl)
theorem e_app : dApp i fd ρ = appStart (owOf (look ρ i)) i fd ρ := by
  unfold dApp
  rw [isOw_look]
  cases owOf (look ρ i) with
  | none => rfl
  | some l =>
    rw [appStart_some]
    refine congrArg (ofOut (fd ρ)) (funext fun d => funext fun ρ' => ?_)
    rw [isOw_look]
    unfold kApp
    cases owOf (look ρ' i) <;> rfl
theorem appOf_some {l : List D} {x : D} (h : l.length < 10000000) : appOf (some l) i x ρ = .nx (ρ.set i (some (.ow (l ++ [x])))) := if_pos h
def popOf2 (d : Option D) (l : List D) (i : Nat) (ρ : Den.Env) : Out (D × Den.Env) := match d with
  | some d => .ok (d, ρ.set i (some (.ow l.dropLast)))
  | none => .bad
def popOf (o : Option (List D)) (i : Nat) (ρ : Den.Env) : Out (D × Den.Env) := match o with
  | some l => popOf2 l.getLast? l i ρ
  | none => .bad
theorem e_pop : dPop i ρ = popOf (owOf (look ρ i)) i ρ := by
  unfold dPop popOf
  rw [isOw_look]
  cases owOf (look ρ i) with
  | none => rfl
  | some l => unfold popOf2; cases l.getLast? <;> rfl
theorem popOf_app {l : List D} {x : D} : popOf (some (l ++ [x])) i ρ = .ok (x, ρ.set i (some (.ow l))) := by
  show popOf2 (l ++ [x]).getLast? (l ++ [x]) i ρ = _
  rw [List.getLast?_concat]
  show Out.ok (x, ρ.set i (some (.ow (l ++ [x]).dropLast))) = _
  rw [List.dropLast_concat]
def setOf2 (j : Option Nat) (l : List D) (i : Nat) (x : D) (ρ : Den.Env) : Res := match j with
  | some j => .nx (ρ.set i (some (.ow (l.set j x))))
  | none => .bad
def setOf (k : D) (o : Option (List D)) (i : Nat) (x : D) (ρ : Den.Env) : Res := match k, o with
  | .int k, some l => setOf2 (ixN l.length k) l i x ρ
  | _, _ => .bad
def kSet2 (i : Nat) (x : D) (k : D) (ρ : Den.Env) : Res := setOf k (owOf (look ρ i)) i x ρ
theorem k_set2 {x k : D} : kSet2 i x k ρ = setOf k (owOf (look ρ i)) i x ρ := (rfl)
def setStart (o : Option (List D)) (i : Nat) (gd : Den.Env → Out (D × Den.Env)) (x : D) (ρ : Den.Env) : Res := match o with
  | some _ => ofOut (gd ρ) (kSet2 i x)
  | none => .bad
theorem setStart_some {l : List D} {x : D} : setStart (some l) i gd x ρ = ofOut (gd ρ) (kSet2 i x) := (rfl)
def kSet1 (i : Nat) (gd : Den.Env → Out (D × Den.Env)) (x : D) (ρ : Den.Env) : Res := setStart (owOf (look ρ i)) i gd x ρ
theorem k_set1 {x : D} : kSet1 i gd x ρ = setStart (owOf (look ρ i)) i gd x ρ := (rfl)
theorem e_set : dSet i gd fd ρ = ofOut (fd ρ) (kSet1 i gd) := by
  unfold dSet
  refine congrArg (ofOut (fd ρ)) (funext fun d => funext fun ρ1 => ?_)
  rw [isOw_look]
  unfold kSet1
  cases owOf (look ρ1 i) with
  | none => rfl
  | some l =>
    rw [setStart_some]
    refine congrArg (ofOut (gd ρ1)) (funext fun k => funext fun ρ2 => ?_)
    rw [isOw_look]
    unfold kSet2 setOf
    cases k <;> cases owOf (look ρ2 i) <;> first | rfl | (unfold setOf2; rename_i k l; cases ixN l.length k <;> rfl) | (unfold setOf2; rename_i l k; cases ixN l.length k <;> rfl) | skip
theorem setOf_int {k : Int} {l : List D} {x : D} : setOf (.int k) (some l) i x ρ = setOf2 (ixN l.length k) l i x ρ := (rfl)
theorem setOf2_some {j : Nat} {l : List D} {x : D} : setOf2 (some j) l i x ρ = .nx (ρ.set i (some (.ow (l.set j x)))) := (rfl)
/-! iterables -/
def itOf (o : Option (List D)) (ρ : Den.Env) : Out (List D × Den.Env) := match o with
  | some l => .ok (l, ρ)
  | none => .bad
def kSeqI (p : D × Den.Env) : Out (List D × Den.Env) := itOf (itemsOf p.1) p.2
theorem k_seqI {x : D} : kSeqI (x, ρ) = itOf (itemsOf x) ρ := (rfl)
theorem e_seqI : dSeqI fd ρ = (fd ρ).bind kSeqI := by
  unfold dSeqI
  refine congrArg (Out.bind (fd ρ)) (funext fun p => ?_)
  unfold kSeqI
  cases itemsOf p.1 <;> rfl
theorem itOf_some {l : List D} : itOf (some l) ρ = .ok (l, ρ) := (rfl)
theorem items_list {l : List D} : itemsOf (.list l) = some l := (rfl)
theorem items_tuple {l : List D} : itemsOf (.tuple l) = some l := (rfl)
theorem items_str {z : Str} : itemsOf (.str z) = some (signs z) := (rfl)
def rng1 (o : Option (List D)) (ρ : Den.Env) : Out (List D × Den.Env) := match o with
  | some [.int n] => if n < 2 ^ 62 ∧ -(2 ^ 62) ≤ n then .ok (intsD 0 n.toNat, ρ) else .bad
  | _ => .bad
def kRng (p : List Late × Den.Env) : Out (List D × Den.Env) := rng1 (resAll p.2 p.1) p.2
theorem k_rng {ls : List Late} : kRng (ls, ρ) = rng1 (resAll ρ ls) ρ := (rfl)
theorem e_range1 {ol : Den.Env → Out (List Late × Den.Env)} : dRange1 ol ρ = (ol ρ).bind kRng := (rfl)
theorem rng1_int {n : Int} (h : n < 2 ^ 62 ∧ -(2 ^ 62) ≤ n) : rng1 (some [.int n]) ρ = .ok (intsD 0 n.toNat, ρ) := if_pos h
def enumOf (l : List D) (ρ : Den.Env) : Out (List D × Den.Env) := match l with
  | [.list l] => .ok (enumD l, ρ)
  | _ => .bad
def kEnum (p : List D × Den.Env) : Out (List D × Den.Env) := enumOf p.1 p.2
theorem k_enum {l : List D} : kEnum (l, ρ) = enumOf l ρ := (rfl)
theorem e_enum {dl : Den.Env → Out (List D × Den.Env)} : dEnum dl ρ = (dl ρ).bind kEnum := (rfl)
theorem enumOf_list {l : List D} : enumOf [.list l] ρ = .ok (enumD l, ρ) := (rfl)
def revOf (l : List D) (ρ : Den.Env) : Out (List D × Den.Env) := match l with
  | [.list l] => .ok (l.reverse, ρ)
  | _ => .bad
def kRev (p : List D × Den.Env) : Out (List D × Den.Env) := revOf p.1 p.2
theorem k_rev {l : List D} : kRev (l, ρ) = revOf l ρ := (rfl)
theorem e_rev {dl : Den.Env → Out (List D × Den.Env)} : dRev dl ρ = (dl ρ).bind kRev := (rfl)
theorem e_true : dTrue ρ = .ok (true, ρ) := (rfl)
def kLC2 (own : List Nat) (ρ1 : Den.Env) (q : List D × Den.Env) : Out (Slot × Den.Env) := .ok (.ow q.1, backE ρ1 own (wipeE q.2 own))
theorem k_lc2 {own : List Nat} {ρ1 : Den.Env} {l : List D} : kLC2 own ρ1 (l, ρ) = .ok (.ow l, backE ρ1 own (wipeE ρ own)) := (rfl)
/-- a comprehension over l -/
def lcGo (own : List Nat) (st : D → Den.Env → Option Den.Env) (c : Den.Env → Out (Bool × Den.Env)) (fd : Den.Env → Out (D × Den.Env)) (l : List D) (ρ : Den.Env) : Out (Slot × Den.Env) :=
  if l.length < 10000000 then (lcE own st c fd l (wipeE ρ own)).bind (kLC2 own ρ) else .bad
theorem lcGo_eq {own : List Nat} {st : D → Den.Env → Option Den.Env} {l : List D} (h : l.length < 10000000) : lcGo own st c fd l ρ = (lcE own st c fd l (wipeE ρ own)).bind (kLC2 own ρ) := if_pos h
def kLC1 (own : List Nat) (st : D → Den.Env → Option Den.Env) (c : Den.Env → Out (Bool × Den.Env)) (fd : Den.Env → Out (D × Den.Env)) (p : List D × Den.Env) : Out (Slot × Den.Env) := lcGo own st c fd p.1 p.2
theorem k_lc1 {own : List Nat} {st : D → Den.Env → Option Den.Env} {l : List D} : kLC1 own st c fd (l, ρ) = lcGo own st c fd l ρ := (rfl)
theorem e_lc {own : List Nat} {fi : Den.Env → Out (List D × Den.Env)} {st : D → Den.Env → Option Den.Env} : dLC own fi st c fd ρ = (fi ρ).bind (kLC1 own st c fd) := (rfl)
theorem e_wipe_nil : wipeE ρ [] = ρ := (rfl)
theorem e_wipe_cons {v : Nat} {vs : List Nat} : wipeE ρ (v :: vs) = (wipeE ρ vs).set v none := (rfl)
def back1 (o : Option Slot) (v : Nat) (ρ : Den.Env) : Den.Env := match o with
  | some (.sh x) => ρ.set v (some (.sh x))
  | _ => ρ
theorem e_back_nil {ρ' : Den.Env} : backE ρ [] ρ' = ρ' := (rfl)
theorem e_back_cons {v : Nat} {vs : List Nat} {ρ' : Den.Env} : backE ρ (v :: vs) ρ' = back1 (look ρ v) v (backE ρ vs ρ') := by
  show (match ρ[v]? with | some (some (.sh d)) => _ | _ => _) = _
  unfold look
  cases h : ρ[v]? with
  | none => rfl
  | some o => cases o with
    | none => rfl
    | some s => cases s <;> rfl
theorem back1_none {v : Nat} : back1 none v ρ = ρ := (rfl)
theorem back1_sh {v : Nat} {x : D} : back1 (some (.sh x)) v ρ = ρ.set v (some (.sh x)) := (rfl)
end
/-! values of operations -/
theorem v_addI {i j : Int} : gAdd (.int i) (.int j) = some (.val (.int (i + j))) := (rfl)
theorem v_subI {i j : Int} : gSub (.int i) (.int j) = some (.val (.int (i - j))) := (rfl)
theorem v_mul {i j : Int} (h : (-(2 ^ 64) < i ∧ i < 2 ^ 64) ∨ (-(2 ^ 64) < j ∧ j < 2 ^ 64)) : gMul (.int i) (.int j) = some (.val (.int (i * j))) := by
  exact if_pos (by simpa [Bool.or_eq_true, Bool.and_eq_true, decide_eq_true_eq] using h)
theorem v_div {i j : Int} (h : 0 < j ∧ j < 1073741824) : gDiv (.int i) (.int j) = some (.val (.int (i / j))) := by
  exact if_pos (by simpa [Bool.and_eq_true, decide_eq_true_eq] using h)
theorem v_mod {i j : Int} (h : 0 < j) : gMod (.int i) (.int j) = some (.val (.int (i % j))) := by
  exact if_pos (by simpa [decide_eq_true_eq] using h)
theorem v_ltI {i j : Int} : gLt (.int i) (.int j) = some (.val (.bool (decide (i < j)))) := (rfl)
theorem v_leI {i j : Int} : gLe (.int i) (.int j) = some (.val (.bool (decide (i ≤ j)))) := (rfl)
theorem v_gtI {i j : Int} : gGt (.int i) (.int j) = some (.val (.bool (decide (i > j)))) := (rfl)
theorem v_geI {i j : Int} : gGe (.int i) (.int j) = some (.val (.bool (decide (i ≥ j)))) := (rfl)
theorem v_eqI {i j : Int} : gEq (.int i) (.int j) = some (.val (.bool (i == j))) := (rfl)
theorem v_eqS {i j : Str} : gEq (.str i) (.str j) = some (.val (.bool (i == j))) := (rfl)
theorem v_neI {i j : Int} : gNe (.int i) (.int j) = some (.val (.bool (!(i == j)))) := (rfl)
theorem v_neS {i j : Str} : gNe (.str i) (.str j) = some (.val (.bool (!(i == j)))) := (rfl)
theorem v_neB {i j : Bool} : gNe (.bool i) (.bool j) = some (.val (.bool (!(i == j)))) := (rfl)
theorem v_int {i : Int} : gInt [.int i] = some (.val (.int i)) := (rfl)
theorem v_lenL {l : List D} : gLen [.list l] = some (.val (.int l.length)) := (rfl)
theorem v_lenT {l : List D} : gLen [.tuple l] = some (.val (.int l.length)) := (rfl)
theorem v_lenS {z : Str} (h : z.length ≤ 100000) : gLen [.str z] = some (.val (.int z.length)) := if_pos h
theorem v_addS {a b : Str} (h : a.length + b.length ≤ 100000) : gAdd (.str a) (.str b) = some (.val (.str (a ++ b))) := if_pos h
theorem v_addL {a b : List D} (h : a.length + b.length ≤ 100000) : gAdd (.list a) (.list b) = some (.newL (a ++ b)) := if_pos h
def valOpt : Option D → Option Rv
  | some d => some (.val d)
  | none => none
theorem valOpt_some {d : D} : valOpt (some d) = some (.val d) := (rfl)
theorem v_idxL {l : List D} {i : Int} : gIdx (.list l) (.int i) = valOpt (atI l i) := by
  show (atI l i).map Rv.val = _
  cases atI l i <;> rfl
theorem v_idxT {l : List D} {i : Int} : gIdx (.tuple l) (.int i) = valOpt (atI l i) := by
  show (atI l i).map Rv.val = _
  cases atI l i <;> rfl
theorem at_nat {α : Type} {l : List α} {j : Nat} {x : α} (h : l[j]? = some x) : atI l (j : Int) = some x := atI_nat h
theorem v_isNone : gIs .none .none = some (.val (.bool true)) := (rfl)
end Den
namespace Den
open PySem PySem.Spec L2
section
variable {α : Type} {a b c d : α} {l : List α} {n : Nat}
theorem at0 : atI (a :: l) 0 = some a := atI_nat (j := 0) rfl
theorem at1 : atI (a :: b :: l) 1 = some b := atI_nat (j := 1) rfl
theorem at2 : atI (a :: b :: c :: l) 2 = some c := atI_nat (j := 2) rfl
theorem at3 : atI (a :: b :: c :: d :: l) 3 = some d := atI_nat (j := 3) rfl
theorem ix0 : ixN (n + 1) 0 = some 0 := by
  unfold ixN; rw [if_pos (by decide), if_pos (by omega)]; rfl
theorem ix1 : ixN (n + 1 + 1) 1 = some 1 := by
  unfold ixN; rw [if_pos (by decide), if_pos (by omega)]; rfl
theorem ix2 : ixN (n + 1 + 1 + 1) 2 = some 2 := by
  unfold ixN; rw [if_pos (by decide), if_pos (by omega)]; rfl
theorem ix_nat {n j : Nat} (h : j < n) : ixN n (j : Int) = some j := by
  unfold ixN; rw [if_pos (by omega), if_pos (by omega)]; simp
end
end Den
namespace Den
open PySem PySem.Spec L2
/-! ### loops -/
def one (st : D → Den.Env → Option Den.Env) (body : Den.Env → Res) (d : D) (ρ : Den.Env) : Res := match st d ρ with
  | none => .bad
  | some ρ1 => match body ρ1 with
    | .ct ρ2 => .nx ρ2
    | r => r
theorem loopE_nil {st : D → Den.Env → Option Den.Env} {body : Den.Env → Res} {ρ : Den.Env} : loopE st body [] ρ = .nx ρ := (rfl)
theorem loopE_nx {st : D → Den.Env → Option Den.Env} {body : Den.Env → Res} {d : D} {ds : List D} {ρ ρ' : Den.Env} (h : one st body d ρ = .nx ρ') : loopE st body (d :: ds) ρ = loopE st body ds ρ' := by
  unfold one at h
  show (match st d ρ with | none => Res.bad | some ρ1 => _) = _
  cases hs : st d ρ with
  | none => rw [hs] at h; cases h
  | some ρ1 =>
    rw [hs] at h
    dsimp only at h ⊢
    cases hb : body ρ1 <;> rw [hb] at h <;> dsimp only at h ⊢ <;> first | (cases h; rfl) | cases h
theorem loopE_ret {st : D → Den.Env → Option Den.Env} {body : Den.Env → Res} {d : D} {ds : List D} {ρ ρ' : Den.Env} {r : Slot} (h : one st body d ρ = .ret r ρ') : loopE st body (d :: ds) ρ = .ret r ρ' := by
  unfold one at h
  show (match st d ρ with | none => Res.bad | some ρ1 => _) = _
  cases hs : st d ρ with
  | none => rw [hs] at h; cases h
  | some ρ1 =>
    rw [hs] at h
    dsimp only at h ⊢
    cases hb : body ρ1 <;> rw [hb] at h <;> dsimp only at h ⊢ <;> first | (cases h; rfl) | cases h
theorem loopE_brk {st : D → Den.Env → Option Den.Env} {body : Den.Env → Res} {d : D} {ds : List D} {ρ ρ' : Den.Env} (h : one st body d ρ = .brk ρ') : loopE st body (d :: ds) ρ = .nx ρ' := by
  unfold one at h
  show (match st d ρ with | none => Res.bad | some ρ1 => _) = _
  cases hs : st d ρ with
  | none => rw [hs] at h; cases h
  | some ρ1 =>
    rw [hs] at h
    dsimp only at h ⊢
    cases hb : body ρ1 <;> rw [hb] at h <;> dsimp only at h ⊢ <;> first | (cases h; rfl) | cases h
theorem one_name {i : Nat} {body : Den.Env → Res} {d : D} {ρ : Den.Env} {r : Res} (h : body (ρ.set i (some (.sh d))) = r) (hr : ∀ ρ', r ≠ .ct ρ') : one (sName i) body d ρ = r := by
  show (match body (ρ.set i (some (.sh d))) with | .ct ρ2 => Res.nx ρ2 | r => r) = r
  rw [h]
  cases r with
  | ct ρ' => exact absurd rfl (hr ρ')
  | _ => rfl
theorem one_nx {i : Nat} {body : Den.Env → Res} {d : D} {ρ ρ' : Den.Env} (h : body (ρ.set i (some (.sh d))) = .nx ρ') : one (sName i) body d ρ = .nx ρ' := one_name h fun _ z => nomatch z
theorem one_ct {i : Nat} {body : Den.Env → Res} {d : D} {ρ ρ' : Den.Env} (h : body (ρ.set i (some (.sh d))) = .ct ρ') : one (sName i) body d ρ = .nx ρ' := by
  show (match body (ρ.set i (some (.sh d))) with | .ct ρ2 => Res.nx ρ2 | r => r) = _
  rw [h]
theorem one_ret {i : Nat} {body : Den.Env → Res} {d : D} {ρ ρ' : Den.Env} {r : Slot} (h : body (ρ.set i (some (.sh d))) = .ret r ρ') : one (sName i) body d ρ = .ret r ρ' := one_name h fun _ z => nomatch z
/-- an invariant over the items taken -/
theorem loop_inv {st : D → Den.Env → Option Den.Env} {body : Den.Env → Res} (I : List D → Den.Env → Prop) : ∀ {l : List D} {done : List D} {ρ : Den.Env}, I done ρ → (∀ (done' : List D) (d : D) (rest : List D) (ρ : Den.Env), done ++ l = done' ++ d :: rest → I done' ρ → ∃ ρ', one st body d ρ = .nx ρ' ∧ I (done' ++ [d]) ρ') →
    ∃ ρ', loopE st body l ρ = .nx ρ' ∧ I (done ++ l) ρ'
  | [], done, ρ, h0, _ => ⟨ρ, rfl, by rw [List.append_nil]; exact h0⟩
  | d :: l, done, ρ, h0, hs => by
    obtain ⟨ρ1, e1, h1⟩ := hs done d l ρ rfl h0
    obtain ⟨ρ2, e2, h2⟩ := loop_inv I (l := l) (done := done ++ [d]) (ρ := ρ1) h1 fun done' d' rest ρ e h => hs done' d' rest ρ (by rw [← e, List.append_assoc]; rfl) h
    exact ⟨ρ2, by rw [loopE_nx e1, e2], by rw [List.append_assoc] at h2; exact h2⟩
/-- comprehensions: what is kept, and what is made of it -/
theorem lc_map {own : List Nat} {st : D → Den.Env → Option Den.Env} {cf : Den.Env → Out (Bool × Den.Env)} {f : Den.Env → Out (D × Den.Env)} (b : D → Bool) (g : D → D) {ρ : Den.Env} : ∀ {l : List D},
    (∀ d ∈ l, ∃ ρ1 ρ2, st d ρ = some ρ1 ∧ cf ρ1 = .ok (b d, ρ2) ∧ (b d = false → wipeE ρ2 own = ρ) ∧ (b d = true → ∃ ρ3, f ρ2 = .ok (g d, ρ3) ∧ wipeE ρ3 own = ρ)) → lcE own st cf f l ρ = .ok ((l.filter b).map g, ρ)
  | [], _ => rfl
  | d :: l, h => by
    obtain ⟨ρ1, ρ2, h1, h2, h3, h4⟩ := h d List.mem_cons_self
    have ih := lc_map (own := own) (st := st) (cf := cf) (f := f) b g (ρ := ρ) (l := l) fun d' hd => h d' (List.mem_cons_of_mem _ hd)
    unfold lcE
    rw [h1]
    dsimp only
    rw [h2]
    cases hb : b d with
    | false =>
      dsimp only
      rw [h3 hb, ih, List.filter_cons, if_neg (by rw [hb]; decide)]
    | true =>
      obtain ⟨ρ3, h5, h6⟩ := h4 hb
      dsimp only
      rw [h5]
      dsimp only
      rw [h6, ih, List.filter_cons, if_pos hb]
      rfl
theorem lc_mapAll {own : List Nat} {st : D → Den.Env → Option Den.Env} {f : Den.Env → Out (D × Den.Env)} (g : D → D) {ρ : Den.Env} {l : List D} (h : ∀ d ∈ l, ∃ ρ1 ρ3, st d ρ = some ρ1 ∧ f ρ1 = .ok (g d, ρ3) ∧ wipeE ρ3 own = ρ) : lcE own st dTrue f l ρ = .ok (l.map g, ρ) := by
  have := lc_map (own := own) (st := st) (cf := dTrue) (f := f) (fun _ => true) g (ρ := ρ) (l := l) fun d hd => by
    obtain ⟨ρ1, ρ3, h1, h2, h3⟩ := h d hd
    exact ⟨ρ1, ρ1, h1, rfl, fun z => (by cases z), fun _ => ⟨ρ3, h2, h3⟩⟩
  rw [this, List.filter_eq_self.mpr (fun _ _ => rfl)]
theorem e_back_lc {o : Out (List D × Den.Env)} {n : Nat} : True := trivial
/-- what a call of a def is, from its body -/
theorem run_ret {own : Option Nat} {n : Nat} {f : Den.Env → Res} {ds : List D} {r : Slot} {ρ' : Den.Env} (h : f (initE own 0 ds ++ List.replicate (n - ds.length) none) = .ret r ρ') : runB own n f ds = .ok (r, ownOut own ρ') := by
  unfold runB; rw [h]
end Den
namespace Den
open PySem PySem.Spec L2
theorem v_slL {l : List D} {lo hi : Option Int} : gSl (.list l) lo hi = some (.newL (cutD l lo hi)) := (rfl)
theorem v_slS {z : Str} {lo hi : Option Int} (h : z.length ≤ 100000) : gSl (.str z) lo hi = some (.val (.str (cutS z lo hi))) := if_pos h
theorem v_pow {i j : Int} (h : 0 ≤ j ∧ j ≤ 1000000 ∧ i.natAbs < 2 ^ 64) : gPow (.int i) (.int j) = some (.val (.int (i ^ j.toNat))) := if_pos (by simpa [Bool.and_eq_true, decide_eq_true_eq, and_assoc] using h)
theorem cut_none_nat {α : Type} (l : List α) (k : Nat) : cutD l none (some (k : Int)) = l.take k := by
  unfold cutD
  rw [HT.sIx_none, HT.sIx_nat, List.drop_zero, Nat.sub_zero]
  by_cases h : k ≤ l.length
  · rw [Nat.min_eq_left h]
  · rw [Nat.min_eq_right (by omega), List.take_of_length_le (by omega), List.take_of_length_le (by omega)]
theorem cut_nat_none {α : Type} (l : List α) (k : Nat) : cutD l (some (k : Int)) none = l.drop k := by
  unfold cutD
  rw [HT.sIx_none, HT.sIx_nat]
  by_cases h : k ≤ l.length
  · rw [Nat.min_eq_left h, List.take_of_length_le (by rw [List.length_drop]; omega)]
  · rw [Nat.min_eq_right (by omega), List.drop_of_length_le (Nat.le_refl _), List.drop_of_length_le (by omega), List.take_nil]
end Den
namespace Den
open PySem PySem.Spec L2
section
variable {b : Bool} {i : Int} {s : Str} {l : List D}
theorem kb_int_none : kitB "NoneType" "int" = some false := by decide +kernel
theorem is_int_none : isD "int" .none = some false := kb_int_none
theorem kb_int_bool : kitB "bool" "int" = some true := by decide +kernel
theorem is_int_bool : isD "int" (.bool b) = some true := kb_int_bool
theorem kb_int_int : kitB "int" "int" = some true := by decide +kernel
theorem is_int_int : isD "int" (.int i) = some true := kb_int_int
theorem kb_int_str : kitB "str" "int" = some false := by decide +kernel
theorem is_int_str : isD "int" (.str s) = some false := kb_int_str
theorem kb_int_list : kitB "list" "int" = some false := by decide +kernel
theorem is_int_list : isD "int" (.list l) = some false := kb_int_list
theorem kb_int_tuple : kitB "tuple" "int" = some false := by decide +kernel
theorem is_int_tuple : isD "int" (.tuple l) = some false := kb_int_tuple
theorem kb_str_none : kitB "NoneType" "str" = some false := by decide +kernel
theorem is_str_none : isD "str" .none = some false := kb_str_none
theorem kb_str_bool : kitB "bool" "str" = some false := by decide +kernel
theorem is_str_bool : isD "str" (.bool b) = some false := kb_str_bool
theorem kb_str_int : kitB "int" "str" = some false := by decide +kernel
theorem is_str_int : isD "str" (.int i) = some false := kb_str_int
theorem kb_str_str : kitB "str" "str" = some true := by decide +kernel
theorem is_str_str : isD "str" (.str s) = some true := kb_str_str
theorem kb_str_list : kitB "list" "str" = some false := by decide +kernel
theorem is_str_list : isD "str" (.list l) = some false := kb_str_list
theorem kb_str_tuple : kitB "tuple" "str" = some false := by decide +kernel
theorem is_str_tuple : isD "str" (.tuple l) = some false := kb_str_tuple
theorem kb_bool_none : kitB "NoneType" "bool" = some false := by decide +kernel
theorem is_bool_none : isD "bool" .none = some false := kb_bool_none
theorem kb_bool_bool : kitB "bool" "bool" = some true := by decide +kernel
theorem is_bool_bool : isD "bool" (.bool b) = some true := kb_bool_bool
theorem kb_bool_int : kitB "int" "bool" = some false := by decide +kernel
theorem is_bool_int : isD "bool" (.int i) = some false := kb_bool_int
theorem kb_bool_str : kitB "str" "bool" = some false := by decide +kernel
theorem is_bool_str : isD "bool" (.str s) = some false := kb_bool_str
theorem kb_bool_list : kitB "list" "bool" = some false := by decide +kernel
theorem is_bool_list : isD "bool" (.list l) = some false := kb_bool_list
theorem kb_bool_tuple : kitB "tuple" "bool" = some false := by decide +kernel
theorem is_bool_tuple : isD "bool" (.tuple l) = some false := kb_bool_tuple
theorem kb_tuple_none : kitB "NoneType" "tuple" = some false := by decide +kernel
theorem is_tuple_none : isD "tuple" .none = some false := kb_tuple_none
theorem kb_tuple_bool : kitB "bool" "tuple" = some false := by decide +kernel
theorem is_tuple_bool : isD "tuple" (.bool b) = some false := kb_tuple_bool
theorem kb_tuple_int : kitB "int" "tuple" = some false := by decide +kernel
theorem is_tuple_int : isD "tuple" (.int i) = some false := kb_tuple_int
theorem kb_tuple_str : kitB "str" "tuple" = some false := by decide +kernel
theorem is_tuple_str : isD "tuple" (.str s) = some false := kb_tuple_str
theorem kb_tuple_list : kitB "list" "tuple" = some false := by decide +kernel
theorem is_tuple_list : isD "tuple" (.list l) = some false := kb_tuple_list
theorem kb_tuple_tuple : kitB "tuple" "tuple" = some true := by decide +kernel
theorem is_tuple_tuple : isD "tuple" (.tuple l) = some true := kb_tuple_tuple
theorem kb_list_none : kitB "NoneType" "list" = some false := by decide +kernel
theorem is_list_none : isD "list" .none = some false := kb_list_none
theorem kb_list_bool : kitB "bool" "list" = some false := by decide +kernel
theorem is_list_bool : isD "list" (.bool b) = some false := kb_list_bool
theorem kb_list_int : kitB "int" "list" = some false := by decide +kernel
theorem is_list_int : isD "list" (.int i) = some false := kb_list_int
theorem kb_list_str : kitB "str" "list" = some false := by decide +kernel
theorem is_list_str : isD "list" (.str s) = some false := kb_list_str
theorem kb_list_list : kitB "list" "list" = some true := by decide +kernel
theorem is_list_list : isD "list" (.list l) = some true := kb_list_list
theorem kb_list_tuple : kitB "tuple" "list" = some false := by decide +kernel
theorem is_list_tuple : isD "list" (.tuple l) = some false := kb_list_tuple
theorem iss_tuple_list_none : isDs ["tuple", "list"] .none = some false := by simp only [isDs, is_tuple_none, is_list_none]
theorem iss_tuple_list_bool : isDs ["tuple", "list"] (.bool b) = some false := by simp only [isDs, is_tuple_bool, is_list_bool]
theorem iss_tuple_list_int : isDs ["tuple", "list"] (.int i) = some false := by simp only [isDs, is_tuple_int, is_list_int]
theorem iss_tuple_list_str : isDs ["tuple", "list"] (.str s) = some false := by simp only [isDs, is_tuple_str, is_list_str]
theorem iss_tuple_list_list : isDs ["tuple", "list"] (.list l) = some true := by simp only [isDs, is_tuple_list, is_list_list]
theorem iss_tuple_list_tuple : isDs ["tuple", "list"] (.tuple l) = some true := by simp only [isDs, is_tuple_tuple, is_list_tuple]
theorem iss_list_tuple_none : isDs ["list", "tuple"] .none = some false := by simp only [isDs, is_list_none, is_tuple_none]
theorem iss_list_tuple_bool : isDs ["list", "tuple"] (.bool b) = some false := by simp only [isDs, is_list_bool, is_tuple_bool]
theorem iss_list_tuple_int : isDs ["list", "tuple"] (.int i) = some false := by simp only [isDs, is_list_int, is_tuple_int]
theorem iss_list_tuple_str : isDs ["list", "tuple"] (.str s) = some false := by simp only [isDs, is_list_str, is_tuple_str]
theorem iss_list_tuple_list : isDs ["list", "tuple"] (.list l) = some true := by simp only [isDs, is_list_list, is_tuple_list]
theorem iss_list_tuple_tuple : isDs ["list", "tuple"] (.tuple l) = some true := by simp only [isDs, is_list_tuple, is_tuple_tuple]
theorem iss_int_str_none : isDs ["int", "str"] .none = some false := by simp only [isDs, is_int_none, is_str_none]
theorem iss_int_str_bool : isDs ["int", "str"] (.bool b) = some true := by simp only [isDs, is_int_bool, is_str_bool]
theorem iss_int_str_int : isDs ["int", "str"] (.int i) = some true := by simp only [isDs, is_int_int, is_str_int]
theorem iss_int_str_str : isDs ["int", "str"] (.str s) = some true := by simp only [isDs, is_int_str, is_str_str]
theorem iss_int_str_list : isDs ["int", "str"] (.list l) = some false := by simp only [isDs, is_int_list, is_str_list]
theorem iss_int_str_tuple : isDs ["int", "str"] (.tuple l) = some false := by simp only [isDs, is_int_tuple, is_str_tuple]
theorem iss_str_int_none : isDs ["str", "int"] .none = some false := by simp only [isDs, is_str_none, is_int_none]
theorem iss_str_int_bool : isDs ["str", "int"] (.bool b) = some true := by simp only [isDs, is_str_bool, is_int_bool]
theorem iss_str_int_int : isDs ["str", "int"] (.int i) = some true := by simp only [isDs, is_str_int, is_int_int]
theorem iss_str_int_str : isDs ["str", "int"] (.str s) = some true := by simp only [isDs, is_str_str, is_int_str]
theorem iss_str_int_list : isDs ["str", "int"] (.list l) = some false := by simp only [isDs, is_str_list, is_int_list]
theorem iss_str_int_tuple : isDs ["str", "int"] (.tuple l) = some false := by simp only [isDs, is_str_tuple, is_int_tuple]
theorem v_isN {d : D} : gIs d .none = some (.val (.bool (isNone d))) := by cases d <;> rfl
theorem v_isNN {d : D} : gIsNot d .none = some (.val (.bool (!isNone d))) := by cases d <;> rfl
theorem n_none : isNone .none = true := (rfl)
theorem n_bool : isNone (.bool b) = false := (rfl)
theorem n_int : isNone (.int i) = false := (rfl)
theorem n_str : isNone (.str s) = false := (rfl)
theorem n_list : isNone (.list l) = false := (rfl)
theorem n_tuple : isNone (.tuple l) = false := (rfl)
end
end Den
namespace Den
open PySem PySem.Spec L2
section
variable {ρ : Den.Env} {k i : Nat} {d : D} {ls : List Late} {l : List D}
theorem argD_nil {own : Option Nat} : argD own ρ k [] = some [] := (rfl)
theorem argD_now : argD none ρ k (.now d :: ls) = cons2 (some d) (argD none ρ (k + 1) ls) := (rfl)
theorem argD_now0 : argD (some 0) ρ (k + 1) (.now d :: ls) = cons2 (some d) (argD (some 0) ρ (k + 1 + 1) ls) := by
  have h : ¬ ((some 0 : Option Nat) = some (k + 1)) := by simp
  rw [argD, if_neg h]
  rfl
def asL : Option (List D) → Option D
  | some l => some (.list l)
  | none => none
theorem asL_some : asL (some l) = some (.list l) := (rfl)
theorem argD_own0 : argD (some 0) ρ 0 (.slot i :: ls) = cons2 (asL (owOf (look ρ i))) (argD (some 0) ρ (0 + 1) ls) := by
  rw [argD, if_pos rfl]
  unfold cons2 asL look
  cases h : ρ[i]? with
  | none => rfl
  | some o => cases o with
    | none => rfl
    | some s => cases s <;> rfl
theorem put_none : putOwn none ls l ρ = ρ := (rfl)
theorem put_0 : putOwn (some 0) (.slot i :: ls) l ρ = ρ.set i (some (.ow l)) := (rfl)
end
end Den
namespace Den
open PySem PySem.Spec L2
theorem v_inF {c : Nat} {z : Str} : gIn false (.str ⟨#[c]⟩) (.str z) = some (.val (.bool (decide (c ∈ z.cps.toList)))) := by
  show some (Rv.val (.bool (false != decide (c ∈ z.cps.toList)))) = _
  cases decide (c ∈ z.cps.toList) <;> rfl
theorem v_inT {c : Nat} {z : Str} : gIn true (.str ⟨#[c]⟩) (.str z) = some (.val (.bool (!decide (c ∈ z.cps.toList)))) := by
  show some (Rv.val (.bool (true != decide (c ∈ z.cps.toList)))) = _
  cases decide (c ∈ z.cps.toList) <;> rfl
theorem lc_on {α : Type} {own : List Nat} {st : D → Den.Env → Option Den.Env} {cf : Den.Env → Out (Bool × Den.Env)} {f : Den.Env → Out (D × Den.Env)} (e : α → D) (b : α → Bool) (g : α → D) {ρ : Den.Env} : ∀ {l : List α},
    (∀ d ∈ l, ∃ ρ1 ρ2, st (e d) ρ = some ρ1 ∧ cf ρ1 = .ok (b d, ρ2) ∧ (b d = false → wipeE ρ2 own = ρ) ∧ (b d = true → ∃ ρ3, f ρ2 = .ok (g d, ρ3) ∧ wipeE ρ3 own = ρ)) → lcE own st cf f (l.map e) ρ = .ok ((l.filter b).map g, ρ)
  | [], _ => rfl
  | d :: l, h => by
    obtain ⟨ρ1, ρ2, h1, h2, h3, h4⟩ := h d List.mem_cons_self
    have ih := lc_on (own := own) (st := st) (cf := cf) (f := f) e b g (ρ := ρ) (l := l) fun d' hd => h d' (List.mem_cons_of_mem _ hd)
    rw [List.map_cons]
    unfold lcE
    rw [h1]
    dsimp only
    rw [h2]
    cases hb : b d with
    | false =>
      dsimp only
      rw [h3 hb, ih, List.filter_cons, if_neg (by rw [hb]; decide)]
    | true =>
      obtain ⟨ρ3, h5, h6⟩ := h4 hb
      dsimp only
      rw [h5]
      dsimp only
      rw [h6, ih, List.filter_cons, if_pos hb]
      rfl
theorem lc_onAll {α : Type} {own : List Nat} {st : D → Den.Env → Option Den.Env} {f : Den.Env → Out (D × Den.Env)} (e : α → D) (g : α → D) {ρ : Den.Env} {l : List α} (h : ∀ d ∈ l, ∃ ρ1 ρ3, st (e d) ρ = some ρ1 ∧ f ρ1 = .ok (g d, ρ3) ∧ wipeE ρ3 own = ρ) : lcE own st dTrue f (l.map e) ρ = .ok (l.map g, ρ) := by
  have := lc_on (own := own) (st := st) (cf := dTrue) (f := f) e (fun _ => true) g (ρ := ρ) (l := l) fun d hd => by
    obtain ⟨ρ1, ρ3, h1, h2, h3⟩ := h d hd
    exact ⟨ρ1, ρ1, h1, rfl, fun z => (by cases z), fun _ => ⟨ρ3, h2, h3⟩⟩
  rw [this, List.filter_eq_self.mpr (fun _ _ => rfl)]
theorem bools_map {α : Type} (f : α → Bool) : ∀ l : List α, bools (l.map fun x => .bool (f x)) = some (l.map f)
  | [] => rfl
  | x :: l => by
    show (bools (l.map fun x => .bool (f x))).map (f x :: ·) = _
    rw [bools_map f l]
    rfl
theorem v_allB {l : List D} {bs : List Bool} (h : bools l = some bs) : gAll [.list l] = some (.val (.bool (bs.all id))) := by
  show (bools l).map _ = _
  rw [h]
  rfl
theorem v_anyB {l : List D} {bs : List Bool} (h : bools l = some bs) : gAny [.list l] = some (.val (.bool (bs.any id))) := by
  show (bools l).map _ = _
  rw [h]
  rfl
theorem at_pick {α : Type} {l : List α} {n : Int} (h0 : 0 ≤ n) (h1 : n < l.length) : ∃ x, x ∈ l ∧ atI l n = some x := by
  have h : n.toNat < l.length := by omega
  refine ⟨l[n.toNat], List.getElem_mem h, ?_⟩
  have e : n = (n.toNat : Int) := by omega
  have := at_nat (List.getElem?_eq_getElem h)
  rw [← e] at this
  exact this
theorem v_idxS {z : Str} {n : Int} (hz : z.length ≤ 100000) (h0 : 0 ≤ n) (h1 : n < z.length) : ∃ c, c ∈ z.cps.toList ∧ gIdx (.str z) (.int n) = some (.val (.str ⟨#[c]⟩)) := by
  obtain ⟨c, hc, e⟩ := at_pick (l := z.cps.toList) h0 (by rw [Array.length_toList]; exact h1)
  refine ⟨c, hc, ?_⟩
  show (if z.length ≤ 100000 then (atI z.cps.toList n).map fun c => Rv.val (.str ⟨#[c]⟩) else none) = _
  rw [if_pos hz, e]
  rfl
theorem one_len {c : Nat} : (⟨#[c]⟩ : Str).length = 1 := rfl
theorem str_len_app {a b : Str} : (a ++ b).length = a.length + b.length := PySem.Str.length_append a b
theorem signs_len {z : Str} : (signs z).length = z.length := by
  unfold signs; rw [List.length_map, Array.length_toList]; rfl
end Den
namespace Den
open PySem PySem.Spec L2
theorem lc_inv {own : List Nat} {st : D → Den.Env → Option Den.Env} {f : Den.Env → Out (D × Den.Env)} (I : List D → List D → Den.Env → Prop) : ∀ {l done made : List D} {ρ : Den.Env}, I done made ρ →
    (∀ (done' made' : List D) (d : D) (rest : List D) (ρ : Den.Env), done ++ l = done' ++ d :: rest → I done' made' ρ → ∃ ρ1 y ρ3, st d ρ = some ρ1 ∧ f ρ1 = .ok (y, ρ3) ∧ I (done' ++ [d]) (made' ++ [y]) (wipeE ρ3 own)) →
    ∃ ys ρ', lcE own st dTrue f l ρ = .ok (ys, ρ') ∧ I (done ++ l) (made ++ ys) ρ'
  | [], done, made, ρ, h0, _ => ⟨[], ρ, rfl, by rw [List.append_nil, List.append_nil]; exact h0⟩
  | d :: l, done, made, ρ, h0, hs => by
    obtain ⟨ρ1, y, ρ3, h1, h2, h3⟩ := hs done made d l ρ rfl h0
    obtain ⟨ys, ρ', h4, h5⟩ := lc_inv I (l := l) (done := done ++ [d]) (made := made ++ [y]) (ρ := wipeE ρ3 own) h3 fun done' made' d' rest ρ e h => hs done' made' d' rest ρ (by rw [← e, List.append_assoc]; rfl) h
    refine ⟨y :: ys, ρ', ?_, by rw [List.append_assoc, List.append_assoc] at h5; exact h5⟩
    unfold lcE
    rw [h1]
    show (match f ρ1 with | .ok (y, ρ3) => (lcE own st dTrue f l (wipeE ρ3 own)).bind fun q => Out.ok (y :: q.1, q.2) | _ => .bad) = _
    rw [h2]
    show (lcE own st dTrue f l (wipeE ρ3 own)).bind _ = _
    rw [h4]
    rfl
end Den

/-! texts split at a sign, in plain lists -/
namespace Spl
open PySem PySem.NumText
open PySem

def step (c : Nat) (s : List (List Nat) × List Nat) (ch : Nat) : List (List Nat) × List Nat := if ch = c then (s.1 ++ [s.2], []) else (s.1, s.2 ++ [ch])
def run (c : Nat) (l : List Nat) : List (List Nat) × List Nat := l.foldl (step c) ([], [])
def joinL (c : Nat) : List (List Nat) → List Nat
  | [] => []
  | [p] => p
  | p :: q :: r => p ++ c :: joinL c (q :: r)
theorem run_free {c : Nat} : ∀ {p : List Nat} {d : List (List Nat)} {q : List Nat}, c ∉ p → p.foldl (step c) (d, q) = (d, q ++ p)
  | [], d, q, _ => by rw [List.append_nil]; rfl
  | ch :: p, d, q, h => by
    rw [List.mem_cons, not_or] at h
    rw [List.foldl_cons]
    have : step c (d, q) ch = (d, q ++ [ch]) := if_neg fun z => h.1 z.symm
    rw [this, run_free h.2, List.append_assoc]
    rfl
theorem run_join {c : Nat} : ∀ {p : List Nat} {ps : List (List Nat)} {d : List (List Nat)} {q : List Nat}, (∀ r ∈ p :: ps, c ∉ r) → ((joinL c (p :: ps)).foldl (step c) (d, q)).1 ++ [((joinL c (p :: ps)).foldl (step c) (d, q)).2] = d ++ (q ++ p) :: ps
  | p, [], d, q, h => by
    show (p.foldl (step c) (d, q)).1 ++ [(p.foldl (step c) (d, q)).2] = _
    rw [run_free (h p (List.mem_cons_self ..))]
  | p, r :: ps, d, q, h => by
    show ((p ++ c :: joinL c (r :: ps)).foldl (step c) (d, q)).1 ++ _ = _
    rw [List.foldl_append, run_free (h p (List.mem_cons_self ..)), List.foldl_cons]
    have : step c (d, q ++ p) c = (d ++ [q ++ p], []) := if_pos rfl
    rw [this]
    have ih := run_join (c := c) (p := r) (ps := ps) (d := d ++ [q ++ p]) (q := []) fun z hz => h z (List.mem_cons_of_mem _ hz)
    show ((joinL c (r :: ps)).foldl (step c) (d ++ [q ++ p], [])).1 ++ [((p ++ c :: joinL c (r :: ps)).foldl (step c) (d, q)).2] = _
    rw [List.foldl_append, run_free (h p (List.mem_cons_self ..)), List.foldl_cons, this, ih, List.append_assoc]
    rfl
theorem cps_app (a b : Str) : (a ++ b).cps.toList = a.cps.toList ++ b.cps.toList := by
  show (a.cps ++ b.cps).toList = _
  rw [Array.toList_append]
theorem join_list (c : Nat) : ∀ parts : List Str, (Str.join ⟨#[c]⟩ parts).cps.toList = joinL c (parts.map fun p => p.cps.toList)
  | [] => rfl
  | [p] => rfl
  | p :: q :: r => by
    show (p ++ ⟨#[c]⟩ ++ Str.join ⟨#[c]⟩ (q :: r)).cps.toList = _
    rw [cps_app, cps_app, join_list c (q :: r), List.append_assoc]
    rfl
theorem split_ne (x y : Str) : Txt.split x y ≠ [] := by
  unfold Txt.split
  split
  · simp
  · split
    · simp
    · rw [StrLaws.partsBetween_eq]
      obtain ⟨p, r, e⟩ := StrLaws.partsFrom_ne x y.length 0 (Builtin.Str.occurrences x y 0 x.length (x.length + 1))
      rw [e]; simp
theorem split_lists (x : Str) (c : Nat) : (Txt.split x ⟨#[c]⟩).map (fun p => p.cps.toList) = (run c x.cps.toList).1 ++ [(run c x.cps.toList).2] := by
  have h1 := StrLaws.split_free x c
  have h2 := StrLaws.join_split x ⟨#[c]⟩
  have h3 := split_ne x ⟨#[c]⟩
  generalize Txt.split x ⟨#[c]⟩ = ps at *
  cases ps with
  | nil => exact absurd rfl h3
  | cons p ps =>
    have hx : x.cps.toList = joinL c ((p :: ps).map fun p => p.cps.toList) := by rw [← join_list, h2]
    rw [hx]
    have := run_join (c := c) (p := p.cps.toList) (ps := ps.map fun p => p.cps.toList) (d := []) (q := []) (fun r hr => by
      rw [← List.map_cons (f := fun p : Str => p.cps.toList)] at hr
      obtain ⟨z, hz, rfl⟩ := List.mem_map.1 hr
      exact h1 z hz)
    exact this.symm
def mk (l : List Nat) : Str := ⟨l.toArray⟩
theorem mk_cps (s : Str) : mk s.cps.toList = s := by
  unfold mk
  rw [Array.toArray_toList]
/-- the pieces of x between the signs c -/
def pieces (c : Nat) (x : Str) : List Str := ((run c x.cps.toList).1 ++ [(run c x.cps.toList).2]).map mk
theorem split_eq (x : Str) (c : Nat) : Txt.split x ⟨#[c]⟩ = pieces c x := by
  unfold pieces
  rw [← split_lists, List.map_map]
  have : (mk ∘ fun p : Str => p.cps.toList) = id := by funext p; exact mk_cps p
  rw [this, List.map_id]
theorem join_pieces (x : Str) (c : Nat) : Txt.join ⟨#[c]⟩ (pieces c x) = x := by
  rw [← split_eq]
  show Builtin.Str.glued _ _ = _
  rw [StrLaws.glued_eq_join, StrLaws.join_split]
/-- sizes -/
theorem run_len (c : Nat) : ∀ (l : List Nat) (d : List (List Nat)) (q : List Nat), ((l.foldl (step c) (d, q)).1.map List.length).sum + (l.foldl (step c) (d, q)).1.length + (l.foldl (step c) (d, q)).2.length = (d.map List.length).sum + d.length + q.length + l.length
  | [], d, q => by simp
  | ch :: l, d, q => by
    rw [List.foldl_cons]
    by_cases h : ch = c
    · rw [show step c (d, q) ch = (d ++ [q], []) from if_pos h, run_len c l]
      simp
      omega
    · rw [show step c (d, q) ch = (d, q ++ [ch]) from if_neg h, run_len c l]
      simp
      omega
theorem pieces_len (c : Nat) (x : Str) : ((pieces c x).map (·.length)).sum + (pieces c x).length = x.length + 1 := by
  have h := run_len c x.cps.toList [] []
  have hx : x.cps.toList.length = x.length := Array.length_toList
  unfold pieces run
  rw [List.map_map]
  have e : ((fun s : Str => s.length) ∘ mk) = List.length := by funext l; exact List.size_toArray
  rw [show ((·.length) ∘ mk : List Nat → Nat) = List.length from e]
  simp only [List.map_append, List.map_cons, List.map_nil, List.sum_append, List.sum_cons, List.sum_nil, List.length_map, List.length_append, List.length_cons, List.length_nil, List.map_nil, List.sum_nil] at h ⊢
  omega

/-! ### numbers written -/
theorem charNat : ∀ c : Nat, 48 ≤ c ∧ c ≤ 57 → (Char.ofNat c).toNat = c := fun c h => by
  have : ∀ k : Nat, k < 10 → (Char.ofNat (k + 48)).toNat = k + 48 := by decide
  have := this (c - 48) (by omega)
  rwa [show c - 48 + 48 = c by omega] at this
theorem map_char : ∀ {cs : List Nat}, AllDigits cs → (cs.map Char.ofNat).map Char.toNat = cs
  | [], _ => rfl
  | c :: cs, h => by rw [List.map_cons, List.map_cons, charNat c h.head, map_char h.tail]
/-- a number's digits, read and written again -/
theorem num_back {x : Str} (h : AllDigits x.cps.toList) (h1 : x.cps.toList ≠ []) (h2 : (∃ c, x.cps.toList = [c]) ∨ ∃ c r, x.cps.toList = c :: r ∧ 49 ≤ c) : (toString ((digitsVal x.cps.toList : Nat) : Int) : Str) = x := by
  have e : (PySem.Str.ofString (toString ((digitsVal x.cps.toList : Nat) : Int))).cps.toList = x.cps.toList := by
    rw [PySem.W.KIN.signs_num]
    have hl : x.cps.toList.length = (x.cps.toList.length - 1) + 1 := by
      cases hx : x.cps.toList with
      | nil => exact absurd hx h1
      | cons c r => simp
    rw [toDigits_digitsVal _ _ hl h (by
      rcases h2 with ⟨c, e⟩ | h2
      · left; rw [e]; rfl
      · exact .inr h2)]
    exact map_char h
  have := congrArg List.toArray e
  rw [Array.toArray_toList, Array.toArray_toList] at this
  have : (PySem.Str.ofString (toString ((digitsVal x.cps.toList : Nat) : Int))) = x := by
    cases hx : x with
    | mk cps =>
      subst hx
      exact congrArg PySem.Str.mk this
  exact this
end Spl

/-! Reckoning: exceptions and texts -/
namespace Den
open PySem PySem.Spec L2
section
variable {ρ : Den.Env} {i : Nat} {x : Str}
def kRaise (x : Str) (ns : List Str) : Out (List D × Den.Env) → Res
  | .ok p => if p.1.length = ns.length ∧ p.1.length ≤ 1000 then .exc x (ns.zip p.1).reverse p.2 else .bad
  | .exc c fs ρ' => .exc c fs ρ'
  | .bad => .bad
theorem e_raise {ns : List Str} {fl : Den.Env → Out (List D × Den.Env)} : dRaise x ns fl ρ = kRaise x ns (fl ρ) := by
  unfold dRaise kRaise
  cases fl ρ <;> rfl
theorem k_raise1 {a : Str} {d : D} : kRaise x [a] (.ok ([d], ρ)) = .exc x [(a, d)] ρ := by
  unfold kRaise
  dsimp only
  rw [if_pos ⟨rfl, Nat.le_of_ble_eq_true rfl⟩]
  rfl
theorem k_raise2 {a b : Str} {d e : D} : kRaise x [a, b] (.ok ([d, e], ρ)) = .exc x [(b, e), (a, d)] ρ := by
  unfold kRaise
  dsimp only
  rw [if_pos ⟨rfl, Nat.le_of_ble_eq_true rfl⟩]
  rfl
theorem k_raise3 {a b c : Str} {d e f : D} : kRaise x [a, b, c] (.ok ([d, e, f], ρ)) = .exc x [(c, f), (b, e), (a, d)] ρ := by
  unfold kRaise
  dsimp only
  rw [if_pos ⟨rfl, Nat.le_of_ble_eq_true rfl⟩]
  rfl
def kHit (i : Nat) (b : Option Bool) (suite : Str → List (Str × D) → Den.Env → Res) (c : Str) (fs : List (Str × D)) (ρ : Den.Env) : Res := match b with
  | some true => wipeR i (suite c fs (ρ.set i (some .tk)))
  | some false => .exc c fs ρ
  | none => .bad
def kTry (i : Nat) (ca : Str → Option Bool) (suite : Str → List (Str × D) → Den.Env → Res) : Res → Res
  | .exc c fs ρ' => kHit i (ca c) suite c fs ρ'
  | r => r
theorem e_try {ca : Str → Option Bool} {body : Den.Env → Res} {suite : Str → List (Str × D) → Den.Env → Res} : dTry i ca body suite ρ = kTry i ca suite (body ρ) := by
  unfold dTry kTry kHit
  cases body ρ <;> rfl
section
variable {ca : Str → Option Bool} {suite : Str → List (Str × D) → Den.Env → Res} {c : Str} {fs : List (Str × D)} {r : Slot}
theorem k_try_nx : kTry i ca suite (.nx ρ) = .nx ρ := (rfl)
theorem k_try_ret : kTry i ca suite (.ret r ρ) = .ret r ρ := (rfl)
theorem k_try_brk : kTry i ca suite (.brk ρ) = .brk ρ := (rfl)
theorem k_try_ct : kTry i ca suite (.ct ρ) = .ct ρ := (rfl)
theorem k_try_exc : kTry i ca suite (.exc c fs ρ) = kHit i (ca c) suite c fs ρ := (rfl)
theorem k_hit_t : kHit i (some true) suite c fs ρ = wipeR i (suite c fs (ρ.set i (some .tk))) := (rfl)
theorem k_hit_f : kHit i (some false) suite c fs ρ = .exc c fs ρ := (rfl)
theorem wipe_nx : wipeR i (.nx ρ) = .nx (ρ.set i none) := (rfl)
theorem wipe_ret : wipeR i (.ret r ρ) = .ret r (ρ.set i none) := (rfl)
theorem wipe_brk : wipeR i (.brk ρ) = .brk (ρ.set i none) := (rfl)
theorem wipe_ct : wipeR i (.ct ρ) = .ct (ρ.set i none) := (rfl)
end
theorem lookup1 {a : Str} {b : Bool} : ([(a, b)] : List (Str × Bool)).lookup a = some b := by
  rw [List.lookup_cons, beq_self_eq_true]
def xfOf (o : Option Slot) (fs : List (Str × D)) (f : Str) (ρ : Den.Env) : Out (D × Den.Env) := match o with
  | some .tk => match fs.lookup f with
    | some d => .ok (d, ρ)
    | none => .bad
  | _ => .bad
theorem e_xf {fs : List (Str × D)} {f : Str} : dXf i fs f ρ = xfOf (look ρ i) fs f ρ := by
  unfold dXf look
  cases h : ρ[i]? with
  | none => rfl
  | some o =>
    cases o with
    | none => rfl
    | some s => cases s <;> rfl
theorem xfOf_0 {f : Str} {d : D} {fs : List (Str × D)} : xfOf (some .tk) ((f, d) :: fs) f ρ = .ok (d, ρ) := by
  unfold xfOf
  rw [List.lookup_cons, beq_self_eq_true]
theorem xfOf_1 {f g : Str} {d e : D} {fs : List (Str × D)} (h : (f == g) = false) : xfOf (some .tk) ((g, e) :: (f, d) :: fs) f ρ = .ok (d, ρ) := by
  unfold xfOf
  rw [List.lookup_cons, h]
  show (match List.lookup f ((f, d) :: fs) with | some d => Out.ok (d, ρ) | none => .bad) = _
  rw [List.lookup_cons, beq_self_eq_true]
def isxOf (o : Option Slot) (b : Bool) (ρ : Den.Env) : Out (Slot × Den.Env) := match o with
  | some .tk => .ok (.sh (.bool b), ρ)
  | _ => .bad
theorem e_isx {b : Bool} : dIsx i b ρ = isxOf (look ρ i) b ρ := by
  unfold dIsx look
  cases h : ρ[i]? with
  | none => rfl
  | some o =>
    cases o with
    | none => rfl
    | some s => cases s <;> rfl
theorem isxOf_tk {b : Bool} : isxOf (some .tk) b ρ = .ok (.sh (.bool b), ρ) := (rfl)
/-! texts -/
def finM (op : Str → List D → Option Rv) (a : Str) (ds : Option (List D)) (ρ : Den.Env) : Out (Slot × Den.Env) := match ds with
  | some ds => rvOut ρ (op a ds)
  | none => .bad
theorem finM_some {op : Str → List D → Option Rv} {a : Str} {ds : List D} : finM op a (some ds) ρ = rvOut ρ (op a ds) := (rfl)
def kM2 (op : Str → List D → Option Rv) (a : Str) (p : Late × Den.Env) : Out (Slot × Den.Env) := finM op a (resAll p.2 [p.1]) p.2
theorem k_M2 {op : Str → List D → Option Rv} {a : Str} {l : Late} : kM2 op a (l, ρ) = finM op a (resAll ρ [l]) ρ := (rfl)
def kM1 (op : Str → List D → Option Rv) (fe : Den.Env → Out (Late × Den.Env)) (p : D × Den.Env) : Out (Slot × Den.Env) := match txtOf p.1 with
  | some a => (fe p.2).bind (kM2 op a)
  | none => .bad
theorem k_M1 {op : Str → List D → Option Rv} {fe : Den.Env → Out (Late × Den.Env)} {a : Str} : kM1 op fe (.str a, ρ) = (fe ρ).bind (kM2 op a) := (rfl)
theorem e_M1 {op : Str → List D → Option Rv} {fo : Den.Env → Out (D × Den.Env)} {fe : Den.Env → Out (Late × Den.Env)} : dM1 op fo fe ρ = (fo ρ).bind (kM1 op fe) := (rfl)
theorem v_str {j : Int} (h : j.natAbs.log2 < 1920) : gStr [.int j] = some (.val (.str (toString j))) := if_pos h
theorem v_intI {j : Int} : gIntS [.int j] = some (.val (.int j)) := (rfl)
theorem v_intB {b : Bool} : gIntS [.bool b] = some (.val (.int (if b then 1 else 0))) := (rfl)
theorem v_intS {z : Str} {n : Int} (h : PySem.intText? z = some n) (hl : z.length ≤ 640) : gIntS [.str z] = some (.val (.int n)) := by
  show (match PySem.intText? z with | some n => if z.length ≤ 640 then some (Rv.val (.int n)) else none | none => none) = _
  rw [h]
  exact if_pos hl
theorem v_mulS {a : Str} {n : Int} (h : a.length ≤ 1000 ∧ -1000 ≤ n ∧ n ≤ 1000) : gMulS (.str a) (.int n) = some (.val (.str (Txt.mul a n))) := if_pos h
theorem v_split {a b : Str} (h : (b.length == 0) = false ∧ a.length ≤ 99990) : gSplit a [.str b] = some (.newL ((Txt.split a b).map PyData.str)) := if_pos h
theorem strsOf_map : ∀ l : List Str, strsOf (l.map PyData.str) = some l
  | [] => rfl
  | a :: l => by
    show (match strsOf (l.map PyData.str) with | some t => some (a :: t) | none => none) = _
    rw [strsOf_map l]
theorem v_joinL {a : Str} {l : List Str} (h : (l.map (·.length)).sum + l.length * a.length ≤ 1000000) : gJoin a [.list (l.map PyData.str)] = some (.val (.str (Txt.join a l))) := by
  show gJoinL a _ = _
  unfold gJoinL
  rw [strsOf_map]
  exact if_pos h
theorem v_joinT {a : Str} {l : List Str} (h : (l.map (·.length)).sum + l.length * a.length ≤ 1000000) : gJoin a [.tuple (l.map PyData.str)] = some (.val (.str (Txt.join a l))) := by
  show gJoinL a _ = _
  unfold gJoinL
  rw [strsOf_map]
  exact if_pos h
theorem v_indexS {a b : Str} {k : Nat} {r : List Nat} (h : Builtin.Str.occurrences a b 0 a.length 1 = k :: r) : gIndexS a [.str b] = some (.val (.int (k : Nat))) := by
  show (match Builtin.Str.occurrences a b 0 a.length 1 with | i :: _ => some (Rv.val (.int (i : Nat))) | [] => none) = _
  rw [h]
theorem callBack_exc {fn : Fd} {ls : List Late} {c : Str} {fs : List (Str × D)} {ρ' : Den.Env} (h : fn.own = none) : callBack fn ls ρ (.exc c fs ρ') = .exc c fs ρ := if_pos h
end
end Den

/-! What the laws' own helpers do: the deck, a draw, the look whether two values are the same. -/
namespace Com
open PySem PySem.Spec L2 Den
local macro_rules | `(tactic| walk_at "den") => `(tactic| simp only [bind_ok, bind_exc, rbind_nx, rbind_ret, rbind_brk, rbind_ct, rbind_exc, ofOut_ok, ofOut_exc, chT_t, chT_f, chV_t, chV_f, chR_t, chR_f, e_okT, e_okV, k_dat, k_val, k_now, k_bin1, k_bin2, k_andT, k_orT, k_notT, k_and, k_or, k_not, k_ite, k_ch1, k_ch2, k_ch3, k_l1, k_l2, k_tup, k_lst, k_o1, k_o2, k_CB, k_call, k_s1, k_s2, k_s3, k_isi, k_isiT, k_neg, k_expr, k_if, k_asg, k_asgT, k_for, k_app, appStart_some, k_set1, k_set2, setStart_some, k_seqI, k_rng, k_enum, k_rev, k_lc1, k_lc2, e_dat, e_val, e_now, e_C, look_cons_zero, look_cons_succ, e_loc, locOf_some, e_var, varOf_sh, varOf_ow, e_mov, movOf_sh, movOf_ow, res_now, res_slot, Option.map_some, data_sh, data_ow, slotD_sh, slotD_ow, fin2_some, e_bin, e_idx, rvOut_some, slot_val, slot_newT, slot_newL, e_tst, tstOf_b, e_andT, e_orT, e_notT, e_and, e_or, e_not, e_ite, e_chain, e_dList_nil, e_dList_cons, e_tup, e_lst, e_oNil, e_oCons, finC_some, e_CB, cons2_some, resAll_nil, resAll_cons, e_call, callOf_some, callBack_ok, e_ptNone, e_ptSome, ptOf_int, slOf_some, e_sl, isiOf_some, e_isi, e_isiT, e_neg, negOf_int, e_seq, e_skip, e_ret, e_retN, e_brk, e_ct, e_expr, e_if, e_asg, nxO_some, e_asgT, e_sName, e_sTup, e_sCons, e_sNil, Option.bind_some, e_for, owOf_ow, e_app, e_pop, popOf_app, e_set, setOf_int, setOf2_some, e_seqI, itOf_some, items_list, items_tuple, items_str, e_range1, e_enum, enumOf_list, e_rev, e_true, e_lc, e_wipe_nil, e_wipe_cons, e_back_nil, e_back_cons, back1_none, back1_sh, v_addI, v_subI, v_ltI, v_leI, v_gtI, v_geI, v_eqI, v_eqS, v_neI, v_neS, v_neB, v_int, v_lenL, v_lenT, v_idxL, v_idxT, valOpt_some, v_isN, v_isNN, n_none, n_bool, n_int, n_str, n_list, n_tuple, v_slL, List.set_cons_zero, List.set_cons_succ, at0, at1, at2, at3, ix0, ix1, ix2, List.length_cons, List.length_nil, is_int_none, is_int_bool, is_int_int, is_int_str, is_int_list, is_int_tuple, is_str_none, is_str_bool, is_str_int, is_str_str, is_str_list, is_str_tuple, is_bool_none, is_bool_bool, is_bool_int, is_bool_str, is_bool_list, is_bool_tuple, is_tuple_none, is_tuple_bool, is_tuple_int, is_tuple_str, is_tuple_list, is_tuple_tuple, is_list_none, is_list_bool, is_list_int, is_list_str, is_list_list, is_list_tuple, iss_tuple_list_none, iss_tuple_list_bool, iss_tuple_list_int, iss_tuple_list_str, iss_tuple_list_list, iss_tuple_list_tuple, iss_list_tuple_none, iss_list_tuple_bool, iss_list_tuple_int, iss_list_tuple_str, iss_list_tuple_list, iss_list_tuple_tuple, iss_int_str_none, iss_int_str_bool, iss_int_str_int, iss_int_str_str, iss_int_str_list, iss_int_str_tuple, iss_str_int_none, iss_str_int_bool, iss_str_int_int, iss_str_int_str, iss_str_int_list, iss_str_int_tuple, beq_self_eq_true, v_inF, v_inT, ch1_le, ch1_lt, ch2_t, ch2_f, ch3_le, ch3_lt, argD_nil, argD_now, argD_now0, argD_own0, asL_some, put_none, put_0, Nat.zero_add, Nat.reduceAdd, ↓reduceIte, e_raise, k_raise1, k_raise2, k_raise3, e_try, k_try_nx, k_try_ret, k_try_brk, k_try_ct, k_try_exc, k_hit_t, k_hit_f, wipe_nx, wipe_ret, wipe_brk, wipe_ct, lookup1, e_xf, xfOf_0, xfOf_1, e_isx, isxOf_tk, finM_some, k_M1, k_M2, e_M1, v_intI, v_intB, Bool.not_true, Bool.not_false, decide_true, decide_false])
def dDeck : Den.Env → Res :=
  (dSeq (dAsg 1 (dLC [3] (dSeqI (dat (dSl (dLoc 0) ptNone (ptSome (dC (.int 63)))))) (sName 3) dTrue (dat (dBin gMod (now (dat (dCB gIntS (oCons (dLoc 3) oNil)))) (now (dat (dBin gPow (now (dC (.int 10))) (now (dC (.int 40))))))))))
    (dSeq (dAsg 2 (val (dC (.int 7))))
    (dSeq (dFor (dSeqI (dVar 1)) (sName 3)
    (dAsg 2 (dBin gMod (now (dat (dBin gAdd (now (dat (dBin gMul (dLoc 2) (now (dC (.int 48271)))))) (dLoc 3)))) (now (dC (.int 2147483647))))))
    (dRet (dLst [(dC (.int 0)), (dC (.int 0)), (dVar 2), (dVar 1)])))))
def dDraw : Den.Env → Res :=
  (dSeq (dAsg 2 (dIdx (dLoc 0) (now (dC (.int 1)))))
    (dSeq (dAsg 3 (dBin gGt (dLoc 2) (now (dC (.int 0)))))
    (dSeq (dIf (dAndT (dNotT (tst (val (dVar 3)))) (tst (dBin gLt (now (dat (dIdx (dLoc 0) (now (dC (.int 0)))))) (now (dat (dCB gLen (oCons (now (dat (dIdx (dLoc 0) (now (dC (.int 3)))))) oNil)))))))
    (dSeq (dAsg 2 (dIdx (now (dat (dIdx (dLoc 0) (now (dC (.int 3)))))) (now (dat (dIdx (dLoc 0) (now (dC (.int 0))))))))
    (dSeq (dSet 0 (dC (.int 0)) (dat (dBin gAdd (now (dat (dIdx (dLoc 0) (now (dC (.int 0)))))) (now (dC (.int 1))))))
    (dAsg 3 (val (dC (.bool true))))))
    dSkip)
    (dSeq (dIf (tst (val (dVar 3)))
    (dSeq (dSet 0 (dC (.int 1)) (dat (dBin gDiv (dLoc 2) (dLoc 1))))
    (dRet (dBin gMod (now (dat (dCB gIntS (oCons (dLoc 2) oNil)))) (dLoc 1))))
    dSkip)
    (dSeq (dAsg 2 (dBin gMod (now (dat (dCB gIntS (oCons (now (dat (dBin gAdd (now (dat (dBin gMul (now (dat (dIdx (dLoc 0) (now (dC (.int 2)))))) (now (dC (.int 1103515245)))))) (now (dC (.int 12345)))))) oNil)))) (now (dC (.int 2147483648)))))
    (dSeq (dSet 0 (dC (.int 2)) (dVar 2))
    (dRet (dBin gMod (now (dat (dCB gIntS (oCons (now (dat (dBin gDiv (dLoc 2) (now (dC (.int 65536)))))) oNil)))) (dLoc 1)))))))))
def dSame : Den.Env → Res :=
  (dSeq (dAsg 2 (dLst [(dTup [(dVar 0), (dVar 1)])]))
    (dSeq (dFor (dRange1 (oCons (now (dC (.int 200000))) oNil)) (sName 3)
    (dSeq (dIf (tst (dBin gEq (now (dat (dCB gLen (oCons (dLoc 2) oNil)))) (now (dC (.int 0)))))
    (dRet (val (dC (.bool true))))
    dSkip)
    (dSeq (dAsg 4 (val (dPop 2)))
    (dIf (tst (dIsiT ["tuple", "list"] (now (dat (dIdx (dLoc 4) (now (dC (.int 1))))))))
    (dSeq (dIf (tst (dBin gNe (now (dat (dIsi "tuple" (now (dat (dIdx (dLoc 4) (now (dC (.int 1))))))))) (now (dat (dIsi "tuple" (now (dat (dIdx (dLoc 4) (now (dC (.int 0)))))))))))
    (dRet (val (dC (.bool false))))
    dSkip)
    (dSeq (dIf (dOrT (tst (dBin gNe (now (dat (dIsi "list" (now (dat (dIdx (dLoc 4) (now (dC (.int 1))))))))) (now (dat (dIsi "list" (now (dat (dIdx (dLoc 4) (now (dC (.int 0))))))))))) (tst (dBin gNe (now (dat (dCB gLen (oCons (now (dat (dIdx (dLoc 4) (now (dC (.int 0)))))) oNil)))) (now (dat (dCB gLen (oCons (now (dat (dIdx (dLoc 4) (now (dC (.int 1)))))) oNil)))))))
    (dRet (val (dC (.bool false))))
    dSkip)
    (dFor (dRange1 (oCons (now (dat (dCB gLen (oCons (now (dat (dIdx (dLoc 4) (now (dC (.int 1)))))) oNil)))) oNil)) (sName 5)
    (dApp 2 (dTup [(dat (dIdx (now (dat (dIdx (dLoc 4) (now (dC (.int 0)))))) (dLoc 5))), (dat (dIdx (now (dat (dIdx (dLoc 4) (now (dC (.int 1)))))) (dLoc 5)))])))))
    (dIf (tst (dIsi "str" (now (dat (dIdx (dLoc 4) (now (dC (.int 1))))))))
    (dIf (dOrT (dNotT (tst (dIsi "str" (now (dat (dIdx (dLoc 4) (now (dC (.int 0))))))))) (tst (dBin gNe (now (dat (dIdx (dLoc 4) (now (dC (.int 0)))))) (now (dat (dIdx (dLoc 4) (now (dC (.int 1)))))))))
    (dRet (val (dC (.bool false))))
    dSkip)
    (dIf (tst (dIsi "bool" (now (dat (dIdx (dLoc 4) (now (dC (.int 1))))))))
    (dIf (dOrT (dNotT (tst (dIsi "bool" (now (dat (dIdx (dLoc 4) (now (dC (.int 0))))))))) (tst (dBin gNe (now (dat (dIdx (dLoc 4) (now (dC (.int 0)))))) (now (dat (dIdx (dLoc 4) (now (dC (.int 1)))))))))
    (dRet (val (dC (.bool false))))
    dSkip)
    (dIf (tst (dBin gIs (now (dat (dIdx (dLoc 4) (now (dC (.int 1)))))) (now (dC .none))))
    (dIf (tst (dBin gIsNot (now (dat (dIdx (dLoc 4) (now (dC (.int 0)))))) (now (dC .none))))
    (dRet (val (dC (.bool false))))
    dSkip)
    (dIf (dOrT (tst (dIsi "bool" (now (dat (dIdx (dLoc 4) (now (dC (.int 0)))))))) (dOrT (dNotT (tst (dIsi "int" (now (dat (dIdx (dLoc 4) (now (dC (.int 0))))))))) (tst (dBin gNe (now (dat (dIdx (dLoc 4) (now (dC (.int 0)))))) (now (dat (dIdx (dLoc 4) (now (dC (.int 1))))))))))
    (dRet (val (dC (.bool false))))
    dSkip))))))))
    (dRet (val (dC (.bool false))))))

/-- a deck as it stands between two draws -/
structure Deck (l : List D) : Prop where
  ex : ∃ (a b c : Int) (cs : List Int), l = [.int a, .int b, .int c, .list (cs.map .int)] ∧ 0 ≤ a ∧ 0 ≤ b ∧ (∀ x ∈ cs, 0 ≤ x) ∧ 0 ≤ c ∧ c < 2147483648 ∧ cs.length ≤ 63
theorem draw_body {l : List D} (h : Deck l) {m : Int} (hm : 0 < m) (hm2 : m < 1073741824) :
    ∃ (n : Int) (l' : List D) (x y : Option Slot), dDraw [some (.ow l), some (.sh (.int m)), none, none] = .ret (.sh (.int n)) [some (.ow l'), some (.sh (.int m)), x, y] ∧ 0 ≤ n ∧ n < m ∧ Deck l' := by
  obtain ⟨a, b, c, cs, rfl, ha, hb, hcs, hc, hc2, hl⟩ := h.ex
  unfold dDraw
  walk_at "den"
  by_cases h1 : b > 0
  · rw [decide_eq_true h1]
    walk_at "den"
    rw [v_div ⟨hm, hm2⟩]
    walk_at "den"
    rw [v_mod hm]
    walk_at "den"
    exact ⟨_, _, _, _, rfl, Int.emod_nonneg _ (by omega), Int.emod_lt_of_pos _ hm, ⟨a, b / m, c, cs, rfl, ha, Int.ediv_nonneg hb (by omega), hcs, hc, hc2, hl⟩⟩
  · rw [decide_eq_false h1]
    walk_at "den"
    rw [List.length_map]
    by_cases h2 : a < (cs.length : Int)
    · rw [decide_eq_true h2]
      walk_at "den"
      have hai : a.toNat < cs.length := by omega
      have hat : atI (cs.map PyData.int) a = some (.int cs[a.toNat]) := by
        have e : a = (a.toNat : Int) := by omega
        have := at_nat (l := cs.map PyData.int) (j := a.toNat) (x := .int cs[a.toNat]) (by simp [List.getElem?_map, List.getElem?_eq_getElem hai])
        rw [← e] at this
        exact this
      have hpos : 0 ≤ cs[a.toNat] := hcs _ (List.getElem_mem hai)
      rw [hat]
      walk_at "den"
      rw [v_div ⟨hm, hm2⟩]
      walk_at "den"
      rw [v_mod hm]
      walk_at "den"
      exact ⟨_, _, _, _, rfl, Int.emod_nonneg _ (by omega), Int.emod_lt_of_pos _ hm, ⟨a + 1, cs[a.toNat] / m, c, cs, rfl, by omega, Int.ediv_nonneg hpos (by omega), hcs, hc, hc2, hl⟩⟩
    · rw [decide_eq_false h2]
      walk_at "den"
      rw [v_mul (.inl (by omega))]
      walk_at "den"
      rw [v_mod (by decide)]
      walk_at "den"
      rw [v_div (by decide)]
      walk_at "den"
      rw [v_mod hm]
      walk_at "den"
      exact ⟨_, _, _, _, rfl, Int.emod_nonneg _ (by omega), Int.emod_lt_of_pos _ hm, ⟨a, b, _, cs, rfl, ha, hb, hcs, Int.emod_nonneg _ (by decide), Int.emod_lt_of_pos _ (by decide), hl⟩⟩
def fDraw : Fd := ⟨2, some 0, runB (some 0) 4 dDraw⟩
theorem draw_run {l : List D} (h : Deck l) {m : Int} (hm : 0 < m) (hm2 : m < 1073741824) :
    ∃ (n : Int) (l' : List D), fDraw.run [.list l, .int m] = .ok (.sh (.int n), l') ∧ 0 ≤ n ∧ n < m ∧ Deck l' := by
  obtain ⟨n, l', x, y, e, h1, h2, h3⟩ := draw_body h hm hm2
  refine ⟨n, l', ?_, h1, h2, h3⟩
  show (match dDraw [some (.ow l), some (.sh (.int m)), none, none] with | .ret r ρ => Out.ok (r, ownOut (some 0) ρ) | .nx ρ => .ok (.sh .none, ownOut (some 0) ρ) | .exc c fs _ => if (some 0 : Option Nat) = none then .exc c fs [] else .bad | _ => .bad) = _
  rw [e]
  rfl

theorem mul48 {x : Int} (h : 0 ≤ x ∧ x < 2147483648) : gMul (.int x) (.int 48271) = some (.val (.int (x * 48271))) := v_mul (.inr (by decide))
def fDeck : Fd := ⟨1, none, runB none 4 dDeck⟩
theorem deck_body (ns : List Int) (h : ns.length ≤ 63) : ∃ l ρ, dDeck [some (.sh (.list (ns.map .int))), none, none, none] = .ret (.ow l) ρ ∧ Deck l := by
  have hcut : cutD (ns.map PyData.int) none (some 63) = ns.map PyData.int := by
    have := cut_none_nat (ns.map PyData.int) 63
    rw [List.take_of_length_le (by rw [List.length_map]; exact h)] at this
    exact this
  unfold dDeck
  walk_at "den"
  rw [hcut]
  have hlc : lcE [3] (sName 3) dTrue (dat (dBin gMod (now (dat (dCB gIntS (oCons (dLoc 3) oNil)))) (now (dat (dBin gPow (now (dC (PyData.int 10))) (now (dC (PyData.int 40)))))))) (ns.map PyData.int)
      [some (Slot.sh (PyData.list (List.map PyData.int ns))), none, none, none] = .ok ((ns.map PyData.int).map (fun d => match d with | .int i => .int (i % 10 ^ 40) | d => d), [some (Slot.sh (PyData.list (List.map PyData.int ns))), none, none, none]) := by
    refine lc_mapAll _ fun d hd => ?_
    obtain ⟨i, _, rfl⟩ := List.mem_map.mp hd
    refine ⟨_, [some (Slot.sh (PyData.list (List.map PyData.int ns))), none, none, some (.sh (.int i))], rfl, ?_, rfl⟩
    show dat _ [some (Slot.sh (PyData.list (List.map PyData.int ns))), none, none, some (.sh (.int i))] = _
    walk_at "den"
    rw [v_pow (by decide)]
    walk_at "den"
    rw [v_mod (by decide)]
    walk_at "den"
    rfl
  rw [lcGo_eq (by rw [List.length_map]; omega)]
  walk_at "den"
  rw [hlc]
  walk_at "den"
  have hmap : (ns.map PyData.int).map (fun d => match d with | .int i => PyData.int (i % 10 ^ 40) | d => d) = (ns.map fun i => i % 10 ^ 40).map PyData.int := by
    rw [List.map_map, List.map_map]
    rfl
  rw [hmap]
  generalize hcs : (ns.map fun i => i % 10 ^ 40) = cs
  have hpos : ∀ x ∈ cs, 0 ≤ x := by
    intro x hx
    rw [← hcs] at hx
    obtain ⟨i, _, rfl⟩ := List.mem_map.mp hx
    exact Int.emod_nonneg _ (by decide)
  have hlen : cs.length ≤ 63 := by rw [← hcs, List.length_map]; exact h
  obtain ⟨ρ', e, s, x, rfl, h1, h2⟩ := loop_inv (st := sName 3) (body := dAsg 2 (dBin gMod (now (dat (dBin gAdd (now (dat (dBin gMul (dLoc 2) (now (dC (PyData.int 48271)))))) (dLoc 3)))) (now (dC (PyData.int 2147483647)))))
    (fun done ρ => ∃ (s : Int) (x : Option Slot), ρ = [some (.sh (.list (ns.map .int))), some (.sh (.list (cs.map .int))), some (.sh (.int s)), x] ∧ 0 ≤ s ∧ s < 2147483648) (l := cs.map .int) (done := []) (ρ := [some (.sh (.list (ns.map .int))), some (.sh (.list (cs.map .int))), some (.sh (.int 7)), none])
    ⟨7, none, rfl, by decide, by decide⟩ (by
      rintro done' d rest ρ hd ⟨s, x, rfl, h1, h2⟩
      have hm : d ∈ cs.map PyData.int := by rw [List.nil_append] at hd; rw [hd]; simp
      obtain ⟨i, _, rfl⟩ := List.mem_map.mp hm
      refine ⟨_, one_nx ?_, (s * 48271 + i) % 2147483647, some (.sh (.int i)), rfl, Int.emod_nonneg _ (by decide), Int.lt_trans (Int.emod_lt_of_pos _ (by decide)) (by decide)⟩
      walk_at "den"
      rw [mul48 ⟨h1, h2⟩]
      walk_at "den"
      rw [v_mod (by decide)]
      walk_at "den")
  rw [e]
  walk_at "den"
  exact ⟨_, _, rfl, ⟨0, 0, s, cs, rfl, by decide, by decide, hpos, h1, h2, hlen⟩⟩
theorem deck_run (ns : List Int) (h : ns.length ≤ 63) : ∃ l, fDeck.run [.list (ns.map .int)] = .ok (.ow l, []) ∧ Deck l := by
  obtain ⟨l, ρ, e, hd⟩ := deck_body ns h
  exact ⟨l, run_ret (own := none) (n := 4) e, hd⟩
end Com

namespace Com
open PySem PySem.Spec L2 Den
local macro_rules | `(tactic| walk_at "den") => `(tactic| simp only [bind_ok, bind_exc, rbind_nx, rbind_ret, rbind_brk, rbind_ct, rbind_exc, ofOut_ok, ofOut_exc, chT_t, chT_f, chV_t, chV_f, chR_t, chR_f, e_okT, e_okV, k_dat, k_val, k_now, k_bin1, k_bin2, k_andT, k_orT, k_notT, k_and, k_or, k_not, k_ite, k_ch1, k_ch2, k_ch3, k_l1, k_l2, k_tup, k_lst, k_o1, k_o2, k_CB, k_call, k_s1, k_s2, k_s3, k_isi, k_isiT, k_neg, k_expr, k_if, k_asg, k_asgT, k_for, k_app, appStart_some, k_set1, k_set2, setStart_some, k_seqI, k_rng, k_enum, k_rev, k_lc1, k_lc2, e_dat, e_val, e_now, e_C, look_cons_zero, look_cons_succ, e_loc, locOf_some, e_var, varOf_sh, varOf_ow, e_mov, movOf_sh, movOf_ow, res_now, res_slot, Option.map_some, data_sh, data_ow, slotD_sh, slotD_ow, fin2_some, e_bin, e_idx, rvOut_some, slot_val, slot_newT, slot_newL, e_tst, tstOf_b, e_andT, e_orT, e_notT, e_and, e_or, e_not, e_ite, e_chain, e_dList_nil, e_dList_cons, e_tup, e_lst, e_oNil, e_oCons, finC_some, e_CB, cons2_some, resAll_nil, resAll_cons, e_call, callOf_some, callBack_ok, e_ptNone, e_ptSome, ptOf_int, slOf_some, e_sl, isiOf_some, e_isi, e_isiT, e_neg, negOf_int, e_seq, e_skip, e_ret, e_retN, e_brk, e_ct, e_expr, e_if, e_asg, nxO_some, e_asgT, e_sName, e_sTup, e_sCons, e_sNil, Option.bind_some, e_for, owOf_ow, e_app, e_pop, popOf_app, e_set, setOf_int, setOf2_some, e_seqI, itOf_some, items_list, items_tuple, items_str, e_range1, e_enum, enumOf_list, e_rev, e_true, e_lc, e_wipe_nil, e_wipe_cons, e_back_nil, e_back_cons, back1_none, back1_sh, v_addI, v_subI, v_ltI, v_leI, v_gtI, v_geI, v_eqI, v_eqS, v_neI, v_neS, v_neB, v_int, v_lenL, v_lenT, v_idxL, v_idxT, valOpt_some, v_isN, v_isNN, n_none, n_bool, n_int, n_str, n_list, n_tuple, v_slL, List.set_cons_zero, List.set_cons_succ, at0, at1, at2, at3, ix0, ix1, ix2, List.length_cons, List.length_nil, is_int_none, is_int_bool, is_int_int, is_int_str, is_int_list, is_int_tuple, is_str_none, is_str_bool, is_str_int, is_str_str, is_str_list, is_str_tuple, is_bool_none, is_bool_bool, is_bool_int, is_bool_str, is_bool_list, is_bool_tuple, is_tuple_none, is_tuple_bool, is_tuple_int, is_tuple_str, is_tuple_list, is_tuple_tuple, is_list_none, is_list_bool, is_list_int, is_list_str, is_list_list, is_list_tuple, iss_tuple_list_none, iss_tuple_list_bool, iss_tuple_list_int, iss_tuple_list_str, iss_tuple_list_list, iss_tuple_list_tuple, iss_list_tuple_none, iss_list_tuple_bool, iss_list_tuple_int, iss_list_tuple_str, iss_list_tuple_list, iss_list_tuple_tuple, iss_int_str_none, iss_int_str_bool, iss_int_str_int, iss_int_str_str, iss_int_str_list, iss_int_str_tuple, iss_str_int_none, iss_str_int_bool, iss_str_int_int, iss_str_int_str, iss_str_int_list, iss_str_int_tuple, beq_self_eq_true, v_inF, v_inT, ch1_le, ch1_lt, ch2_t, ch2_f, ch3_le, ch3_lt, argD_nil, argD_now, argD_now0, argD_own0, asL_some, put_none, put_0, Nat.zero_add, Nat.reduceAdd, ↓reduceIte, e_raise, k_raise1, k_raise2, k_raise3, e_try, k_try_nx, k_try_ret, k_try_brk, k_try_ct, k_try_exc, k_hit_t, k_hit_f, wipe_nx, wipe_ret, wipe_brk, wipe_ct, lookup1, e_xf, xfOf_0, xfOf_1, e_isx, isxOf_tk, finM_some, k_M1, k_M2, e_M1, v_intI, v_intB, Bool.not_true, Bool.not_false, decide_true, decide_false])

/-! ### _law_same, of two equal values -/
mutual
/-- how many parts a value has (no dicts in it) -/
inductive Sz : D → Nat → Prop
  | non : Sz .none 1
  | bl (b : Bool) : Sz (.bool b) 1
  | int (i : Int) : Sz (.int i) 1
  | str (x : Str) : Sz (.str x) 1
  | lst {l : List D} {n : Nat} : SzAll l n → Sz (.list l) (n + 1)
  | tup {l : List D} {n : Nat} : SzAll l n → Sz (.tuple l) (n + 1)
inductive SzAll : List D → Nat → Prop
  | nil : SzAll [] 0
  | cons {d : D} {l : List D} {a b : Nat} : Sz d a → SzAll l b → SzAll (d :: l) (a + b)
end
theorem SzAll.app : ∀ {l m : List D} {a b : Nat}, SzAll l a → SzAll m b → SzAll (l ++ m) (a + b)
  | _, _, _, _, .nil, h => by rw [Nat.zero_add]; exact h
  | _, _, _, _, .cons x y, h => by rw [Nat.add_assoc]; exact .cons x (SzAll.app y h)
theorem SzAll.split : ∀ {l m : List D} {n : Nat}, SzAll (l ++ m) n → ∃ a b, SzAll l a ∧ SzAll m b ∧ n = a + b
  | [], _, n, h => ⟨0, n, .nil, h, by omega⟩
  | d :: l, m, n, h => by
    cases h with
    | cons x y =>
      obtain ⟨a, b, h1, h2, rfl⟩ := SzAll.split (l := l) y
      exact ⟨_, _, .cons x h1, h2, by omega⟩
theorem SzAll.one {d : D} {n : Nat} (h : SzAll [d] n) : Sz d n := by
  cases h with
  | cons x y => cases y; exact x
theorem Sz.pos : ∀ {d : D} {n : Nat}, Sz d n → 1 ≤ n
  | _, _, .non => Nat.le_refl _
  | _, _, .bl _ => Nat.le_refl _
  | _, _, .int _ => Nat.le_refl _
  | _, _, .str _ => Nat.le_refl _
  | _, _, .lst _ => Nat.le_add_left _ _
  | _, _, .tup _ => Nat.le_add_left _ _
theorem SzAll.len : ∀ {l : List D} {n : Nat}, SzAll l n → l.length ≤ n
  | _, _, .nil => Nat.le_refl _
  | _, _, .cons x y => by
    have := SzAll.len y
    have := x.pos
    simp only [List.length_cons]
    omega
def twin (d : D) : D := .tuple [d, d]
def sameInner : Den.Env → Res :=
  (dApp 2 (dTup [(dat (dIdx (now (dat (dIdx (dLoc 4) (now (dC (.int 0)))))) (dLoc 5))), (dat (dIdx (now (dat (dIdx (dLoc 4) (now (dC (.int 1)))))) (dLoc 5)))]))
def sameTurn : Den.Env → Res :=
  (dSeq (dIf (tst (dBin gEq (now (dat (dCB gLen (oCons (dLoc 2) oNil)))) (now (dC (.int 0)))))
    (dRet (val (dC (.bool true))))
    dSkip)
    (dSeq (dAsg 4 (val (dPop 2)))
    (dIf (tst (dIsiT ["tuple", "list"] (now (dat (dIdx (dLoc 4) (now (dC (.int 1))))))))
    (dSeq (dIf (tst (dBin gNe (now (dat (dIsi "tuple" (now (dat (dIdx (dLoc 4) (now (dC (.int 1))))))))) (now (dat (dIsi "tuple" (now (dat (dIdx (dLoc 4) (now (dC (.int 0)))))))))))
    (dRet (val (dC (.bool false))))
    dSkip)
    (dSeq (dIf (dOrT (tst (dBin gNe (now (dat (dIsi "list" (now (dat (dIdx (dLoc 4) (now (dC (.int 1))))))))) (now (dat (dIsi "list" (now (dat (dIdx (dLoc 4) (now (dC (.int 0))))))))))) (tst (dBin gNe (now (dat (dCB gLen (oCons (now (dat (dIdx (dLoc 4) (now (dC (.int 0)))))) oNil)))) (now (dat (dCB gLen (oCons (now (dat (dIdx (dLoc 4) (now (dC (.int 1)))))) oNil)))))))
    (dRet (val (dC (.bool false))))
    dSkip)
    (dFor (dRange1 (oCons (now (dat (dCB gLen (oCons (now (dat (dIdx (dLoc 4) (now (dC (.int 1)))))) oNil)))) oNil)) (sName 5)
    sameInner)))
    (dIf (tst (dIsi "str" (now (dat (dIdx (dLoc 4) (now (dC (.int 1))))))))
    (dIf (dOrT (dNotT (tst (dIsi "str" (now (dat (dIdx (dLoc 4) (now (dC (.int 0))))))))) (tst (dBin gNe (now (dat (dIdx (dLoc 4) (now (dC (.int 0)))))) (now (dat (dIdx (dLoc 4) (now (dC (.int 1)))))))))
    (dRet (val (dC (.bool false))))
    dSkip)
    (dIf (tst (dIsi "bool" (now (dat (dIdx (dLoc 4) (now (dC (.int 1))))))))
    (dIf (dOrT (dNotT (tst (dIsi "bool" (now (dat (dIdx (dLoc 4) (now (dC (.int 0))))))))) (tst (dBin gNe (now (dat (dIdx (dLoc 4) (now (dC (.int 0)))))) (now (dat (dIdx (dLoc 4) (now (dC (.int 1)))))))))
    (dRet (val (dC (.bool false))))
    dSkip)
    (dIf (tst (dBin gIs (now (dat (dIdx (dLoc 4) (now (dC (.int 1)))))) (now (dC .none))))
    (dIf (tst (dBin gIsNot (now (dat (dIdx (dLoc 4) (now (dC (.int 0)))))) (now (dC .none))))
    (dRet (val (dC (.bool false))))
    dSkip)
    (dIf (dOrT (tst (dIsi "bool" (now (dat (dIdx (dLoc 4) (now (dC (.int 0)))))))) (dOrT (dNotT (tst (dIsi "int" (now (dat (dIdx (dLoc 4) (now (dC (.int 0))))))))) (tst (dBin gNe (now (dat (dIdx (dLoc 4) (now (dC (.int 0)))))) (now (dat (dIdx (dLoc 4) (now (dC (.int 1))))))))))
    (dRet (val (dC (.bool false))))
    dSkip)))))))
theorem dSame_eq : dSame = dSeq (dAsg 2 (dLst [(dTup [(dVar 0), (dVar 1)])])) (dSeq (dFor (dRange1 (oCons (now (dC (.int 200000))) oNil)) (sName 3) sameTurn) (dRet (val (dC (.bool false))))) := rfl
def kids : D → List D
  | .list l => l
  | .tuple l => l
  | _ => []
def senv (a b : Slot) (ps : List D) (x3 x4 x5 : Option Slot) : Den.Env := [some a, some b, some (.ow ps), x3, x4, x5]
theorem intsD_mem {n : Nat} {done rest : List D} {d : D} (h : intsD 0 n = done ++ d :: rest) : d = .int (done.length : Int) ∧ done.length < n := by
  have h1 : (intsD 0 n)[done.length]? = some d := by rw [h]; simp
  unfold intsD at h1
  rw [List.getElem?_map] at h1
  by_cases hl : done.length < n
  · rw [List.getElem?_range hl] at h1
    refine ⟨?_, hl⟩
    have := Option.some.inj h1
    rw [← this]
    simp
  · rw [List.getElem?_eq_none (by simpa using hl)] at h1
    cases h1
theorem intsD_len (a : Int) (n : Nat) : (intsD a n).length = n := by
  unfold intsD
  rw [List.length_map, List.length_range]
theorem inner_loop (a b : Slot) (ps l : List D) (x3 x5 : Option Slot) (k : D) (hk : ∀ j : Nat, j < l.length → (gIdx k (.int (j : Int)) = valOpt l[j]?)) (hl : ps.length + l.length < 10000000) :
    ∃ x, loopE (sName 5) sameInner (intsD 0 l.length) (senv a b ps x3 (some (.sh (.tuple [k, k]))) x5) = .nx (senv a b (ps ++ l.map twin) x3 (some (.sh (.tuple [k, k]))) x) := by
  obtain ⟨ρ', e, x, hx⟩ := loop_inv (st := sName 5) (body := sameInner) (fun done ρ => ∃ x, ρ = senv a b (ps ++ (l.take done.length).map twin) x3 (some (.sh (.tuple [k, k]))) x) (l := intsD 0 l.length) (done := []) (ρ := senv a b ps x3 (some (.sh (.tuple [k, k]))) x5)
    ⟨x5, by simp⟩ (by
      rintro done d rest ρ hd ⟨x, rfl⟩
      rw [List.nil_append] at hd
      obtain ⟨rfl, hlt⟩ := intsD_mem hd
      refine ⟨_, one_nx ?_, some (.sh (.int (done.length : Int))), rfl⟩
      unfold sameInner senv
      walk_at "den"
      rw [hk _ hlt, List.getElem?_eq_getElem hlt]
      walk_at "den"
      rw [hk _ hlt, List.getElem?_eq_getElem hlt]
      walk_at "den"
      rw [appOf_some (by simp [List.length_append, List.length_map, List.length_take]; omega)]
      walk_at "den"
      simp only [List.length_append, List.length_cons, List.length_nil, Nat.zero_add, List.take_add_one, List.getElem?_eq_getElem hlt, Option.toList_some, List.map_append, List.map_cons, List.map_nil, List.append_assoc, twin])
  refine ⟨x, ?_⟩
  rw [e, hx]
  simp [intsD]
theorem turn_nil (a b : Slot) (x3 x4 x5 : Option Slot) : sameTurn (senv a b [] x3 x4 x5) = .ret (.sh (.bool true)) (senv a b [] x3 x4 x5) := by
  unfold sameTurn senv
  walk_at "den"
  rfl
theorem turn_app (a b : Slot) (ps : List D) (x3 x4 x5 : Option Slot) {d : D} {n : Nat} (hd : Sz d n) (hl : ps.length + n < 1000000) :
    ∃ x x', sameTurn (senv a b (ps ++ [twin d]) x3 x4 x5) = .nx (senv a b (ps ++ (kids d).map twin) x3 x x') := by
  have h0 : (((ps ++ [twin d]).length : Int) == 0) = false := by simp [List.length_append]; omega
  unfold sameTurn senv
  walk_at "den"
  rw [h0]
  walk_at "den"
  unfold twin
  cases hd with
  | non =>
    refine ⟨some (.sh (.tuple [.none, .none])), x5, ?_⟩
    walk_at "den"
    simp [kids]
  | bl b =>
    refine ⟨some (.sh (.tuple [.bool b, .bool b])), x5, ?_⟩
    walk_at "den"
    simp [kids]
  | int i =>
    refine ⟨some (.sh (.tuple [.int i, .int i])), x5, ?_⟩
    walk_at "den"
    simp [kids]
  | str x =>
    refine ⟨some (.sh (.tuple [.str x, .str x])), x5, ?_⟩
    walk_at "den"
    simp [kids]
  | lst h =>
    rename_i l m
    have hlen := h.len
    obtain ⟨x, e⟩ := inner_loop a b ps l x3 x5 (.list l) (fun j hj => by rw [v_idxL]; congr 1; rw [List.getElem?_eq_getElem hj]; exact at_nat (List.getElem?_eq_getElem hj)) (by omega)
    refine ⟨some (.sh (.tuple [.list l, .list l])), x, ?_⟩
    walk_at "den"
    rw [rng1_int ⟨by omega, by omega⟩, Int.toNat_natCast]
    walk_at "den"
    exact e
  | tup h =>
    rename_i l m
    have hlen := h.len
    obtain ⟨x, e⟩ := inner_loop a b ps l x3 x5 (.tuple l) (fun j hj => by rw [v_idxT]; congr 1; rw [List.getElem?_eq_getElem hj]; exact at_nat (List.getElem?_eq_getElem hj)) (by omega)
    refine ⟨some (.sh (.tuple [.tuple l, .tuple l])), x, ?_⟩
    walk_at "den"
    rw [rng1_int ⟨by omega, by omega⟩, Int.toNat_natCast]
    walk_at "den"
    exact e
theorem Sz.kids : ∀ {d : D} {n : Nat}, Sz d n → SzAll (Com.kids d) (n - 1)
  | _, _, .non => .nil
  | _, _, .bl _ => .nil
  | _, _, .int _ => .nil
  | _, _, .str _ => .nil
  | _, _, .lst h => h
  | _, _, .tup h => h
theorem same_loop (a b : Slot) : ∀ (l : List D) (ds : List D) (n : Nat) (x3 x4 x5 : Option Slot), SzAll ds n → n < l.length → l.length ≤ 200000 → ∃ ρ', loopE (sName 3) sameTurn l (senv a b (ds.map twin) x3 x4 x5) = .ret (.sh (.bool true)) ρ'
  | [], _, _, _, _, _, _, h, _ => absurd h (by simp)
  | t :: l, ds, n, x3, x4, x5, hs, hn, hl => by
    rcases List.eq_nil_or_concat ds with rfl | ⟨ds', d, rfl⟩
    · exact ⟨_, loopE_ret (one_ret (turn_nil a b (some (.sh t)) x4 x5))⟩
    · rw [List.concat_eq_append] at hs ⊢
      obtain ⟨p, q, h1, h2, rfl⟩ := hs.split
      have hd := h2.one
      have hp := hd.pos
      have hlen := h1.len
      rw [List.map_append, List.map_cons, List.map_nil]
      simp only [List.length_cons] at hn hl
      obtain ⟨x, x', e⟩ := turn_app a b (ds'.map twin) (some (.sh t)) x4 x5 hd (by rw [List.length_map]; omega)
      rw [loopE_nx (one_nx e), ← List.map_append]
      exact same_loop a b l (ds' ++ Com.kids d) (p + (q - 1)) _ x x' (h1.app hd.kids) (by omega) (by omega)
def fSame : Fd := ⟨2, none, runB none 6 dSame⟩
theorem rng_big {ρ : Den.Env} {N : Nat} (hN : N = 200000) : rng1 (some [.int 200000]) ρ = .ok (intsD 0 N, ρ) := by
  have e : (200000 : Int) = (N : Int) := by omega
  rw [e, rng1_int ⟨by omega, by omega⟩, Int.toNat_natCast]
/-- equal values are told to be the same -/
theorem same_run {d : D} {n : Nat} (h : Sz d n) (hn : n < 200000) : fSame.run [d, d] = .ok (.sh (.bool true), []) := by
  have hN : ∃ N : Nat, N = 200000 := ⟨_, rfl⟩
  obtain ⟨N, hN⟩ := hN
  obtain ⟨ρ', e⟩ := same_loop (.sh d) (.sh d) (intsD 0 N) [d] (n + 0) none none none (.cons h .nil) (by rw [intsD_len]; omega) (by rw [intsD_len]; omega)
  have key : dSame [some (.sh d), some (.sh d), none, none, none, none] = .ret (.sh (.bool true)) ρ' := by
    rw [dSame_eq]
    walk_at "den"
    rw [rng_big hN]
    walk_at "den"
    show (loopE (sName 3) sameTurn (intsD 0 N) (senv (.sh d) (.sh d) ([d].map twin) none none none)).bind _ = _
    rw [e]
    rfl
  have hin : initE none 0 [d, d] ++ List.replicate (6 - [d, d].length) none = [some (Slot.sh d), some (Slot.sh d), none, none, none, none] := rfl
  have hr : fSame.run = runB none 6 dSame := rfl
  rw [hr]
  have key2 : dSame (initE none 0 [d, d] ++ List.replicate (6 - [d, d].length) none) = .ret (.sh (.bool true)) ρ' := by rw [hin]; exact key
  rw [run_ret key2]
  rfl
end Com

namespace K04
open PySem PySem.Spec L2 Den
def topS (i : Nat) : Stmt := PySem.Challenge.pw_rowferry_k04_written_names.main.body.getD i (.Pass ⟨0, 0, 0, 0⟩)
/-- what the top has left -/
structure Txt (K : PySem.W.Frag) (mg : Str → Option Value) : Prop where
  b_all : mg "all" = none
  b_bool : mg "bool" = none
  b_int : mg "int" = none
  b_isinstance : mg "isinstance" = none
  b_len : mg "len" = none
  b_list : mg "list" = none
  b_range : mg "range" = none
  b_str : mg "str" = none
  b_tuple : mg "tuple" = none
  c_DIGITS : ∃ t, mg "DIGITS" = some (.str "0123456789" t)
  c_LETTERS : ∃ t, mg "LETTERS" = some (.str "abcdefghijklmnopqrstuvwxyz" t)
  c_MOST_LETTERS : ∃ t, mg "MOST_LETTERS" = some (.int 8 t)
  k_BadText : Cat K mg "BadText" [("BadText", true)]
  k_FerryError : Cat K mg "FerryError" [("BadText", true)]
  i_BadText_ValueError : IsxOk K mg "BadText" "ValueError" true
  i_BadText_BadText : IsxOk K mg "BadText" "BadText" true
section
variable {P : Program} {w : World} {K : PySem.W.Frag} {mg : Str → Option Value} {base : Heap}
abbrev sInitBadText : Stmt := clsRow (topS 2) 0
theorem okInitBadText {C f : Addr} {fd : FuncData} (Fn : Fun K "__init__" "BadText.__init__" sInitBadText f fd) (h : XcOk K C f ["line", "word"]) : FnOk P w K mg base (L2.CX P w) 1 f fd ["self", "line", "word"] (spInit C ["line", "word"]) :=
  init2 Fn ⟨rfl, rfl, rfl, by decide +kernel, rfl, by decide +kernel, by decide +kernel⟩ rfl h.o (h.n _ (by decide)) (h.n _ (by decide)) (vis_of rfl) (vis_of rfl) (vis_of rfl)
/-! ### spelled -/
abbrev sSpelled : Stmt := topS 7
theorem scSpelled : FnScope ["word", "signs", "char"] ["word", "signs"] (defScope sSpelled) := ⟨rfl, rfl, rfl, by decide +kernel, rfl, by decide +kernel, by decide +kernel⟩
def dSpelledE1 : Den.Env → Out (D × Den.Env) :=
  (dat (dBin (gIn false) (dLoc 2) (dLoc 1)))
def dSpelled : Den.Env → Res :=
  (dSeq (dIf (dNotT (tst (dChain gLe gLe (now (dC (.int 1))) (now (dat (dCB gLen (oCons (dLoc 0) oNil)))) (now (dC (.int 8))))))
    (dRet (val (dC (.bool false))))
    dSkip)
    (dRet (dCB gAll (oCons (now (dat (dLC [2] (dSeqI (dVar 0)) (sName 2) dTrue dSpelledE1))) oNil))))
def fSpelled : Fd := ⟨2, none, runB none 3 dSpelled⟩
theorem npSpelled : fSpelled.np = 2 := (rfl)
theorem ownSpelled : fSpelled.own = none := (rfl)
theorem okSpelled {f : Addr} {fd : FuncData} (Fn : Fun K "spelled" "spelled" sSpelled f fd) (T : Txt K mg)   : FnOk P w K mg base (L2.CX P w) 1 f fd ["word", "signs"] (spD K mg fSpelled) :=
  fn_den (own := none) Fn scSpelled (by intro k hk; cases hk) fun cdv A outer s H E F hr hn hp => by
    have sc := scSpelled
    have tk : Takes (cxOf (L2.CX P w) P w K mg base ["word", "signs", "char"] "spelled" (defScope sSpelled) f cdv A outer s H E) (fun cls d _ H => E cls d H) := takes_of rfl rfl rfl rfl
    let own : Option Nat := none
    exact (rss_cons (rs_if (rt_not (rt_chain opd_le opd_le (RD.now rd_int) (RD.now (RE.dat (re_callB call_lenA sem_len (by rfl) T.b_len (by decide +kernel) (rol_cons (ro_loc rfl (vis_of rfl)) rol_nil)))) (RD.now (rd_glob (v := (.int 8)) (by rfl) T.c_MOST_LETTERS.choose_spec ⟨_, rfl⟩ (.int _)))))
    (rss_one (rs_ret (RD.val rd_bl)))
    rss_nil)
    (rss_one (rs_ret (re_callB (cr_all rfl) sem_all (by rfl) T.b_all (by decide +kernel) (rol_cons (RD.now (RE.dat (re_lc (own := [("char", 2)]) (ts := [2]) rfl sc.nd (ri_seq (rd_var (hp 0 (by decide)) rfl (vis_of rfl))) (blkOk_by (N := ["word", "signs", "char"]) (sc := defScope sSpelled) (by decide +kernel)) (by intro v hv; have hv := hv; simp at hv; subst hv ; exact hp _ (by decide)) (by decide) (rgf_name (hp 2 (by decide)) (by rw [hn]; decide) (by rintro _ ⟨_, _, _, _, _, rfl⟩; exact ⟨sc.nd, rfl, locv rfl, by first | exact .inr rfl | exact .inl rfl⟩)) (fun F' h1' h2' X' hX' => by obtain ⟨s', H', C', cl', fp', rfl⟩ := hX'; have hp' : ∀ i : Nat, own ≠ some i → F'.pw i = none := fun i h => (congrFun h2' i).trans (hp i h); have hn' := h1'.trans hn; exact rts_nil) (fun F' h1' h2' X' hX' => by obtain ⟨s', H', C', cl', fp', rfl⟩ := hX'; have hp' : ∀ i : Nat, own ≠ some i → F'.pw i = none := fun i h => (congrFun h2' i).trans (hp i h); have hn' := h1'.trans hn; exact (RE.dat (re_cmp opd_in (ro_loc rfl (vis_of rfl)) (ro_loc rfl (vis_of rfl)) rfl)))))) rol_nil)))))
/-! ### is_name -/
abbrev sIsName : Stmt := topS 8
theorem scIsName : FnScope ["name"] ["name"] (defScope sIsName) := ⟨rfl, rfl, rfl, by decide +kernel, rfl, by decide +kernel, by decide +kernel⟩
def dIsName : Den.Env → Res :=
  (dRet (dAnd (dIsi "str" (dLoc 0)) (dCall fSpelled (oCons (now (dVar 0)) (oCons (now (dC (.str "abcdefghijklmnopqrstuvwxyz"))) oNil)))))
def fIsName : Fd := ⟨1, none, runB none 1 dIsName⟩
theorem npIsName : fIsName.np = 1 := (rfl)
theorem ownIsName : fIsName.own = none := (rfl)
theorem okIsName {f : Addr} {fd : FuncData} (Fn : Fun K "is_name" "is_name" sIsName f fd) (T : Txt K mg) (oSpelled : Own P w K mg base "spelled" fSpelled 1)  : FnOk P w K mg base (L2.CX P w) 2 f fd ["name"] (spD K mg fIsName) :=
  fn_den (own := none) Fn scIsName (by intro k hk; cases hk) fun cdv A outer s H E F hr hn hp => by
    have sc := scIsName
    have tk : Takes (cxOf (L2.CX P w) P w K mg base ["name"] "is_name" (defScope sIsName) f cdv A outer s H E) (fun cls d _ H => E cls d H) := takes_of rfl rfl rfl rfl
    let own : Option Nat := none
    exact (rss_one (rs_ret (re_and (re_isi (ro_loc rfl (vis_of rfl)) (by rfl) T.b_isinstance (by rfl) T.b_str PyProof.Rows.boot_str) (re_one (re_call oSpelled (hr.mono (by decide)) (by rfl) tk (rol_cons (RD.now (rd_var (hp 0 (by decide)) rfl (vis_of rfl))) (rol_cons (RD.now (rd_glob (v := (.str "abcdefghijklmnopqrstuvwxyz")) (by rfl) T.c_LETTERS.choose_spec ⟨_, rfl⟩ (.str _))) rol_nil)))))))
/-! ### is_known -/
abbrev sIsKnown : Stmt := topS 9
theorem scIsKnown : FnScope ["name"] ["name"] (defScope sIsKnown) := ⟨rfl, rfl, rfl, by decide +kernel, rfl, by decide +kernel, by decide +kernel⟩
def dIsKnown : Den.Env → Res :=
  (dRet (dAnd (dIsi "str" (dLoc 0)) (dCall fSpelled (oCons (now (dVar 0)) (oCons (now (dat (dBin gAdd (now (dC (.str "abcdefghijklmnopqrstuvwxyz"))) (now (dC (.str "0123456789")))))) oNil)))))
def fIsKnown : Fd := ⟨1, none, runB none 1 dIsKnown⟩
theorem npIsKnown : fIsKnown.np = 1 := (rfl)
theorem ownIsKnown : fIsKnown.own = none := (rfl)
theorem okIsKnown {f : Addr} {fd : FuncData} (Fn : Fun K "is_known" "is_known" sIsKnown f fd) (T : Txt K mg) (oSpelled : Own P w K mg base "spelled" fSpelled 1)  : FnOk P w K mg base (L2.CX P w) 2 f fd ["name"] (spD K mg fIsKnown) :=
  fn_den (own := none) Fn scIsKnown (by intro k hk; cases hk) fun cdv A outer s H E F hr hn hp => by
    have sc := scIsKnown
    have tk : Takes (cxOf (L2.CX P w) P w K mg base ["name"] "is_known" (defScope sIsKnown) f cdv A outer s H E) (fun cls d _ H => E cls d H) := takes_of rfl rfl rfl rfl
    let own : Option Nat := none
    exact (rss_one (rs_ret (re_and (re_isi (ro_loc rfl (vis_of rfl)) (by rfl) T.b_isinstance (by rfl) T.b_str PyProof.Rows.boot_str) (re_one (re_call oSpelled (hr.mono (by decide)) (by rfl) tk (rol_cons (RD.now (rd_var (hp 0 (by decide)) rfl (vis_of rfl))) (rol_cons (RD.now (RE.dat (re_bin opd_add (RD.now (rd_glob (v := (.str "abcdefghijklmnopqrstuvwxyz")) (by rfl) T.c_LETTERS.choose_spec ⟨_, rfl⟩ (.str _))) (RD.now (rd_glob (v := (.str "0123456789")) (by rfl) T.c_DIGITS.choose_spec ⟨_, rfl⟩ (.str _)))))) rol_nil)))))))
/-! ### write_name -/
abbrev sWriteName : Stmt := topS 10
theorem scWriteName : FnScope ["name"] ["name"] (defScope sWriteName) := ⟨rfl, rfl, rfl, by decide +kernel, rfl, by decide +kernel, by decide +kernel⟩
def dWriteName : Den.Env → Res :=
  (dSeq (dIf (tst (dIsi "str" (dLoc 0)))
    (dRet (dMov 0))
    dSkip)
    (dRet (dBin gAdd (now (dC (.str "#"))) (now (dat (dCB gStr (oCons (dLoc 0) oNil)))))))
def fWriteName : Fd := ⟨1, none, runB none 1 dWriteName⟩
theorem npWriteName : fWriteName.np = 1 := (rfl)
theorem ownWriteName : fWriteName.own = none := (rfl)
theorem okWriteName {f : Addr} {fd : FuncData} (Fn : Fun K "write_name" "write_name" sWriteName f fd) (T : Txt K mg)   : FnOk P w K mg base (L2.CX P w) 1 f fd ["name"] (spD K mg fWriteName) :=
  fn_den (own := none) Fn scWriteName (by intro k hk; cases hk) fun cdv A outer s H E F hr hn hp => by
    have sc := scWriteName
    have tk : Takes (cxOf (L2.CX P w) P w K mg base ["name"] "write_name" (defScope sWriteName) f cdv A outer s H E) (fun cls d _ H => E cls d H) := takes_of rfl rfl rfl rfl
    let own : Option Nat := none
    exact (rss_cons (rs_if (rt_val (re_isi (ro_loc rfl (vis_of rfl)) (by rfl) T.b_isinstance (by rfl) T.b_str PyProof.Rows.boot_str))
    (rss_one (rs_ret (re_mov (hp 0 (by decide)) rfl (vis_of rfl))))
    rss_nil)
    (rss_one (rs_ret (re_bin opd_add (RD.now rd_str) (RD.now (RE.dat (re_callTy call_str_int sem_str (by rfl) T.b_str (by decide +kernel) (rol_cons (ro_loc rfl (vis_of rfl)) rol_nil))))))))
/-! ### write_path -/
abbrev sWritePath : Stmt := topS 11
theorem scWritePath : FnScope ["path"] ["path"] (defScope sWritePath) := ⟨rfl, rfl, rfl, by decide +kernel, rfl, by decide +kernel, by decide +kernel⟩
def dWritePath : Den.Env → Res :=
  (dSeq (dIf (tst (dBin gEq (dLoc 0) (now (dTup []))))
    (dRet (val (dC (.str "."))))
    dSkip)
    (dRet (dM1 gJoin (dC (.str ".")) (dLoc 0))))
def fWritePath : Fd := ⟨1, none, runB none 1 dWritePath⟩
theorem npWritePath : fWritePath.np = 1 := (rfl)
theorem ownWritePath : fWritePath.own = none := (rfl)
theorem okWritePath {f : Addr} {fd : FuncData} (Fn : Fun K "write_path" "write_path" sWritePath f fd) (T : Txt K mg)   : FnOk P w K mg base (L2.CX P w) 1 f fd ["path"] (spD K mg fWritePath) :=
  fn_den (own := none) Fn scWritePath (by intro k hk; cases hk) fun cdv A outer s H E F hr hn hp => by
    have sc := scWritePath
    have tk : Takes (cxOf (L2.CX P w) P w K mg base ["path"] "write_path" (defScope sWritePath) f cdv A outer s H E) (fun cls d _ H => E cls d H) := takes_of rfl rfl rfl rfl
    let own : Option Nat := none
    exact (rss_cons (rs_if (rt_cmp (opd_eq hr.units) (ro_loc rfl (vis_of rfl)) (RD.now (rd_tup rl_nil)) (nomark _))
    (rss_one (rs_ret (RD.val rd_str)))
    rss_nil)
    (rss_one (rs_ret (re_m1 PySem.F.slot_str_join PySem.F.type_str_join mt_join sem_join rd_str (ro_loc rfl (vis_of rfl))))))
/-! ### read_name -/
abbrev sReadName : Stmt := topS 12
theorem scReadName : FnScope ["word", "line", "place", "digits", "char"] ["word", "line", "place"] (defScope sReadName) := ⟨rfl, rfl, rfl, by decide +kernel, rfl, by decide +kernel, by decide +kernel⟩
def dReadNameE1 : Den.Env → Out (D × Den.Env) :=
  (dat (dBin (gIn false) (dLoc 4) (now (dC (.str "0123456789")))))
def dReadName : Den.Env → Res :=
  (dSeq (dIf (tst (dCall fIsKnown (oCons (now (dVar 0)) oNil)))
    (dRet (dMov 0))
    dSkip)
    (dSeq (dAsg 3 (dSl (dLoc 0) (ptSome (dC (.int 1))) ptNone))
    (dSeq (dIf (dOrT (tst (dBin gNe (now (dat (dSl (dLoc 0) ptNone (ptSome (dC (.int 1)))))) (now (dC (.str "#"))))) (dNotT (tst (dChain gLe gLe (now (dC (.int 1))) (now (dat (dCB gLen (oCons (dLoc 3) oNil)))) (now (dC (.int 4)))))))
    (dRaise "BadText" ["line", "word"] (dList [(dVar 1), (dVar 2)]))
    dSkip)
    (dSeq (dIf (dNotT (tst (dCB gAll (oCons (now (dat (dLC [4] (dSeqI (dVar 3)) (sName 4) dTrue dReadNameE1))) oNil))))
    (dRaise "BadText" ["line", "word"] (dList [(dVar 1), (dVar 2)]))
    dSkip)
    (dSeq (dIf (dAndT (tst (dBin gEq (now (dat (dIdx (dLoc 3) (now (dC (.int 0)))))) (now (dC (.str "0"))))) (tst (dBin gNe (dLoc 3) (now (dC (.str "0"))))))
    (dRaise "BadText" ["line", "word"] (dList [(dVar 1), (dVar 2)]))
    dSkip)
    (dRet (dCB gIntS (oCons (dLoc 3) oNil))))))))
def fReadName : Fd := ⟨3, none, runB none 5 dReadName⟩
theorem npReadName : fReadName.np = 3 := (rfl)
theorem ownReadName : fReadName.own = none := (rfl)
theorem okReadName {f : Addr} {fd : FuncData} (Fn : Fun K "read_name" "read_name" sReadName f fd) (T : Txt K mg) (oIsKnown : Own P w K mg base "is_known" fIsKnown 2) (xBadText : XOwn P w K mg base "BadText" ["line", "word"] 1) : FnOk P w K mg base (L2.CX P w) 3 f fd ["word", "line", "place"] (spD K mg fReadName) :=
  fn_den (own := none) Fn scReadName (by intro k hk; cases hk) fun cdv A outer s H E F hr hn hp => by
    have sc := scReadName
    have tk : Takes (cxOf (L2.CX P w) P w K mg base ["word", "line", "place", "digits", "char"] "read_name" (defScope sReadName) f cdv A outer s H E) (fun cls d _ H => E cls d H) := takes_of rfl rfl rfl rfl
    let own : Option Nat := none
    exact (rss_cons (rs_if (rt_val (re_call oIsKnown (hr.mono (by decide)) (by rfl) tk (rol_cons (RD.now (rd_var (hp 0 (by decide)) rfl (vis_of rfl))) rol_nil)))
    (rss_one (rs_ret (re_mov (hp 0 (by decide)) rfl (vis_of rfl))))
    rss_nil)
    (rss_cons (rs_asg (hp 3 (by decide)) (by rw [hn]; decide) sc.nd rfl (locv rfl) (re_sl (ro_loc rfl (vis_of rfl)) (rpt_some rd_int) rpt_none))
    (rss_cons (rs_if (RW.rt (rw_or (rt_cmp (opd_ne hr.units) (RD.now (RE.dat (re_sl (ro_loc rfl (vis_of rfl)) rpt_none (rpt_some rd_int)))) (RD.now rd_str) (nomark _)) (rw_or1 (rt_not (rt_chain opd_le opd_le (RD.now rd_int) (RD.now (RE.dat (re_callB call_lenA sem_len (by rfl) T.b_len (by decide +kernel) (rol_cons (ro_loc rfl (vis_of rfl)) rol_nil)))) (RD.now rd_int))))))
    (rss_one (rs_raise xBadText rfl tk (hr.mono (by decide)) (by rfl) (rl_cons (rd_var (hp 1 (by decide)) rfl (vis_of rfl)) (rl_cons (rd_var (hp 2 (by decide)) rfl (vis_of rfl)) rl_nil))))
    rss_nil)
    (rss_cons (rs_if (rt_not (rt_val (re_callB (cr_all rfl) sem_all (by rfl) T.b_all (by decide +kernel) (rol_cons (RD.now (RE.dat (re_lc (own := [("char", 4)]) (ts := [4]) rfl sc.nd (ri_seq (rd_var (hp 3 (by decide)) rfl (vis_of rfl))) (blkOk_by (N := ["word", "line", "place", "digits", "char"]) (sc := defScope sReadName) (by decide +kernel)) (by intro v hv; have hv := hv; simp at hv; subst hv ; exact hp _ (by decide)) (by decide) (rgf_name (hp 4 (by decide)) (by rw [hn]; decide) (by rintro _ ⟨_, _, _, _, _, rfl⟩; exact ⟨sc.nd, rfl, locv rfl, by first | exact .inr rfl | exact .inl rfl⟩)) (fun F' h1' h2' X' hX' => by obtain ⟨s', H', C', cl', fp', rfl⟩ := hX'; have hp' : ∀ i : Nat, own ≠ some i → F'.pw i = none := fun i h => (congrFun h2' i).trans (hp i h); have hn' := h1'.trans hn; exact rts_nil) (fun F' h1' h2' X' hX' => by obtain ⟨s', H', C', cl', fp', rfl⟩ := hX'; have hp' : ∀ i : Nat, own ≠ some i → F'.pw i = none := fun i h => (congrFun h2' i).trans (hp i h); have hn' := h1'.trans hn; exact (RE.dat (re_cmp opd_in (ro_loc rfl (vis_of rfl)) (RD.now (rd_glob (v := (.str "0123456789")) (by rfl) T.c_DIGITS.choose_spec ⟨_, rfl⟩ (.str _))) rfl)))))) rol_nil))))
    (rss_one (rs_raise xBadText rfl tk (hr.mono (by decide)) (by rfl) (rl_cons (rd_var (hp 1 (by decide)) rfl (vis_of rfl)) (rl_cons (rd_var (hp 2 (by decide)) rfl (vis_of rfl)) rl_nil))))
    rss_nil)
    (rss_cons (rs_if (RW.rt (rw_and (rt_cmp (opd_eq hr.units) (RD.now (RE.dat (re_idx (ro_loc rfl (vis_of rfl)) (RD.now rd_int) (fun _ _ => rfl)))) (RD.now rd_str) (nomark _)) (rw_and1 (rt_cmp (opd_ne hr.units) (ro_loc rfl (vis_of rfl)) (RD.now rd_str) (nomark _)))))
    (rss_one (rs_raise xBadText rfl tk (hr.mono (by decide)) (by rfl) (rl_cons (rd_var (hp 1 (by decide)) rfl (vis_of rfl)) (rl_cons (rd_var (hp 2 (by decide)) rfl (vis_of rfl)) rl_nil))))
    rss_nil)
    (rss_one (rs_ret (re_callTy call_intS sem_intS (by rfl) T.b_int (by decide +kernel) (rol_cons (ro_loc rfl (vis_of rfl)) rol_nil)))))))))
/-! ### read_path -/
abbrev sReadPath : Stmt := topS 13
theorem scReadPath : FnScope ["word", "line", "place", "parts", "part"] ["word", "line", "place"] (defScope sReadPath) := ⟨rfl, rfl, rfl, by decide +kernel, rfl, by decide +kernel, by decide +kernel⟩
def dReadPathE1 : Den.Env → Out (D × Den.Env) :=
  (dat (dCall fIsName (oCons (now (dVar 4)) oNil)))
def dReadPath : Den.Env → Res :=
  (dSeq (dIf (tst (dBin gEq (dLoc 0) (now (dC (.str ".")))))
    (dRet (val (dTup [])))
    dSkip)
    (dSeq (dAsg 3 (dM1 gSplit (dVar 0) (now (dC (.str ".")))))
    (dSeq (dIf (dNotT (tst (dCB gAll (oCons (now (dat (dLC [4] (dSeqI (dVar 3)) (sName 4) dTrue dReadPathE1))) oNil))))
    (dRaise "BadText" ["line", "word"] (dList [(dVar 1), (dVar 2)]))
    dSkip)
    (dRet (dCB gTuple (oCons (dLoc 3) oNil))))))
def fReadPath : Fd := ⟨3, none, runB none 5 dReadPath⟩
theorem npReadPath : fReadPath.np = 3 := (rfl)
theorem ownReadPath : fReadPath.own = none := (rfl)
theorem okReadPath {f : Addr} {fd : FuncData} (Fn : Fun K "read_path" "read_path" sReadPath f fd) (T : Txt K mg) (oIsName : Own P w K mg base "is_name" fIsName 2) (xBadText : XOwn P w K mg base "BadText" ["line", "word"] 1) : FnOk P w K mg base (L2.CX P w) 3 f fd ["word", "line", "place"] (spD K mg fReadPath) :=
  fn_den (own := none) Fn scReadPath (by intro k hk; cases hk) fun cdv A outer s H E F hr hn hp => by
    have sc := scReadPath
    have tk : Takes (cxOf (L2.CX P w) P w K mg base ["word", "line", "place", "parts", "part"] "read_path" (defScope sReadPath) f cdv A outer s H E) (fun cls d _ H => E cls d H) := takes_of rfl rfl rfl rfl
    let own : Option Nat := none
    exact (rss_cons (rs_if (rt_cmp (opd_eq hr.units) (ro_loc rfl (vis_of rfl)) (RD.now rd_str) (nomark _))
    (rss_one (rs_ret (RD.val (rd_tup rl_nil))))
    rss_nil)
    (rss_cons (rs_asg (hp 3 (by decide)) (by rw [hn]; decide) sc.nd rfl (locv rfl) (re_m1 PySem.F.slot_str_split PySem.F.type_str_split mt_split sem_split (rd_var (hp 0 (by decide)) rfl (vis_of rfl)) (RD.now rd_str)))
    (rss_cons (rs_if (rt_not (rt_val (re_callB (cr_all rfl) sem_all (by rfl) T.b_all (by decide +kernel) (rol_cons (RD.now (RE.dat (re_lc (own := [("part", 4)]) (ts := [4]) rfl sc.nd (ri_seq (rd_var (hp 3 (by decide)) rfl (vis_of rfl))) (blkOk_by (N := ["word", "line", "place", "parts", "part"]) (sc := defScope sReadPath) (by decide +kernel)) (by intro v hv; have hv := hv; simp at hv; subst hv ; exact hp _ (by decide)) (by decide) (rgf_name (hp 4 (by decide)) (by rw [hn]; decide) (by rintro _ ⟨_, _, _, _, _, rfl⟩; exact ⟨sc.nd, rfl, locv rfl, by first | exact .inr rfl | exact .inl rfl⟩)) (fun F' h1' h2' X' hX' => by obtain ⟨s', H', C', cl', fp', rfl⟩ := hX'; have hp' : ∀ i : Nat, own ≠ some i → F'.pw i = none := fun i h => (congrFun h2' i).trans (hp i h); have hn' := h1'.trans hn; exact rts_nil) (fun F' h1' h2' X' hX' => by obtain ⟨s', H', C', cl', fp', rfl⟩ := hX'; have hp' : ∀ i : Nat, own ≠ some i → F'.pw i = none := fun i h => (congrFun h2' i).trans (hp i h); have hn' := h1'.trans hn; exact (RE.dat (re_call oIsName (hr.mono (by decide)) (by rfl) takes0 (rol_cons (RD.now (rd_var (hp' 4 (by decide)) rfl (vis_of rfl))) rol_nil))))))) rol_nil))))
    (rss_one (rs_raise xBadText rfl tk (hr.mono (by decide)) (by rfl) (rl_cons (rd_var (hp 1 (by decide)) rfl (vis_of rfl)) (rl_cons (rd_var (hp 2 (by decide)) rfl (vis_of rfl)) rl_nil))))
    rss_nil)
    (rss_one (rs_ret (re_callTy call_tuple_of sem_tuple (by rfl) T.b_tuple (by decide +kernel) (rol_cons (ro_loc rfl (vis_of rfl)) rol_nil)))))))
/-! ### _law_deck -/
abbrev sLawDeck : Stmt := topS 15
theorem scLawDeck : FnScope ["script", "cells", "seed", "cell"] ["script"] (defScope sLawDeck) := ⟨rfl, rfl, rfl, by decide +kernel, rfl, by decide +kernel, by decide +kernel⟩
def dLawDeckE1 : Den.Env → Out (D × Den.Env) :=
  (dat (dBin gMod (now (dat (dCB gIntS (oCons (dLoc 3) oNil)))) (now (dat (dBin gPow (now (dC (.int 10))) (now (dC (.int 40))))))))
def dLawDeckB1 : Den.Env → Res :=
  (dAsg 2 (dBin gMod (now (dat (dBin gAdd (now (dat (dBin gMul (dLoc 2) (now (dC (.int 48271)))))) (dLoc 3)))) (now (dC (.int 2147483647)))))
def dLawDeck : Den.Env → Res :=
  (dSeq (dAsg 1 (dLC [3] (dSeqI (dat (dSl (dLoc 0) ptNone (ptSome (dC (.int 63)))))) (sName 3) dTrue dLawDeckE1))
    (dSeq (dAsg 2 (val (dC (.int 7))))
    (dSeq (dFor (dSeqI (dVar 1)) (sName 3)
    dLawDeckB1)
    (dRet (dLst [(dC (.int 0)), (dC (.int 0)), (dVar 2), (dVar 1)])))))
def fLawDeck : Fd := ⟨1, none, runB none 4 dLawDeck⟩
theorem npLawDeck : fLawDeck.np = 1 := (rfl)
theorem ownLawDeck : fLawDeck.own = none := (rfl)
theorem okLawDeck {f : Addr} {fd : FuncData} (Fn : Fun K "_law_deck" "_law_deck" sLawDeck f fd) (T : Txt K mg)   : FnOk P w K mg base (L2.CX P w) 1 f fd ["script"] (spD K mg fLawDeck) :=
  fn_den (own := none) Fn scLawDeck (by intro k hk; cases hk) fun cdv A outer s H E F hr hn hp => by
    have sc := scLawDeck
    have tk : Takes (cxOf (L2.CX P w) P w K mg base ["script", "cells", "seed", "cell"] "_law_deck" (defScope sLawDeck) f cdv A outer s H E) (fun cls d _ H => E cls d H) := takes_of rfl rfl rfl rfl
    let own : Option Nat := none
    exact (rss_cons (rs_setLc (own := [("cell", 3)]) (ts := [3]) (hp 1 (by decide)) (by rw [hn]; decide) rfl sc.nd rfl rfl (sw_true rfl rfl rfl (by decide +kernel)) (ri_seq (RE.dat (re_sl (ro_loc rfl (vis_of rfl)) rpt_none (rpt_some rd_int)))) (blkOk_by (N := ["script", "cells", "seed", "cell"]) (sc := defScope sLawDeck) (by decide +kernel)) (by intro v hv; have hv := hv; simp at hv; subst hv ; exact hp _ (by decide)) (by decide) (rgf_name (hp 3 (by decide)) (by rw [hn]; decide) (by rintro _ ⟨_, _, _, _, _, rfl⟩; exact ⟨sc.nd, rfl, locv rfl, by first | exact .inr rfl | exact .inl rfl⟩)) (fun F' h1' h2' X' hX' => by obtain ⟨s', H', C', cl', fp', rfl⟩ := hX'; have hp' : ∀ i : Nat, own ≠ some i → F'.pw i = none := fun i h => (congrFun h2' i).trans (hp i h); have hn' := h1'.trans hn; exact rts_nil) (fun F' h1' h2' X' hX' => by obtain ⟨s', H', C', cl', fp', rfl⟩ := hX'; have hp' : ∀ i : Nat, own ≠ some i → F'.pw i = none := fun i h => (congrFun h2' i).trans (hp i h); have hn' := h1'.trans hn; exact (RE.dat (re_bin opd_mod (RD.now (RE.dat (re_callTy call_intS sem_intS (by rfl) T.b_int (by decide +kernel) (rol_cons (ro_loc rfl (vis_of rfl)) rol_nil)))) (RD.now (RE.dat (re_bin opd_pow (RD.now rd_int) (RD.now rd_int))))))))
    (rss_cons (rs_asg (hp 2 (by decide)) (by rw [hn]; decide) sc.nd rfl (locv rfl) (RD.val rd_int))
    (rss_cons (rs_for (passes_of rfl) rfl (ri_seq (rd_var (hp 1 (by decide)) rfl (vis_of rfl))) (rg_name (hp 3 (by decide)) (by rw [hn]; decide) sc.nd rfl (locv rfl))
    (rss_one (rs_asg (hp 2 (by decide)) (by rw [hn]; decide) sc.nd rfl (locv rfl) (re_bin opd_mod (RD.now (RE.dat (re_bin opd_add (RD.now (RE.dat (re_bin opd_mul (ro_loc rfl (vis_of rfl)) (RD.now rd_int)))) (ro_loc rfl (vis_of rfl))))) (RD.now rd_int)))))
    (rss_one (rs_ret (re_lst (rl_cons rd_int (rl_cons rd_int (rl_cons (rd_var (hp 2 (by decide)) rfl (vis_of rfl)) (rl_cons (rd_var (hp 1 (by decide)) rfl (vis_of rfl)) rl_nil))))))))))
/-! ### _law_draw -/
abbrev sLawDraw : Stmt := topS 16
theorem scLawDraw : FnScope ["deck", "many", "number", "loaded"] ["deck", "many"] (defScope sLawDraw) := ⟨rfl, rfl, rfl, by decide +kernel, rfl, by decide +kernel, by decide +kernel⟩
def dLawDraw : Den.Env → Res :=
  (dSeq (dAsg 2 (dIdx (dLoc 0) (now (dC (.int 1)))))
    (dSeq (dAsg 3 (dBin gGt (dLoc 2) (now (dC (.int 0)))))
    (dSeq (dIf (dAndT (dNotT (tst (val (dVar 3)))) (tst (dBin gLt (now (dat (dIdx (dLoc 0) (now (dC (.int 0)))))) (now (dat (dCB gLen (oCons (now (dat (dIdx (dLoc 0) (now (dC (.int 3)))))) oNil)))))))
    (dSeq (dAsg 2 (dIdx (now (dat (dIdx (dLoc 0) (now (dC (.int 3)))))) (now (dat (dIdx (dLoc 0) (now (dC (.int 0))))))))
    (dSeq (dSet 0 (dC (.int 0)) (dat (dBin gAdd (now (dat (dIdx (dLoc 0) (now (dC (.int 0)))))) (now (dC (.int 1))))))
    (dAsg 3 (val (dC (.bool true))))))
    dSkip)
    (dSeq (dIf (tst (val (dVar 3)))
    (dSeq (dSet 0 (dC (.int 1)) (dat (dBin gDiv (dLoc 2) (dLoc 1))))
    (dRet (dBin gMod (now (dat (dCB gIntS (oCons (dLoc 2) oNil)))) (dLoc 1))))
    dSkip)
    (dSeq (dAsg 2 (dBin gMod (now (dat (dCB gIntS (oCons (now (dat (dBin gAdd (now (dat (dBin gMul (now (dat (dIdx (dLoc 0) (now (dC (.int 2)))))) (now (dC (.int 1103515245)))))) (now (dC (.int 12345)))))) oNil)))) (now (dC (.int 2147483648)))))
    (dSeq (dSet 0 (dC (.int 2)) (dVar 2))
    (dRet (dBin gMod (now (dat (dCB gIntS (oCons (now (dat (dBin gDiv (dLoc 2) (now (dC (.int 65536)))))) oNil)))) (dLoc 1)))))))))
def fLawDraw : Fd := ⟨2, (some 0), runB (some 0) 4 dLawDraw⟩
theorem npLawDraw : fLawDraw.np = 2 := (rfl)
theorem ownLawDraw : fLawDraw.own = (some 0) := (rfl)
theorem okLawDraw {f : Addr} {fd : FuncData} (Fn : Fun K "_law_draw" "_law_draw" sLawDraw f fd) (T : Txt K mg)   : FnOk P w K mg base (L2.CX P w) 1 f fd ["deck", "many"] (spD K mg fLawDraw) :=
  fn_den (own := (some 0)) Fn scLawDraw (by intro k hk; cases hk; decide) fun cdv A outer s H E F hr hn hp => by
    have sc := scLawDraw
    have tk : Takes (cxOf (L2.CX P w) P w K mg base ["deck", "many", "number", "loaded"] "_law_draw" (defScope sLawDraw) f cdv A outer s H E) (fun cls d _ H => E cls d H) := takes_of rfl rfl rfl rfl
    let own : Option Nat := (some 0)
    exact (rss_cons (rs_asg (hp 2 (by decide)) (by rw [hn]; decide) sc.nd rfl (locv rfl) (re_idx (ro_loc rfl (vis_of rfl)) (RD.now rd_int) (fun _ _ => rfl)))
    (rss_cons (rs_asg (hp 3 (by decide)) (by rw [hn]; decide) sc.nd rfl (locv rfl) (re_cmp opd_gt (ro_loc rfl (vis_of rfl)) (RD.now rd_int) (nomark _)))
    (rss_cons (rs_if (RW.rt (rw_and (rt_not (rt_val (RD.val (rd_var (hp 3 (by decide)) rfl (vis_of rfl))))) (rw_and1 (rt_cmp opd_lt (RD.now (RE.dat (re_idx (ro_loc rfl (vis_of rfl)) (RD.now rd_int) (fun _ _ => rfl)))) (RD.now (RE.dat (re_callB call_lenA sem_len (by rfl) T.b_len (by decide +kernel) (rol_cons (RD.now (RE.dat (re_idx (ro_loc rfl (vis_of rfl)) (RD.now rd_int) (fun _ _ => rfl)))) rol_nil)))) (nomark _)))))
    (rss_cons (rs_asg (hp 2 (by decide)) (by rw [hn]; decide) sc.nd rfl (locv rfl) (re_idx (RD.now (RE.dat (re_idx (ro_loc rfl (vis_of rfl)) (RD.now rd_int) (fun _ _ => rfl)))) (RD.now (RE.dat (re_idx (ro_loc rfl (vis_of rfl)) (RD.now rd_int) (fun _ _ => rfl)))) (fun _ _ => rfl)))
    (rss_cons (rs_set (loc_of rfl (vis_of rfl)) rd_int (RE.dat (re_bin opd_add (RD.now (RE.dat (re_idx (ro_loc rfl (vis_of rfl)) (RD.now rd_int) (fun _ _ => rfl)))) (RD.now rd_int))))
    (rss_one (rs_asg (hp 3 (by decide)) (by rw [hn]; decide) sc.nd rfl (locv rfl) (RD.val rd_bl)))))
    rss_nil)
    (rss_cons (rs_if (rt_val (RD.val (rd_var (hp 3 (by decide)) rfl (vis_of rfl))))
    (rss_cons (rs_set (loc_of rfl (vis_of rfl)) rd_int (RE.dat (re_bin opd_div (ro_loc rfl (vis_of rfl)) (ro_loc rfl (vis_of rfl)))))
    (rss_one (rs_ret (re_bin opd_mod (RD.now (RE.dat (re_callTy call_intS sem_intS (by rfl) T.b_int (by decide +kernel) (rol_cons (ro_loc rfl (vis_of rfl)) rol_nil)))) (ro_loc rfl (vis_of rfl))))))
    rss_nil)
    (rss_cons (rs_asg (hp 2 (by decide)) (by rw [hn]; decide) sc.nd rfl (locv rfl) (re_bin opd_mod (RD.now (RE.dat (re_callTy call_intS sem_intS (by rfl) T.b_int (by decide +kernel) (rol_cons (RD.now (RE.dat (re_bin opd_add (RD.now (RE.dat (re_bin opd_mul (RD.now (RE.dat (re_idx (ro_loc rfl (vis_of rfl)) (RD.now rd_int) (fun _ _ => rfl)))) (RD.now rd_int)))) (RD.now rd_int)))) rol_nil)))) (RD.now rd_int)))
    (rss_cons (rs_set (loc_of rfl (vis_of rfl)) rd_int (rd_var (hp 2 (by decide)) rfl (vis_of rfl)))
    (rss_one (rs_ret (re_bin opd_mod (RD.now (RE.dat (re_callTy call_intS sem_intS (by rfl) T.b_int (by decide +kernel) (rol_cons (RD.now (RE.dat (re_bin opd_div (ro_loc rfl (vis_of rfl)) (RD.now rd_int)))) rol_nil)))) (ro_loc rfl (vis_of rfl)))))))))))
/-! ### _law_word -/
abbrev sLawWord : Stmt := topS 17
theorem scLawWord : FnScope ["deck", "used", "letters", "kind", "size", "word", "k", "pairs", "pair"] ["deck", "used"] (defScope sLawWord) := ⟨rfl, rfl, rfl, by decide +kernel, rfl, by decide +kernel, by decide +kernel⟩
def dLawWordB1 : Den.Env → Res :=
  (dAsg 5 (dBin gAdd (dLoc 5) (now (dat (dIdx (dLoc 2) (now (dat (dCall fLawDraw (oCons (dLoc 0) (oCons (now (dat (dIdx (now (dat (dLst [(dC (.int 4)), (dC (.int 26)), (dC (.int 26)), (dC (.int 26))]))) (dLoc 3)))) oNil))))))))))
def dLawWordE1 : Den.Env → Out (D × Den.Env) :=
  (dat (dBin gAdd (now (dat (dIdx (dLoc 2) (now (dat (dBin gDiv (dLoc 6) (now (dC (.int 26))))))))) (now (dat (dIdx (dLoc 2) (now (dat (dBin gMod (dLoc 6) (now (dC (.int 26)))))))))))
def dLawWordE2 : Den.Env → Out (D × Den.Env) :=
  (dVar 8)
def dLawWordT1 : Den.Env → Out (Bool × Den.Env) :=
  (tst (dBin (gIn true) (dLoc 8) (dLoc 1)))
def dLawWord : Den.Env → Res :=
  (dSeq (dAsg 2 (val (dC (.str "abcdefghijklmnopqrstuvwxyz"))))
    (dSeq (dAsg 3 (dCall fLawDraw (oCons (dLoc 0) (oCons (now (dC (.int 4))) oNil))))
    (dSeq (dAsg 4 (dIdx (now (dat (dLst [(dC (.int 1)), (dC (.int 1)), (dC (.int 2)), (dat (dBin gAdd (now (dC (.int 1))) (now (dat (dCall fLawDraw (oCons (dLoc 0) (oCons (now (dC (.int 8))) oNil)))))))]))) (dLoc 3)))
    (dSeq (dAsg 5 (val (dC (.str ""))))
    (dSeq (dFor (dRange1 (oCons (dLoc 4) oNil)) (sName 6)
    dLawWordB1)
    (dSeq (dIf (tst (dBin (gIn true) (dLoc 5) (dLoc 1)))
    (dRet (dMov 5))
    dSkip)
    (dSeq (dAsg 7 (dLC [6] (dRange1 (oCons (now (dC (.int 676))) oNil)) (sName 6) dTrue dLawWordE1))
    (dRet (dIdx (now (dat (dLC [8] (dSeqI (dVar 7)) (sName 8) dLawWordT1 dLawWordE2))) (now (dC (.int 0))))))))))))
def fLawWord : Fd := ⟨2, (some 0), runB (some 0) 9 dLawWord⟩
theorem npLawWord : fLawWord.np = 2 := (rfl)
theorem ownLawWord : fLawWord.own = (some 0) := (rfl)
theorem okLawWord {f : Addr} {fd : FuncData} (Fn : Fun K "_law_word" "_law_word" sLawWord f fd) (T : Txt K mg) (oLawDraw : Own P w K mg base "_law_draw" fLawDraw 1)  : FnOk P w K mg base (L2.CX P w) 2 f fd ["deck", "used"] (spD K mg fLawWord) :=
  fn_den (own := (some 0)) Fn scLawWord (by intro k hk; cases hk; decide) fun cdv A outer s H E F hr hn hp => by
    have sc := scLawWord
    have tk : Takes (cxOf (L2.CX P w) P w K mg base ["deck", "used", "letters", "kind", "size", "word", "k", "pairs", "pair"] "_law_word" (defScope sLawWord) f cdv A outer s H E) (fun cls d _ H => E cls d H) := takes_of rfl rfl rfl rfl
    let own : Option Nat := (some 0)
    exact (rss_cons (rs_asg (hp 2 (by decide)) (by rw [hn]; decide) sc.nd rfl (locv rfl) (RD.val rd_str))
    (rss_cons (rs_asg (hp 3 (by decide)) (by rw [hn]; decide) sc.nd rfl (locv rfl) (re_call oLawDraw (hr.mono (by decide)) (by rfl) tk (rol_cons (ro_loc rfl (vis_of rfl)) (rol_cons (RD.now rd_int) rol_nil))))
    (rss_cons (rs_asg (hp 4 (by decide)) (by rw [hn]; decide) sc.nd rfl (locv rfl) (re_idx (RD.now (RE.dat (re_lst (rl_cons rd_int (rl_cons rd_int (rl_cons rd_int (rl_cons (RE.dat (re_bin opd_add (RD.now rd_int) (RD.now (RE.dat (re_call oLawDraw (hr.mono (by decide)) (by rfl) tk (rol_cons (ro_loc rfl (vis_of rfl)) (rol_cons (RD.now rd_int) rol_nil))))))) rl_nil))))))) (ro_loc rfl (vis_of rfl)) (fun _ _ => rfl)))
    (rss_cons (rs_asg (hp 5 (by decide)) (by rw [hn]; decide) sc.nd rfl (locv rfl) (RD.val rd_str))
    (rss_cons (rs_for (passes_of rfl) rfl (ri_range1 (by rfl) T.b_range (rol_cons (ro_loc rfl (vis_of rfl)) rol_nil)) (rg_name (hp 6 (by decide)) (by rw [hn]; decide) sc.nd rfl (locv rfl))
    (rss_one (rs_asg (hp 5 (by decide)) (by rw [hn]; decide) sc.nd rfl (locv rfl) (re_bin opd_add (ro_loc rfl (vis_of rfl)) (RD.now (RE.dat (re_idx (ro_loc rfl (vis_of rfl)) (RD.now (RE.dat (re_call oLawDraw (hr.mono (by decide)) (by rfl) tk (rol_cons (ro_loc rfl (vis_of rfl)) (rol_cons (RD.now (RE.dat (re_idx (RD.now (RE.dat (re_lst (rl_cons rd_int (rl_cons rd_int (rl_cons rd_int (rl_cons rd_int rl_nil))))))) (ro_loc rfl (vis_of rfl)) (fun _ _ => rfl)))) rol_nil))))) (fun _ _ => rfl))))))))
    (rss_cons (rs_if (rt_cmp opd_notin (ro_loc rfl (vis_of rfl)) (ro_loc rfl (vis_of rfl)) rfl)
    (rss_one (rs_ret (re_mov (hp 5 (by decide)) rfl (vis_of rfl))))
    rss_nil)
    (rss_cons (rs_setLc (own := [("k", 6)]) (ts := [6]) (hp 7 (by decide)) (by rw [hn]; decide) rfl sc.nd rfl rfl (sw_true rfl rfl rfl (by decide +kernel)) (ri_range1 (by rfl) T.b_range (rol_cons (RD.now rd_int) rol_nil)) (blkOk_by (N := ["deck", "used", "letters", "kind", "size", "word", "k", "pairs", "pair"]) (sc := defScope sLawWord) (by decide +kernel)) (by intro v hv; have hv := hv; simp at hv; subst hv ; exact hp _ (by decide)) (by decide) (rgf_name (hp 6 (by decide)) (by rw [hn]; decide) (by rintro _ ⟨_, _, _, _, _, rfl⟩; exact ⟨sc.nd, rfl, locv rfl, by first | exact .inr rfl | exact .inl rfl⟩)) (fun F' h1' h2' X' hX' => by obtain ⟨s', H', C', cl', fp', rfl⟩ := hX'; have hp' : ∀ i : Nat, own ≠ some i → F'.pw i = none := fun i h => (congrFun h2' i).trans (hp i h); have hn' := h1'.trans hn; exact rts_nil) (fun F' h1' h2' X' hX' => by obtain ⟨s', H', C', cl', fp', rfl⟩ := hX'; have hp' : ∀ i : Nat, own ≠ some i → F'.pw i = none := fun i h => (congrFun h2' i).trans (hp i h); have hn' := h1'.trans hn; exact (RE.dat (re_bin opd_add (RD.now (RE.dat (re_idx (ro_loc rfl (vis_of rfl)) (RD.now (RE.dat (re_bin opd_div (ro_loc rfl (vis_of rfl)) (RD.now rd_int)))) (fun _ _ => rfl)))) (RD.now (RE.dat (re_idx (ro_loc rfl (vis_of rfl)) (RD.now (RE.dat (re_bin opd_mod (ro_loc rfl (vis_of rfl)) (RD.now rd_int)))) (fun _ _ => rfl))))))))
    (rss_one (rs_ret (re_idx (RD.now (RE.dat (re_lc (own := [("pair", 8)]) (ts := [8]) rfl sc.nd (ri_seq (rd_var (hp 7 (by decide)) rfl (vis_of rfl))) (blkOk_by (N := ["deck", "used", "letters", "kind", "size", "word", "k", "pairs", "pair"]) (sc := defScope sLawWord) (by decide +kernel)) (by intro v hv; have hv := hv; simp at hv; subst hv ; exact hp _ (by decide)) (by decide) (rgf_name (hp 8 (by decide)) (by rw [hn]; decide) (by rintro _ ⟨_, _, _, _, _, rfl⟩; exact ⟨sc.nd, rfl, locv rfl, by first | exact .inr rfl | exact .inl rfl⟩)) (fun F' h1' h2' X' hX' => by obtain ⟨s', H', C', cl', fp', rfl⟩ := hX'; have hp' : ∀ i : Nat, own ≠ some i → F'.pw i = none := fun i h => (congrFun h2' i).trans (hp i h); have hn' := h1'.trans hn; exact (rts_one (rt_cmp opd_notin (ro_loc rfl (vis_of rfl)) (ro_loc rfl (vis_of rfl)) rfl))) (fun F' h1' h2' X' hX' => by obtain ⟨s', H', C', cl', fp', rfl⟩ := hX'; have hp' : ∀ i : Nat, own ≠ some i → F'.pw i = none := fun i h => (congrFun h2' i).trans (hp i h); have hn' := h1'.trans hn; exact (rd_var (hp' 8 (by decide)) rfl (vis_of rfl)))))) (RD.now rd_int) (fun _ _ => rfl)))))))))))
/-! ### _law_same -/
abbrev sLawSame : Stmt := topS 18
theorem scLawSame : FnScope ["actual", "due", "stack", "turn", "pair", "at"] ["actual", "due"] (defScope sLawSame) := ⟨rfl, rfl, rfl, by decide +kernel, rfl, by decide +kernel, by decide +kernel⟩
def dLawSameB1 : Den.Env → Res :=
  (dApp 2 (dTup [(dat (dIdx (now (dat (dIdx (dLoc 4) (now (dC (.int 0)))))) (dLoc 5))), (dat (dIdx (now (dat (dIdx (dLoc 4) (now (dC (.int 1)))))) (dLoc 5)))]))
def dLawSameB2 : Den.Env → Res :=
  (dSeq (dIf (tst (dBin gEq (now (dat (dCB gLen (oCons (dLoc 2) oNil)))) (now (dC (.int 0)))))
    (dRet (val (dC (.bool true))))
    dSkip)
    (dSeq (dAsg 4 (val (dPop 2)))
    (dIf (tst (dIsiT ["tuple", "list"] (now (dat (dIdx (dLoc 4) (now (dC (.int 1))))))))
    (dSeq (dIf (tst (dBin gNe (now (dat (dIsi "tuple" (now (dat (dIdx (dLoc 4) (now (dC (.int 1))))))))) (now (dat (dIsi "tuple" (now (dat (dIdx (dLoc 4) (now (dC (.int 0)))))))))))
    (dRet (val (dC (.bool false))))
    dSkip)
    (dSeq (dIf (dOrT (tst (dBin gNe (now (dat (dIsi "list" (now (dat (dIdx (dLoc 4) (now (dC (.int 1))))))))) (now (dat (dIsi "list" (now (dat (dIdx (dLoc 4) (now (dC (.int 0))))))))))) (tst (dBin gNe (now (dat (dCB gLen (oCons (now (dat (dIdx (dLoc 4) (now (dC (.int 0)))))) oNil)))) (now (dat (dCB gLen (oCons (now (dat (dIdx (dLoc 4) (now (dC (.int 1)))))) oNil)))))))
    (dRet (val (dC (.bool false))))
    dSkip)
    (dFor (dRange1 (oCons (now (dat (dCB gLen (oCons (now (dat (dIdx (dLoc 4) (now (dC (.int 1)))))) oNil)))) oNil)) (sName 5)
    dLawSameB1)))
    (dIf (tst (dIsi "str" (now (dat (dIdx (dLoc 4) (now (dC (.int 1))))))))
    (dIf (dOrT (dNotT (tst (dIsi "str" (now (dat (dIdx (dLoc 4) (now (dC (.int 0))))))))) (tst (dBin gNe (now (dat (dIdx (dLoc 4) (now (dC (.int 0)))))) (now (dat (dIdx (dLoc 4) (now (dC (.int 1)))))))))
    (dRet (val (dC (.bool false))))
    dSkip)
    (dIf (tst (dIsi "bool" (now (dat (dIdx (dLoc 4) (now (dC (.int 1))))))))
    (dIf (dOrT (dNotT (tst (dIsi "bool" (now (dat (dIdx (dLoc 4) (now (dC (.int 0))))))))) (tst (dBin gNe (now (dat (dIdx (dLoc 4) (now (dC (.int 0)))))) (now (dat (dIdx (dLoc 4) (now (dC (.int 1)))))))))
    (dRet (val (dC (.bool false))))
    dSkip)
    (dIf (tst (dBin gIs (now (dat (dIdx (dLoc 4) (now (dC (.int 1)))))) (now (dC .none))))
    (dIf (tst (dBin gIsNot (now (dat (dIdx (dLoc 4) (now (dC (.int 0)))))) (now (dC .none))))
    (dRet (val (dC (.bool false))))
    dSkip)
    (dIf (dOrT (tst (dIsi "bool" (now (dat (dIdx (dLoc 4) (now (dC (.int 0)))))))) (dOrT (dNotT (tst (dIsi "int" (now (dat (dIdx (dLoc 4) (now (dC (.int 0))))))))) (tst (dBin gNe (now (dat (dIdx (dLoc 4) (now (dC (.int 0)))))) (now (dat (dIdx (dLoc 4) (now (dC (.int 1))))))))))
    (dRet (val (dC (.bool false))))
    dSkip)))))))
def dLawSame : Den.Env → Res :=
  (dSeq (dAsg 2 (dLst [(dTup [(dVar 0), (dVar 1)])]))
    (dSeq (dFor (dRange1 (oCons (now (dC (.int 200000))) oNil)) (sName 3)
    dLawSameB2)
    (dRet (val (dC (.bool false))))))
def fLawSame : Fd := ⟨2, none, runB none 6 dLawSame⟩
theorem npLawSame : fLawSame.np = 2 := (rfl)
theorem ownLawSame : fLawSame.own = none := (rfl)
theorem okLawSame {f : Addr} {fd : FuncData} (Fn : Fun K "_law_same" "_law_same" sLawSame f fd) (T : Txt K mg)   : FnOk P w K mg base (L2.CX P w) 1 f fd ["actual", "due"] (spD K mg fLawSame) :=
  fn_den (own := none) Fn scLawSame (by intro k hk; cases hk) fun cdv A outer s H E F hr hn hp => by
    have sc := scLawSame
    have tk : Takes (cxOf (L2.CX P w) P w K mg base ["actual", "due", "stack", "turn", "pair", "at"] "_law_same" (defScope sLawSame) f cdv A outer s H E) (fun cls d _ H => E cls d H) := takes_of rfl rfl rfl rfl
    let own : Option Nat := none
    exact (rss_cons (rs_asg (hp 2 (by decide)) (by rw [hn]; decide) sc.nd rfl (locv rfl) (re_lst (rl_cons (rd_tup (rl_cons (rd_var (hp 0 (by decide)) rfl (vis_of rfl)) (rl_cons (rd_var (hp 1 (by decide)) rfl (vis_of rfl)) rl_nil))) rl_nil)))
    (rss_cons (rs_for (passes_of rfl) rfl (ri_range1 (by rfl) T.b_range (rol_cons (RD.now rd_int) rol_nil)) (rg_name (hp 3 (by decide)) (by rw [hn]; decide) sc.nd rfl (locv rfl))
    (rss_cons (rs_if (rt_cmp (opd_eq hr.units) (RD.now (RE.dat (re_callB call_lenA sem_len (by rfl) T.b_len (by decide +kernel) (rol_cons (ro_loc rfl (vis_of rfl)) rol_nil)))) (RD.now rd_int) (nomark _))
    (rss_one (rs_ret (RD.val rd_bl)))
    rss_nil)
    (rss_cons (rs_asg (hp 4 (by decide)) (by rw [hn]; decide) sc.nd rfl (locv rfl) (RD.val (rd_pop (loc_of rfl (vis_of rfl)))))
    (rss_one (rs_if (rt_val (re_isi2 (RD.now (RE.dat (re_idx (ro_loc rfl (vis_of rfl)) (RD.now rd_int) (fun _ _ => rfl)))) (by rfl) T.b_isinstance (by rfl) T.b_tuple PyProof.Rows.boot_tuple (by rfl) T.b_list PyProof.Rows.boot_list))
    (rss_cons (rs_if (rt_cmp (opd_ne hr.units) (RD.now (RE.dat (re_isi (RD.now (RE.dat (re_idx (ro_loc rfl (vis_of rfl)) (RD.now rd_int) (fun _ _ => rfl)))) (by rfl) T.b_isinstance (by rfl) T.b_tuple PyProof.Rows.boot_tuple))) (RD.now (RE.dat (re_isi (RD.now (RE.dat (re_idx (ro_loc rfl (vis_of rfl)) (RD.now rd_int) (fun _ _ => rfl)))) (by rfl) T.b_isinstance (by rfl) T.b_tuple PyProof.Rows.boot_tuple))) (nomark _))
    (rss_one (rs_ret (RD.val rd_bl)))
    rss_nil)
    (rss_cons (rs_if (RW.rt (rw_or (rt_cmp (opd_ne hr.units) (RD.now (RE.dat (re_isi (RD.now (RE.dat (re_idx (ro_loc rfl (vis_of rfl)) (RD.now rd_int) (fun _ _ => rfl)))) (by rfl) T.b_isinstance (by rfl) T.b_list PyProof.Rows.boot_list))) (RD.now (RE.dat (re_isi (RD.now (RE.dat (re_idx (ro_loc rfl (vis_of rfl)) (RD.now rd_int) (fun _ _ => rfl)))) (by rfl) T.b_isinstance (by rfl) T.b_list PyProof.Rows.boot_list))) (nomark _)) (rw_or1 (rt_cmp (opd_ne hr.units) (RD.now (RE.dat (re_callB call_lenA sem_len (by rfl) T.b_len (by decide +kernel) (rol_cons (RD.now (RE.dat (re_idx (ro_loc rfl (vis_of rfl)) (RD.now rd_int) (fun _ _ => rfl)))) rol_nil)))) (RD.now (RE.dat (re_callB call_lenA sem_len (by rfl) T.b_len (by decide +kernel) (rol_cons (RD.now (RE.dat (re_idx (ro_loc rfl (vis_of rfl)) (RD.now rd_int) (fun _ _ => rfl)))) rol_nil)))) (nomark _)))))
    (rss_one (rs_ret (RD.val rd_bl)))
    rss_nil)
    (rss_one (rs_for (passes_of rfl) rfl (ri_range1 (by rfl) T.b_range (rol_cons (RD.now (RE.dat (re_callB call_lenA sem_len (by rfl) T.b_len (by decide +kernel) (rol_cons (RD.now (RE.dat (re_idx (ro_loc rfl (vis_of rfl)) (RD.now rd_int) (fun _ _ => rfl)))) rol_nil)))) rol_nil)) (rg_name (hp 5 (by decide)) (by rw [hn]; decide) sc.nd rfl (locv rfl))
    (rss_one (rs_app (loc_of rfl (vis_of rfl)) (rd_tup (rl_cons (RE.dat (re_idx (RD.now (RE.dat (re_idx (ro_loc rfl (vis_of rfl)) (RD.now rd_int) (fun _ _ => rfl)))) (ro_loc rfl (vis_of rfl)) (fun _ _ => rfl))) (rl_cons (RE.dat (re_idx (RD.now (RE.dat (re_idx (ro_loc rfl (vis_of rfl)) (RD.now rd_int) (fun _ _ => rfl)))) (ro_loc rfl (vis_of rfl)) (fun _ _ => rfl))) rl_nil)))))))))
    (rss_one (rs_if (rt_val (re_isi (RD.now (RE.dat (re_idx (ro_loc rfl (vis_of rfl)) (RD.now rd_int) (fun _ _ => rfl)))) (by rfl) T.b_isinstance (by rfl) T.b_str PyProof.Rows.boot_str))
    (rss_one (rs_if (RW.rt (rw_or (rt_not (rt_val (re_isi (RD.now (RE.dat (re_idx (ro_loc rfl (vis_of rfl)) (RD.now rd_int) (fun _ _ => rfl)))) (by rfl) T.b_isinstance (by rfl) T.b_str PyProof.Rows.boot_str))) (rw_or1 (rt_cmp (opd_ne hr.units) (RD.now (RE.dat (re_idx (ro_loc rfl (vis_of rfl)) (RD.now rd_int) (fun _ _ => rfl)))) (RD.now (RE.dat (re_idx (ro_loc rfl (vis_of rfl)) (RD.now rd_int) (fun _ _ => rfl)))) (nomark _)))))
    (rss_one (rs_ret (RD.val rd_bl)))
    rss_nil))
    (rss_one (rs_if (rt_val (re_isi (RD.now (RE.dat (re_idx (ro_loc rfl (vis_of rfl)) (RD.now rd_int) (fun _ _ => rfl)))) (by rfl) T.b_isinstance (by rfl) T.b_bool PyProof.Rows.boot_bool))
    (rss_one (rs_if (RW.rt (rw_or (rt_not (rt_val (re_isi (RD.now (RE.dat (re_idx (ro_loc rfl (vis_of rfl)) (RD.now rd_int) (fun _ _ => rfl)))) (by rfl) T.b_isinstance (by rfl) T.b_bool PyProof.Rows.boot_bool))) (rw_or1 (rt_cmp (opd_ne hr.units) (RD.now (RE.dat (re_idx (ro_loc rfl (vis_of rfl)) (RD.now rd_int) (fun _ _ => rfl)))) (RD.now (RE.dat (re_idx (ro_loc rfl (vis_of rfl)) (RD.now rd_int) (fun _ _ => rfl)))) (nomark _)))))
    (rss_one (rs_ret (RD.val rd_bl)))
    rss_nil))
    (rss_one (rs_if (rt_cmp opd_is (RD.now (RE.dat (re_idx (ro_loc rfl (vis_of rfl)) (RD.now rd_int) (fun _ _ => rfl)))) (RD.now rd_non) (nomark _))
    (rss_one (rs_if (rt_cmp opd_isnot (RD.now (RE.dat (re_idx (ro_loc rfl (vis_of rfl)) (RD.now rd_int) (fun _ _ => rfl)))) (RD.now rd_non) (nomark _))
    (rss_one (rs_ret (RD.val rd_bl)))
    rss_nil))
    (rss_one (rs_if (RW.rt (rw_or (rt_val (re_isi (RD.now (RE.dat (re_idx (ro_loc rfl (vis_of rfl)) (RD.now rd_int) (fun _ _ => rfl)))) (by rfl) T.b_isinstance (by rfl) T.b_bool PyProof.Rows.boot_bool)) (rw_or (rt_not (rt_val (re_isi (RD.now (RE.dat (re_idx (ro_loc rfl (vis_of rfl)) (RD.now rd_int) (fun _ _ => rfl)))) (by rfl) T.b_isinstance (by rfl) T.b_int PyProof.Rows.boot_int))) (rw_or1 (rt_cmp (opd_ne hr.units) (RD.now (RE.dat (re_idx (ro_loc rfl (vis_of rfl)) (RD.now rd_int) (fun _ _ => rfl)))) (RD.now (RE.dat (re_idx (ro_loc rfl (vis_of rfl)) (RD.now rd_int) (fun _ _ => rfl)))) (nomark _))))))
    (rss_one (rs_ret (RD.val rd_bl)))
    rss_nil)))))))))))))
    (rss_one (rs_ret (RD.val rd_bl)))))
/-! ### _law_text -/
abbrev sLawText : Stmt := topS 19
theorem scLawText : FnScope ["deck", "letters", "odd", "kind", "signs", "text", "k", "at"] ["deck"] (defScope sLawText) := ⟨rfl, rfl, rfl, by decide +kernel, rfl, by decide +kernel, by decide +kernel⟩
def dLawTextB1 : Den.Env → Res :=
  (dAsg 5 (dBin gAdd (dLoc 5) (now (dat (dIdx (dLoc 4) (now (dat (dCall fLawDraw (oCons (dLoc 0) (oCons (now (dat (dCB gLen (oCons (dLoc 4) oNil)))) oNil))))))))))
def dLawText : Den.Env → Res :=
  (dSeq (dAsg 1 (val (dC (.str "abcdefghijklmnopqrstuvwxyz"))))
    (dSeq (dAsg 2 (val (dC (.str " !\"#$&'()*+,-./:;<=>?@ABCDEFGHIJKLMNOPQRSTUVWXYZ[\\]^_`{|}~\n\t"))))
    (dSeq (dAsg 3 (dCall fLawDraw (oCons (dLoc 0) (oCons (now (dC (.int 4))) oNil))))
    (dSeq (dAsg 4 (dIdx (now (dat (dLst [(dVar 1), (dat (dBin gAdd (dLoc 1) (now (dC (.str "0123456789"))))), (dat (dBin gAdd (now (dat (dBin gAdd (dLoc 1) (now (dC (.str "0123456789")))))) (dLoc 2))), (dVar 1)]))) (dLoc 3)))
    (dSeq (dAsg 5 (val (dC (.str ""))))
    (dSeq (dFor (dRange1 (oCons (now (dat (dIdx (now (dat (dLst [(dat (dCall fLawDraw (oCons (dLoc 0) (oCons (now (dC (.int 11))) oNil)))), (dC (.int 1)), (dat (dBin gAdd (now (dC (.int 7))) (now (dat (dCall fLawDraw (oCons (dLoc 0) (oCons (now (dC (.int 3))) oNil)))))))]))) (now (dat (dCall fLawDraw (oCons (dLoc 0) (oCons (now (dC (.int 3))) oNil)))))))) oNil)) (sName 6)
    dLawTextB1)
    (dSeq (dIf (dAndT (tst (dBin gEq (dLoc 3) (now (dC (.int 3))))) (tst (dBin gGt (now (dat (dCB gLen (oCons (dLoc 5) oNil)))) (now (dC (.int 0))))))
    (dSeq (dAsg 7 (dCall fLawDraw (oCons (dLoc 0) (oCons (now (dat (dCB gLen (oCons (dLoc 5) oNil)))) oNil))))
    (dAsg 5 (dBin gAdd (now (dat (dBin gAdd (now (dat (dSl (dLoc 5) ptNone (ptSome (dVar 7))))) (now (dat (dIdx (now (dat (dBin gAdd (dLoc 2) (now (dC (.str "0123456789")))))) (now (dat (dCall fLawDraw (oCons (dLoc 0) (oCons (now (dat (dBin gAdd (now (dat (dCB gLen (oCons (dLoc 2) oNil)))) (now (dC (.int 10)))))) oNil))))))))))) (now (dat (dSl (dLoc 5) (ptSome (dat (dBin gAdd (dLoc 7) (now (dC (.int 1)))))) ptNone))))))
    dSkip)
    (dRet (dMov 5)))))))))
def fLawText : Fd := ⟨1, (some 0), runB (some 0) 8 dLawText⟩
theorem npLawText : fLawText.np = 1 := (rfl)
theorem ownLawText : fLawText.own = (some 0) := (rfl)
theorem okLawText {f : Addr} {fd : FuncData} (Fn : Fun K "_law_text" "_law_text" sLawText f fd) (T : Txt K mg) (oLawDraw : Own P w K mg base "_law_draw" fLawDraw 1)  : FnOk P w K mg base (L2.CX P w) 2 f fd ["deck"] (spD K mg fLawText) :=
  fn_den (own := (some 0)) Fn scLawText (by intro k hk; cases hk; decide) fun cdv A outer s H E F hr hn hp => by
    have sc := scLawText
    have tk : Takes (cxOf (L2.CX P w) P w K mg base ["deck", "letters", "odd", "kind", "signs", "text", "k", "at"] "_law_text" (defScope sLawText) f cdv A outer s H E) (fun cls d _ H => E cls d H) := takes_of rfl rfl rfl rfl
    let own : Option Nat := (some 0)
    exact (rss_cons (rs_asg (hp 1 (by decide)) (by rw [hn]; decide) sc.nd rfl (locv rfl) (RD.val rd_str))
    (rss_cons (rs_asg (hp 2 (by decide)) (by rw [hn]; decide) sc.nd rfl (locv rfl) (RD.val rd_str))
    (rss_cons (rs_asg (hp 3 (by decide)) (by rw [hn]; decide) sc.nd rfl (locv rfl) (re_call oLawDraw (hr.mono (by decide)) (by rfl) tk (rol_cons (ro_loc rfl (vis_of rfl)) (rol_cons (RD.now rd_int) rol_nil))))
    (rss_cons (rs_asg (hp 4 (by decide)) (by rw [hn]; decide) sc.nd rfl (locv rfl) (re_idx (RD.now (RE.dat (re_lst (rl_cons (rd_var (hp 1 (by decide)) rfl (vis_of rfl)) (rl_cons (RE.dat (re_bin opd_add (ro_loc rfl (vis_of rfl)) (RD.now rd_str))) (rl_cons (RE.dat (re_bin opd_add (RD.now (RE.dat (re_bin opd_add (ro_loc rfl (vis_of rfl)) (RD.now rd_str)))) (ro_loc rfl (vis_of rfl)))) (rl_cons (rd_var (hp 1 (by decide)) rfl (vis_of rfl)) rl_nil))))))) (ro_loc rfl (vis_of rfl)) (fun _ _ => rfl)))
    (rss_cons (rs_asg (hp 5 (by decide)) (by rw [hn]; decide) sc.nd rfl (locv rfl) (RD.val rd_str))
    (rss_cons (rs_for (passes_of rfl) rfl (ri_range1 (by rfl) T.b_range (rol_cons (RD.now (RE.dat (re_idx (RD.now (RE.dat (re_lst (rl_cons (RE.dat (re_call oLawDraw (hr.mono (by decide)) (by rfl) tk (rol_cons (ro_loc rfl (vis_of rfl)) (rol_cons (RD.now rd_int) rol_nil)))) (rl_cons rd_int (rl_cons (RE.dat (re_bin opd_add (RD.now rd_int) (RD.now (RE.dat (re_call oLawDraw (hr.mono (by decide)) (by rfl) tk (rol_cons (ro_loc rfl (vis_of rfl)) (rol_cons (RD.now rd_int) rol_nil))))))) rl_nil)))))) (RD.now (RE.dat (re_call oLawDraw (hr.mono (by decide)) (by rfl) tk (rol_cons (ro_loc rfl (vis_of rfl)) (rol_cons (RD.now rd_int) rol_nil))))) (fun _ _ => rfl)))) rol_nil)) (rg_name (hp 6 (by decide)) (by rw [hn]; decide) sc.nd rfl (locv rfl))
    (rss_one (rs_asg (hp 5 (by decide)) (by rw [hn]; decide) sc.nd rfl (locv rfl) (re_bin opd_add (ro_loc rfl (vis_of rfl)) (RD.now (RE.dat (re_idx (ro_loc rfl (vis_of rfl)) (RD.now (RE.dat (re_call oLawDraw (hr.mono (by decide)) (by rfl) tk (rol_cons (ro_loc rfl (vis_of rfl)) (rol_cons (RD.now (RE.dat (re_callB call_lenA sem_len (by rfl) T.b_len (by decide +kernel) (rol_cons (ro_loc rfl (vis_of rfl)) rol_nil)))) rol_nil))))) (fun _ _ => rfl))))))))
    (rss_cons (rs_if (RW.rt (rw_and (rt_cmp (opd_eq hr.units) (ro_loc rfl (vis_of rfl)) (RD.now rd_int) (nomark _)) (rw_and1 (rt_cmp opd_gt (RD.now (RE.dat (re_callB call_lenA sem_len (by rfl) T.b_len (by decide +kernel) (rol_cons (ro_loc rfl (vis_of rfl)) rol_nil)))) (RD.now rd_int) (nomark _)))))
    (rss_cons (rs_asg (hp 7 (by decide)) (by rw [hn]; decide) sc.nd rfl (locv rfl) (re_call oLawDraw (hr.mono (by decide)) (by rfl) tk (rol_cons (ro_loc rfl (vis_of rfl)) (rol_cons (RD.now (RE.dat (re_callB call_lenA sem_len (by rfl) T.b_len (by decide +kernel) (rol_cons (ro_loc rfl (vis_of rfl)) rol_nil)))) rol_nil))))
    (rss_one (rs_asg (hp 5 (by decide)) (by rw [hn]; decide) sc.nd rfl (locv rfl) (re_bin opd_add (RD.now (RE.dat (re_bin opd_add (RD.now (RE.dat (re_sl (ro_loc rfl (vis_of rfl)) rpt_none (rpt_some (rd_var (hp 7 (by decide)) rfl (vis_of rfl)))))) (RD.now (RE.dat (re_idx (RD.now (RE.dat (re_bin opd_add (ro_loc rfl (vis_of rfl)) (RD.now rd_str)))) (RD.now (RE.dat (re_call oLawDraw (hr.mono (by decide)) (by rfl) tk (rol_cons (ro_loc rfl (vis_of rfl)) (rol_cons (RD.now (RE.dat (re_bin opd_add (RD.now (RE.dat (re_callB call_lenA sem_len (by rfl) T.b_len (by decide +kernel) (rol_cons (ro_loc rfl (vis_of rfl)) rol_nil)))) (RD.now rd_int)))) rol_nil))))) (fun _ _ => rfl))))))) (RD.now (RE.dat (re_sl (ro_loc rfl (vis_of rfl)) (rpt_some (RE.dat (re_bin opd_add (ro_loc rfl (vis_of rfl)) (RD.now rd_int)))) rpt_none)))))))
    rss_nil)
    (rss_one (rs_ret (re_mov (hp 5 (by decide)) rfl (vis_of rfl)))))))))))
/-! ### _law_only -/
abbrev sLawOnly : Stmt := topS 20
theorem scLawOnly : FnScope ["value", "signs", "sign"] ["value", "signs"] (defScope sLawOnly) := ⟨rfl, rfl, rfl, by decide +kernel, rfl, by decide +kernel, by decide +kernel⟩
def dLawOnlyE1 : Den.Env → Out (D × Den.Env) :=
  (dVar 2)
def dLawOnlyT1 : Den.Env → Out (Bool × Den.Env) :=
  (tst (dBin (gIn true) (dLoc 2) (dLoc 1)))
def dLawOnly : Den.Env → Res :=
  (dRet (dAnd (dChain gLe gLe (now (dC (.int 1))) (now (dat (dCB gLen (oCons (dLoc 0) oNil)))) (now (dC (.int 8)))) (dBin gEq (now (dat (dCB gLen (oCons (now (dat (dLC [2] (dSeqI (dVar 0)) (sName 2) dLawOnlyT1 dLawOnlyE1))) oNil)))) (now (dC (.int 0))))))
def fLawOnly : Fd := ⟨2, none, runB none 3 dLawOnly⟩
theorem npLawOnly : fLawOnly.np = 2 := (rfl)
theorem ownLawOnly : fLawOnly.own = none := (rfl)
theorem okLawOnly {f : Addr} {fd : FuncData} (Fn : Fun K "_law_only" "_law_only" sLawOnly f fd) (T : Txt K mg)   : FnOk P w K mg base (L2.CX P w) 1 f fd ["value", "signs"] (spD K mg fLawOnly) :=
  fn_den (own := none) Fn scLawOnly (by intro k hk; cases hk) fun cdv A outer s H E F hr hn hp => by
    have sc := scLawOnly
    have tk : Takes (cxOf (L2.CX P w) P w K mg base ["value", "signs", "sign"] "_law_only" (defScope sLawOnly) f cdv A outer s H E) (fun cls d _ H => E cls d H) := takes_of rfl rfl rfl rfl
    let own : Option Nat := none
    exact (rss_one (rs_ret (re_and (re_chain opd_le opd_le (RD.now rd_int) (RD.now (RE.dat (re_callB call_lenA sem_len (by rfl) T.b_len (by decide +kernel) (rol_cons (ro_loc rfl (vis_of rfl)) rol_nil)))) (RD.now rd_int)) (re_one (re_cmp (opd_eq hr.units) (RD.now (RE.dat (re_callB call_lenA sem_len (by rfl) T.b_len (by decide +kernel) (rol_cons (RD.now (RE.dat (re_lc (own := [("sign", 2)]) (ts := [2]) rfl sc.nd (ri_seq (rd_var (hp 0 (by decide)) rfl (vis_of rfl))) (blkOk_by (N := ["value", "signs", "sign"]) (sc := defScope sLawOnly) (by decide +kernel)) (by intro v hv; have hv := hv; simp at hv; subst hv ; exact hp _ (by decide)) (by decide) (rgf_name (hp 2 (by decide)) (by rw [hn]; decide) (by rintro _ ⟨_, _, _, _, _, rfl⟩; exact ⟨sc.nd, rfl, locv rfl, by first | exact .inr rfl | exact .inl rfl⟩)) (fun F' h1' h2' X' hX' => by obtain ⟨s', H', C', cl', fp', rfl⟩ := hX'; have hp' : ∀ i : Nat, own ≠ some i → F'.pw i = none := fun i h => (congrFun h2' i).trans (hp i h); have hn' := h1'.trans hn; exact (rts_one (rt_cmp opd_notin (ro_loc rfl (vis_of rfl)) (ro_loc rfl (vis_of rfl)) rfl))) (fun F' h1' h2' X' hX' => by obtain ⟨s', H', C', cl', fp', rfl⟩ := hX'; have hp' : ∀ i : Nat, own ≠ some i → F'.pw i = none := fun i h => (congrFun h2' i).trans (hp i h); have hn' := h1'.trans hn; exact (rd_var (hp' 2 (by decide)) rfl (vis_of rfl)))))) rol_nil)))) (RD.now rd_int) (nomark _))))))
/-! ### _law_name -/
abbrev sLawName : Stmt := topS 21
theorem scLawName : FnScope ["deck", "kind", "word", "k"] ["deck"] (defScope sLawName) := ⟨rfl, rfl, rfl, by decide +kernel, rfl, by decide +kernel, by decide +kernel⟩
def dLawNameB1 : Den.Env → Res :=
  (dAsg 2 (dBin gAdd (dLoc 2) (now (dat (dIdx (now (dC (.str "abcdefghijklmnopqrstuvwxyz0123456789"))) (now (dat (dCall fLawDraw (oCons (dLoc 0) (oCons (now (dC (.int 36))) oNil))))))))))
def dLawName : Den.Env → Res :=
  (dSeq (dAsg 1 (dCall fLawDraw (oCons (dLoc 0) (oCons (now (dC (.int 3))) oNil))))
    (dSeq (dIf (tst (dBin gLt (dLoc 1) (now (dC (.int 2)))))
    (dRet (dCall fLawDraw (oCons (dLoc 0) (oCons (now (dat (dIdx (now (dat (dLst [(dC (.int 30)), (dC (.int 10000))]))) (dLoc 1)))) oNil))))
    dSkip)
    (dSeq (dAsg 2 (val (dC (.str ""))))
    (dSeq (dFor (dRange1 (oCons (now (dat (dBin gAdd (now (dC (.int 1))) (now (dat (dCall fLawDraw (oCons (dLoc 0) (oCons (now (dC (.int 8))) oNil)))))))) oNil)) (sName 3)
    dLawNameB1)
    (dRet (dMov 2))))))
def fLawName : Fd := ⟨1, (some 0), runB (some 0) 4 dLawName⟩
theorem npLawName : fLawName.np = 1 := (rfl)
theorem ownLawName : fLawName.own = (some 0) := (rfl)
theorem okLawName {f : Addr} {fd : FuncData} (Fn : Fun K "_law_name" "_law_name" sLawName f fd) (T : Txt K mg) (oLawDraw : Own P w K mg base "_law_draw" fLawDraw 1)  : FnOk P w K mg base (L2.CX P w) 2 f fd ["deck"] (spD K mg fLawName) :=
  fn_den (own := (some 0)) Fn scLawName (by intro k hk; cases hk; decide) fun cdv A outer s H E F hr hn hp => by
    have sc := scLawName
    have tk : Takes (cxOf (L2.CX P w) P w K mg base ["deck", "kind", "word", "k"] "_law_name" (defScope sLawName) f cdv A outer s H E) (fun cls d _ H => E cls d H) := takes_of rfl rfl rfl rfl
    let own : Option Nat := (some 0)
    exact (rss_cons (rs_asg (hp 1 (by decide)) (by rw [hn]; decide) sc.nd rfl (locv rfl) (re_call oLawDraw (hr.mono (by decide)) (by rfl) tk (rol_cons (ro_loc rfl (vis_of rfl)) (rol_cons (RD.now rd_int) rol_nil))))
    (rss_cons (rs_if (rt_cmp opd_lt (ro_loc rfl (vis_of rfl)) (RD.now rd_int) (nomark _))
    (rss_one (rs_ret (re_call oLawDraw (hr.mono (by decide)) (by rfl) tk (rol_cons (ro_loc rfl (vis_of rfl)) (rol_cons (RD.now (RE.dat (re_idx (RD.now (RE.dat (re_lst (rl_cons rd_int (rl_cons rd_int rl_nil))))) (ro_loc rfl (vis_of rfl)) (fun _ _ => rfl)))) rol_nil)))))
    rss_nil)
    (rss_cons (rs_asg (hp 2 (by decide)) (by rw [hn]; decide) sc.nd rfl (locv rfl) (RD.val rd_str))
    (rss_cons (rs_for (passes_of rfl) rfl (ri_range1 (by rfl) T.b_range (rol_cons (RD.now (RE.dat (re_bin opd_add (RD.now rd_int) (RD.now (RE.dat (re_call oLawDraw (hr.mono (by decide)) (by rfl) tk (rol_cons (ro_loc rfl (vis_of rfl)) (rol_cons (RD.now rd_int) rol_nil)))))))) rol_nil)) (rg_name (hp 3 (by decide)) (by rw [hn]; decide) sc.nd rfl (locv rfl))
    (rss_one (rs_asg (hp 2 (by decide)) (by rw [hn]; decide) sc.nd rfl (locv rfl) (re_bin opd_add (ro_loc rfl (vis_of rfl)) (RD.now (RE.dat (re_idx (RD.now rd_str) (RD.now (RE.dat (re_call oLawDraw (hr.mono (by decide)) (by rfl) tk (rol_cons (ro_loc rfl (vis_of rfl)) (rol_cons (RD.now rd_int) rol_nil))))) (fun _ _ => rfl))))))))
    (rss_one (rs_ret (re_mov (hp 2 (by decide)) rfl (vis_of rfl))))))))
/-! ### _law_path -/
abbrev sLawPath : Stmt := topS 22
theorem scLawPath : FnScope ["deck", "k"] ["deck"] (defScope sLawPath) := ⟨rfl, rfl, rfl, by decide +kernel, rfl, by decide +kernel, by decide +kernel⟩
def dLawPathE1 : Den.Env → Out (D × Den.Env) :=
  (dat (dCall fLawWord (oCons (dLoc 0) (oCons (now (dat (dLst []))) oNil))))
def dLawPath : Den.Env → Res :=
  (dRet (dCB gTuple (oCons (now (dat (dLC [1] (dRange1 (oCons (now (dat (dCall fLawDraw (oCons (dLoc 0) (oCons (now (dC (.int 4))) oNil))))) oNil)) (sName 1) dTrue dLawPathE1))) oNil)))
def fLawPath : Fd := ⟨1, (some 0), runB (some 0) 2 dLawPath⟩
theorem npLawPath : fLawPath.np = 1 := (rfl)
theorem ownLawPath : fLawPath.own = (some 0) := (rfl)
theorem okLawPath {f : Addr} {fd : FuncData} (Fn : Fun K "_law_path" "_law_path" sLawPath f fd) (T : Txt K mg) (oLawDraw : Own P w K mg base "_law_draw" fLawDraw 1) (oLawWord : Own P w K mg base "_law_word" fLawWord 2)  : FnOk P w K mg base (L2.CX P w) 3 f fd ["deck"] (spD K mg fLawPath) :=
  fn_den (own := (some 0)) Fn scLawPath (by intro k hk; cases hk; decide) fun cdv A outer s H E F hr hn hp => by
    have sc := scLawPath
    have tk : Takes (cxOf (L2.CX P w) P w K mg base ["deck", "k"] "_law_path" (defScope sLawPath) f cdv A outer s H E) (fun cls d _ H => E cls d H) := takes_of rfl rfl rfl rfl
    let own : Option Nat := (some 0)
    exact (rss_one (rs_ret (re_callTy call_tuple_of sem_tuple (by rfl) T.b_tuple (by decide +kernel) (rol_cons (RD.now (RE.dat (re_lc (own := [("k", 1)]) (ts := [1]) rfl sc.nd (ri_range1 (by rfl) T.b_range (rol_cons (RD.now (RE.dat (re_call oLawDraw (hr.mono (by decide)) (by rfl) tk (rol_cons (ro_loc rfl (vis_of rfl)) (rol_cons (RD.now rd_int) rol_nil))))) rol_nil)) (blkOk_by (N := ["deck", "k"]) (sc := defScope sLawPath) (by decide +kernel)) (by intro v hv; have hv := hv; simp at hv; subst hv ; exact hp _ (by decide)) (by decide) (rgf_name (hp 1 (by decide)) (by rw [hn]; decide) (by rintro _ ⟨_, _, _, _, _, rfl⟩; exact ⟨sc.nd, rfl, locv rfl, by first | exact .inr rfl | exact .inl rfl⟩)) (fun F' h1' h2' X' hX' => by obtain ⟨s', H', C', cl', fp', rfl⟩ := hX'; have hp' : ∀ i : Nat, own ≠ some i → F'.pw i = none := fun i h => (congrFun h2' i).trans (hp i h); have hn' := h1'.trans hn; exact rts_nil) (fun F' h1' h2' X' hX' => by obtain ⟨s', H', C', cl', fp', rfl⟩ := hX'; have hp' : ∀ i : Nat, own ≠ some i → F'.pw i = none := fun i h => (congrFun h2' i).trans (hp i h); have hn' := h1'.trans hn; exact (RE.dat (re_call oLawWord (hr.mono (by decide)) (by rfl) takes0 (rol_cons (ro_loc rfl (vis_of rfl)) (rol_cons (RD.now (RE.dat (re_lst rl_nil))) rol_nil)))))))) rol_nil))))
/-! ### _law_written -/
abbrev sLawWritten : Stmt := topS 23
theorem scLawWritten : FnScope ["thing", "text", "word"] ["thing"] (defScope sLawWritten) := ⟨rfl, rfl, rfl, by decide +kernel, rfl, by decide +kernel, by decide +kernel⟩
def dLawWrittenB1 : Den.Env → Res :=
  (dAsg 1 (dBin gAdd (now (dat (dBin gAdd (dLoc 1) (now (dat (dBin gMulS (now (dC (.str "."))) (now (dat (dCB gIntS (oCons (now (dat (dBin gNe (dLoc 1) (now (dC (.str "")))))) oNil)))))))))) (dLoc 2)))
def dLawWritten : Den.Env → Res :=
  (dSeq (dIf (tst (dIsi "str" (dLoc 0)))
    (dRet (dMov 0))
    dSkip)
    (dSeq (dIf (tst (dIsi "int" (dLoc 0)))
    (dRet (dBin gAdd (now (dC (.str "#"))) (now (dat (dCB gStr (oCons (dLoc 0) oNil))))))
    dSkip)
    (dSeq (dAsg 1 (val (dC (.str ""))))
    (dSeq (dFor (dSeqI (dVar 0)) (sName 2)
    dLawWrittenB1)
    (dRet (dBin gAdd (dLoc 1) (now (dat (dBin gMulS (now (dC (.str "."))) (now (dat (dCB gIntS (oCons (now (dat (dBin gEq (dLoc 1) (now (dC (.str "")))))) oNil)))))))))))))
def fLawWritten : Fd := ⟨1, none, runB none 3 dLawWritten⟩
theorem npLawWritten : fLawWritten.np = 1 := (rfl)
theorem ownLawWritten : fLawWritten.own = none := (rfl)
theorem okLawWritten {f : Addr} {fd : FuncData} (Fn : Fun K "_law_written" "_law_written" sLawWritten f fd) (T : Txt K mg)   : FnOk P w K mg base (L2.CX P w) 1 f fd ["thing"] (spD K mg fLawWritten) :=
  fn_den (own := none) Fn scLawWritten (by intro k hk; cases hk) fun cdv A outer s H E F hr hn hp => by
    have sc := scLawWritten
    have tk : Takes (cxOf (L2.CX P w) P w K mg base ["thing", "text", "word"] "_law_written" (defScope sLawWritten) f cdv A outer s H E) (fun cls d _ H => E cls d H) := takes_of rfl rfl rfl rfl
    let own : Option Nat := none
    exact (rss_cons (rs_if (rt_val (re_isi (ro_loc rfl (vis_of rfl)) (by rfl) T.b_isinstance (by rfl) T.b_str PyProof.Rows.boot_str))
    (rss_one (rs_ret (re_mov (hp 0 (by decide)) rfl (vis_of rfl))))
    rss_nil)
    (rss_cons (rs_if (rt_val (re_isi (ro_loc rfl (vis_of rfl)) (by rfl) T.b_isinstance (by rfl) T.b_int PyProof.Rows.boot_int))
    (rss_one (rs_ret (re_bin opd_add (RD.now rd_str) (RD.now (RE.dat (re_callTy call_str_int sem_str (by rfl) T.b_str (by decide +kernel) (rol_cons (ro_loc rfl (vis_of rfl)) rol_nil)))))))
    rss_nil)
    (rss_cons (rs_asg (hp 1 (by decide)) (by rw [hn]; decide) sc.nd rfl (locv rfl) (RD.val rd_str))
    (rss_cons (rs_for (passes_of rfl) rfl (ri_seq (rd_var (hp 0 (by decide)) rfl (vis_of rfl))) (rg_name (hp 2 (by decide)) (by rw [hn]; decide) sc.nd rfl (locv rfl))
    (rss_one (rs_asg (hp 1 (by decide)) (by rw [hn]; decide) sc.nd rfl (locv rfl) (re_bin opd_add (RD.now (RE.dat (re_bin opd_add (ro_loc rfl (vis_of rfl)) (RD.now (RE.dat (re_bin opd_mulS (RD.now rd_str) (RD.now (RE.dat (re_callTy call_intS sem_intS (by rfl) T.b_int (by decide +kernel) (rol_cons (RD.now (RE.dat (re_cmp (opd_ne hr.units) (ro_loc rfl (vis_of rfl)) (RD.now rd_str) (nomark _)))) rol_nil)))))))))) (ro_loc rfl (vis_of rfl))))))
    (rss_one (rs_ret (re_bin opd_add (ro_loc rfl (vis_of rfl)) (RD.now (RE.dat (re_bin opd_mulS (RD.now rd_str) (RD.now (RE.dat (re_callTy call_intS sem_intS (by rfl) T.b_int (by decide +kernel) (rol_cons (RD.now (RE.dat (re_cmp (opd_eq hr.units) (ro_loc rfl (vis_of rfl)) (RD.now rd_str) (nomark _)))) rol_nil))))))))))))))
/-! ### _law_bent -/
abbrev sLawBent : Stmt := topS 24
theorem scLawBent : FnScope ["deck", "word", "signs", "at", "kind", "sign"] ["deck", "word"] (defScope sLawBent) := ⟨rfl, rfl, rfl, by decide +kernel, rfl, by decide +kernel, by decide +kernel⟩
def dLawBent : Den.Env → Res :=
  (dSeq (dAsg 2 (val (dC (.str "..##a0z9A =.\n-"))))
    (dSeq (dAsg 3 (dCall fLawDraw (oCons (dLoc 0) (oCons (now (dat (dBin gAdd (now (dat (dCB gLen (oCons (dLoc 1) oNil)))) (now (dC (.int 1)))))) oNil))))
    (dSeq (dAsg 4 (dCall fLawDraw (oCons (dLoc 0) (oCons (now (dC (.int 3))) oNil))))
    (dSeq (dAsg 5 (dIdx (dLoc 2) (now (dat (dCall fLawDraw (oCons (dLoc 0) (oCons (now (dC (.int 14))) oNil)))))))
    (dSeq (dIf (tst (dBin gEq (dLoc 4) (now (dC (.int 0)))))
    (dRet (dBin gAdd (now (dat (dBin gAdd (now (dat (dSl (dLoc 1) ptNone (ptSome (dVar 3))))) (dLoc 5)))) (now (dat (dSl (dLoc 1) (ptSome (dVar 3)) ptNone)))))
    dSkip)
    (dSeq (dIf (tst (dBin gEq (dLoc 4) (now (dC (.int 1)))))
    (dRet (dBin gAdd (now (dat (dBin gAdd (now (dat (dSl (dLoc 1) ptNone (ptSome (dVar 3))))) (dLoc 5)))) (now (dat (dSl (dLoc 1) (ptSome (dat (dBin gAdd (dLoc 3) (now (dC (.int 1)))))) ptNone)))))
    dSkip)
    (dRet (dBin gAdd (now (dat (dSl (dLoc 1) ptNone (ptSome (dVar 3))))) (now (dat (dSl (dLoc 1) (ptSome (dat (dBin gAdd (dLoc 3) (now (dC (.int 1)))))) ptNone)))))))))))
def fLawBent : Fd := ⟨2, (some 0), runB (some 0) 6 dLawBent⟩
theorem npLawBent : fLawBent.np = 2 := (rfl)
theorem ownLawBent : fLawBent.own = (some 0) := (rfl)
theorem okLawBent {f : Addr} {fd : FuncData} (Fn : Fun K "_law_bent" "_law_bent" sLawBent f fd) (T : Txt K mg) (oLawDraw : Own P w K mg base "_law_draw" fLawDraw 1)  : FnOk P w K mg base (L2.CX P w) 2 f fd ["deck", "word"] (spD K mg fLawBent) :=
  fn_den (own := (some 0)) Fn scLawBent (by intro k hk; cases hk; decide) fun cdv A outer s H E F hr hn hp => by
    have sc := scLawBent
    have tk : Takes (cxOf (L2.CX P w) P w K mg base ["deck", "word", "signs", "at", "kind", "sign"] "_law_bent" (defScope sLawBent) f cdv A outer s H E) (fun cls d _ H => E cls d H) := takes_of rfl rfl rfl rfl
    let own : Option Nat := (some 0)
    exact (rss_cons (rs_asg (hp 2 (by decide)) (by rw [hn]; decide) sc.nd rfl (locv rfl) (RD.val rd_str))
    (rss_cons (rs_asg (hp 3 (by decide)) (by rw [hn]; decide) sc.nd rfl (locv rfl) (re_call oLawDraw (hr.mono (by decide)) (by rfl) tk (rol_cons (ro_loc rfl (vis_of rfl)) (rol_cons (RD.now (RE.dat (re_bin opd_add (RD.now (RE.dat (re_callB call_lenA sem_len (by rfl) T.b_len (by decide +kernel) (rol_cons (ro_loc rfl (vis_of rfl)) rol_nil)))) (RD.now rd_int)))) rol_nil))))
    (rss_cons (rs_asg (hp 4 (by decide)) (by rw [hn]; decide) sc.nd rfl (locv rfl) (re_call oLawDraw (hr.mono (by decide)) (by rfl) tk (rol_cons (ro_loc rfl (vis_of rfl)) (rol_cons (RD.now rd_int) rol_nil))))
    (rss_cons (rs_asg (hp 5 (by decide)) (by rw [hn]; decide) sc.nd rfl (locv rfl) (re_idx (ro_loc rfl (vis_of rfl)) (RD.now (RE.dat (re_call oLawDraw (hr.mono (by decide)) (by rfl) tk (rol_cons (ro_loc rfl (vis_of rfl)) (rol_cons (RD.now rd_int) rol_nil))))) (fun _ _ => rfl)))
    (rss_cons (rs_if (rt_cmp (opd_eq hr.units) (ro_loc rfl (vis_of rfl)) (RD.now rd_int) (nomark _))
    (rss_one (rs_ret (re_bin opd_add (RD.now (RE.dat (re_bin opd_add (RD.now (RE.dat (re_sl (ro_loc rfl (vis_of rfl)) rpt_none (rpt_some (rd_var (hp 3 (by decide)) rfl (vis_of rfl)))))) (ro_loc rfl (vis_of rfl))))) (RD.now (RE.dat (re_sl (ro_loc rfl (vis_of rfl)) (rpt_some (rd_var (hp 3 (by decide)) rfl (vis_of rfl))) rpt_none))))))
    rss_nil)
    (rss_cons (rs_if (rt_cmp (opd_eq hr.units) (ro_loc rfl (vis_of rfl)) (RD.now rd_int) (nomark _))
    (rss_one (rs_ret (re_bin opd_add (RD.now (RE.dat (re_bin opd_add (RD.now (RE.dat (re_sl (ro_loc rfl (vis_of rfl)) rpt_none (rpt_some (rd_var (hp 3 (by decide)) rfl (vis_of rfl)))))) (ro_loc rfl (vis_of rfl))))) (RD.now (RE.dat (re_sl (ro_loc rfl (vis_of rfl)) (rpt_some (RE.dat (re_bin opd_add (ro_loc rfl (vis_of rfl)) (RD.now rd_int)))) rpt_none))))))
    rss_nil)
    (rss_one (rs_ret (re_bin opd_add (RD.now (RE.dat (re_sl (ro_loc rfl (vis_of rfl)) rpt_none (rpt_some (rd_var (hp 3 (by decide)) rfl (vis_of rfl)))))) (RD.now (RE.dat (re_sl (ro_loc rfl (vis_of rfl)) (rpt_some (RE.dat (re_bin opd_add (ro_loc rfl (vis_of rfl)) (RD.now rd_int)))) rpt_none))))))))))))
/-! ### _law_read_name -/
abbrev sLawReadName : Stmt := topS 25
theorem scLawReadName : FnScope ["word", "line", "place", "digits", "plain", "number", "digit"] ["word", "line", "place"] (defScope sLawReadName) := ⟨rfl, rfl, rfl, by decide +kernel, rfl, by decide +kernel, by decide +kernel⟩
def dLawReadNameB1 : Den.Env → Res :=
  (dAsg 5 (dBin gAdd (now (dat (dBin gMul (dLoc 5) (now (dC (.int 10)))))) (now (dat (dM1 gIndexS (dC (.str "0123456789")) (dLoc 6))))))
def dLawReadName : Den.Env → Res :=
  (dSeq (dIf (tst (dCall fLawOnly (oCons (now (dVar 0)) (oCons (now (dC (.str "abcdefghijklmnopqrstuvwxyz0123456789"))) oNil))))
    (dRet (val (dTup [(dC (.str "read")), (dVar 0)])))
    dSkip)
    (dSeq (dAsg 3 (dSl (dLoc 0) (ptSome (dC (.int 1))) ptNone))
    (dSeq (dAsg 4 (dAnd (dCall fLawOnly (oCons (now (dVar 3)) (oCons (now (dC (.str "0123456789"))) oNil))) (dAnd (dBin gLt (now (dat (dCB gLen (oCons (dLoc 3) oNil)))) (now (dC (.int 5)))) (dBin gEq (now (dat (dIdx (dLoc 0) (now (dC (.int 0)))))) (now (dC (.str "#")))))))
    (dSeq (dIf (dAndT (tst (val (dVar 4))) (dOrT (tst (dBin gEq (dLoc 3) (now (dC (.str "0"))))) (tst (dBin gNe (now (dat (dIdx (dLoc 3) (now (dC (.int 0)))))) (now (dC (.str "0")))))))
    (dSeq (dAsg 5 (val (dC (.int 0))))
    (dSeq (dFor (dSeqI (dVar 3)) (sName 6)
    dLawReadNameB1)
    (dRet (val (dTup [(dC (.str "read")), (dVar 5)])))))
    dSkip)
    (dRet (val (dTup [(dC (.str "BadText")), (dVar 1), (dVar 2)])))))))
def fLawReadName : Fd := ⟨3, none, runB none 7 dLawReadName⟩
theorem npLawReadName : fLawReadName.np = 3 := (rfl)
theorem ownLawReadName : fLawReadName.own = none := (rfl)
theorem okLawReadName {f : Addr} {fd : FuncData} (Fn : Fun K "_law_read_name" "_law_read_name" sLawReadName f fd) (T : Txt K mg) (oLawOnly : Own P w K mg base "_law_only" fLawOnly 1)  : FnOk P w K mg base (L2.CX P w) 2 f fd ["word", "line", "place"] (spD K mg fLawReadName) :=
  fn_den (own := none) Fn scLawReadName (by intro k hk; cases hk) fun cdv A outer s H E F hr hn hp => by
    have sc := scLawReadName
    have tk : Takes (cxOf (L2.CX P w) P w K mg base ["word", "line", "place", "digits", "plain", "number", "digit"] "_law_read_name" (defScope sLawReadName) f cdv A outer s H E) (fun cls d _ H => E cls d H) := takes_of rfl rfl rfl rfl
    let own : Option Nat := none
    exact (rss_cons (rs_if (rt_val (re_call oLawOnly (hr.mono (by decide)) (by rfl) tk (rol_cons (RD.now (rd_var (hp 0 (by decide)) rfl (vis_of rfl))) (rol_cons (RD.now rd_str) rol_nil))))
    (rss_one (rs_ret (RD.val (rd_tup (rl_cons rd_str (rl_cons (rd_var (hp 0 (by decide)) rfl (vis_of rfl)) rl_nil))))))
    rss_nil)
    (rss_cons (rs_asg (hp 3 (by decide)) (by rw [hn]; decide) sc.nd rfl (locv rfl) (re_sl (ro_loc rfl (vis_of rfl)) (rpt_some rd_int) rpt_none))
    (rss_cons (rs_asg (hp 4 (by decide)) (by rw [hn]; decide) sc.nd rfl (locv rfl) (re_and (re_call oLawOnly (hr.mono (by decide)) (by rfl) tk (rol_cons (RD.now (rd_var (hp 3 (by decide)) rfl (vis_of rfl))) (rol_cons (RD.now rd_str) rol_nil))) (re_and (re_cmp opd_lt (RD.now (RE.dat (re_callB call_lenA sem_len (by rfl) T.b_len (by decide +kernel) (rol_cons (ro_loc rfl (vis_of rfl)) rol_nil)))) (RD.now rd_int) (nomark _)) (re_one (re_cmp (opd_eq hr.units) (RD.now (RE.dat (re_idx (ro_loc rfl (vis_of rfl)) (RD.now rd_int) (fun _ _ => rfl)))) (RD.now rd_str) (nomark _))))))
    (rss_cons (rs_if (RW.rt (rw_and (rt_val (RD.val (rd_var (hp 4 (by decide)) rfl (vis_of rfl)))) (rw_and1 (RW.rt (rw_or (rt_cmp (opd_eq hr.units) (ro_loc rfl (vis_of rfl)) (RD.now rd_str) (nomark _)) (rw_or1 (rt_cmp (opd_ne hr.units) (RD.now (RE.dat (re_idx (ro_loc rfl (vis_of rfl)) (RD.now rd_int) (fun _ _ => rfl)))) (RD.now rd_str) (nomark _))))))))
    (rss_cons (rs_asg (hp 5 (by decide)) (by rw [hn]; decide) sc.nd rfl (locv rfl) (RD.val rd_int))
    (rss_cons (rs_for (passes_of rfl) rfl (ri_seq (rd_var (hp 3 (by decide)) rfl (vis_of rfl))) (rg_name (hp 6 (by decide)) (by rw [hn]; decide) sc.nd rfl (locv rfl))
    (rss_one (rs_asg (hp 5 (by decide)) (by rw [hn]; decide) sc.nd rfl (locv rfl) (re_bin opd_add (RD.now (RE.dat (re_bin opd_mul (ro_loc rfl (vis_of rfl)) (RD.now rd_int)))) (RD.now (RE.dat (re_m1 PySem.F.slot_str_index PySem.F.type_str_index mt_sindex sem_indexS rd_str (ro_loc rfl (vis_of rfl)))))))))
    (rss_one (rs_ret (RD.val (rd_tup (rl_cons rd_str (rl_cons (rd_var (hp 5 (by decide)) rfl (vis_of rfl)) rl_nil))))))))
    rss_nil)
    (rss_one (rs_ret (RD.val (rd_tup (rl_cons rd_str (rl_cons (rd_var (hp 1 (by decide)) rfl (vis_of rfl)) (rl_cons (rd_var (hp 2 (by decide)) rfl (vis_of rfl)) rl_nil)))))))))))
/-! ### _law_read_path -/
abbrev sLawReadPath : Stmt := topS 26
theorem scLawReadPath : FnScope ["word", "line", "place", "parts", "sign", "part"] ["word", "line", "place"] (defScope sLawReadPath) := ⟨rfl, rfl, rfl, by decide +kernel, rfl, by decide +kernel, by decide +kernel⟩
def dLawReadPathB1 : Den.Env → Res :=
  (dIf (tst (dBin gEq (dLoc 4) (now (dC (.str ".")))))
    (dApp 3 (dC (.str "")))
    (dSet 3 (dat (dNeg (now (dC (.int 1))))) (dat (dBin gAdd (now (dat (dIdx (dLoc 3) (now (dat (dNeg (now (dC (.int 1))))))))) (dLoc 4)))))
def dLawReadPathB2 : Den.Env → Res :=
  (dIf (dNotT (tst (dCall fLawOnly (oCons (now (dVar 5)) (oCons (now (dC (.str "abcdefghijklmnopqrstuvwxyz"))) oNil)))))
    (dRet (val (dTup [(dC (.str "BadText")), (dVar 1), (dVar 2)])))
    dSkip)
def dLawReadPath : Den.Env → Res :=
  (dSeq (dIf (tst (dBin gEq (dLoc 0) (now (dC (.str ".")))))
    (dRet (val (dTup [(dC (.str "read")), (dTup [])])))
    dSkip)
    (dSeq (dAsg 3 (dLst [(dC (.str ""))]))
    (dSeq (dFor (dSeqI (dVar 0)) (sName 4)
    dLawReadPathB1)
    (dSeq (dFor (dSeqI (dVar 3)) (sName 5)
    dLawReadPathB2)
    (dRet (val (dTup [(dC (.str "read")), (dat (dCB gTuple (oCons (dLoc 3) oNil)))])))))))
def fLawReadPath : Fd := ⟨3, none, runB none 6 dLawReadPath⟩
theorem npLawReadPath : fLawReadPath.np = 3 := (rfl)
theorem ownLawReadPath : fLawReadPath.own = none := (rfl)
theorem okLawReadPath {f : Addr} {fd : FuncData} (Fn : Fun K "_law_read_path" "_law_read_path" sLawReadPath f fd) (T : Txt K mg) (oLawOnly : Own P w K mg base "_law_only" fLawOnly 1)  : FnOk P w K mg base (L2.CX P w) 2 f fd ["word", "line", "place"] (spD K mg fLawReadPath) :=
  fn_den (own := none) Fn scLawReadPath (by intro k hk; cases hk) fun cdv A outer s H E F hr hn hp => by
    have sc := scLawReadPath
    have tk : Takes (cxOf (L2.CX P w) P w K mg base ["word", "line", "place", "parts", "sign", "part"] "_law_read_path" (defScope sLawReadPath) f cdv A outer s H E) (fun cls d _ H => E cls d H) := takes_of rfl rfl rfl rfl
    let own : Option Nat := none
    exact (rss_cons (rs_if (rt_cmp (opd_eq hr.units) (ro_loc rfl (vis_of rfl)) (RD.now rd_str) (nomark _))
    (rss_one (rs_ret (RD.val (rd_tup (rl_cons rd_str (rl_cons (rd_tup rl_nil) rl_nil))))))
    rss_nil)
    (rss_cons (rs_asg (hp 3 (by decide)) (by rw [hn]; decide) sc.nd rfl (locv rfl) (re_lst (rl_cons rd_str rl_nil)))
    (rss_cons (rs_for (passes_of rfl) rfl (ri_seq (rd_var (hp 0 (by decide)) rfl (vis_of rfl))) (rg_name (hp 4 (by decide)) (by rw [hn]; decide) sc.nd rfl (locv rfl))
    (rss_one (rs_if (rt_cmp (opd_eq hr.units) (ro_loc rfl (vis_of rfl)) (RD.now rd_str) (nomark _))
    (rss_one (rs_app (loc_of rfl (vis_of rfl)) rd_str))
    (rss_one (rs_set (loc_of rfl (vis_of rfl)) (RE.dat (re_neg (RD.now rd_int))) (RE.dat (re_bin opd_add (RD.now (RE.dat (re_idx (ro_loc rfl (vis_of rfl)) (RD.now (RE.dat (re_neg (RD.now rd_int)))) (fun _ _ => rfl)))) (ro_loc rfl (vis_of rfl)))))))))
    (rss_cons (rs_for (passes_of rfl) rfl (ri_seq (rd_var (hp 3 (by decide)) rfl (vis_of rfl))) (rg_name (hp 5 (by decide)) (by rw [hn]; decide) sc.nd rfl (locv rfl))
    (rss_one (rs_if (rt_not (rt_val (re_call oLawOnly (hr.mono (by decide)) (by rfl) tk (rol_cons (RD.now (rd_var (hp 5 (by decide)) rfl (vis_of rfl))) (rol_cons (RD.now rd_str) rol_nil)))))
    (rss_one (rs_ret (RD.val (rd_tup (rl_cons rd_str (rl_cons (rd_var (hp 1 (by decide)) rfl (vis_of rfl)) (rl_cons (rd_var (hp 2 (by decide)) rfl (vis_of rfl)) rl_nil)))))))
    rss_nil)))
    (rss_one (rs_ret (RD.val (rd_tup (rl_cons rd_str (rl_cons (RE.dat (re_callTy call_tuple_of sem_tuple (by rfl) T.b_tuple (by decide +kernel) (rol_cons (ro_loc rfl (vis_of rfl)) rol_nil))) rl_nil))))))))))
/-! ### _law_tried -/
abbrev sLawTried : Stmt := topS 27
theorem scLawTried : FnScope ["word", "line", "place", "paths", "e"] ["word", "line", "place", "paths"] (defScope sLawTried) := ⟨rfl, rfl, rfl, by decide +kernel, rfl, by decide +kernel, by decide +kernel⟩
def dLawTriedY1 : Den.Env → Res :=
  (dSeq (dIf (tst (val (dVar 3)))
    (dRet (val (dTup [(dC (.str "read")), (dat (dCall fReadPath (oCons (now (dVar 0)) (oCons (now (dVar 1)) (oCons (now (dVar 2)) oNil)))))])))
    dSkip)
    (dRet (val (dTup [(dC (.str "read")), (dat (dCall fReadName (oCons (now (dVar 0)) (oCons (now (dVar 1)) (oCons (now (dVar 2)) oNil)))))]))))
def dLawTriedS1 : List (Str × D) → Den.Env → Res :=
  fun ff => (dRet (val (dTup [(dC (.str "BadText")), (dXf 4 ff "line"), (dXf 4 ff "word")])))
def dLawTried : Den.Env → Res :=
  (dTry 4 (fun c => ([("BadText", true)] : List (Str × Bool)).lookup c)
    dLawTriedY1 (fun _ => dLawTriedS1))
def fLawTried : Fd := ⟨4, none, runB none 5 dLawTried⟩
theorem npLawTried : fLawTried.np = 4 := (rfl)
theorem ownLawTried : fLawTried.own = none := (rfl)
theorem okLawTried {f : Addr} {fd : FuncData} (Fn : Fun K "_law_tried" "_law_tried" sLawTried f fd) (T : Txt K mg) (oReadPath : Own P w K mg base "read_path" fReadPath 3) (oReadName : Own P w K mg base "read_name" fReadName 3) (xBadText : XOwn P w K mg base "BadText" ["line", "word"] 1) : FnOk P w K mg base (L2.CX P w) 4 f fd ["word", "line", "place", "paths"] (spD K mg fLawTried) :=
  fn_den (own := none) Fn scLawTried (by intro k hk; cases hk) fun cdv A outer s H E F hr hn hp => by
    have sc := scLawTried
    have tk : Takes (cxOf (L2.CX P w) P w K mg base ["word", "line", "place", "paths", "e"] "_law_tried" (defScope sLawTried) f cdv A outer s H E) (fun cls d _ H => E cls d H) := takes_of rfl rfl rfl rfl
    let own : Option Nat := none
    exact (rss_one (rs_try (i := 4) (l := [("BadText", true)]) (fb := dLawTriedY1) (fs := fun _ => dLawTriedS1) T.k_BadText (by rfl) rfl rfl sc.nd rfl rfl tk (hp 4 (by decide)) (by rw [hn]; decide)
    (fun W1 pn1 xe1 tk1 => (rss_cons (rs_if (rt_val (RD.val (rd_var (hp 3 (by decide)) rfl (vis_of rfl))))
    (rss_one (rs_ret (RD.val (rd_tup (rl_cons rd_str (rl_cons (RE.dat (re_call oReadPath (hr.mono (by decide)) (by rfl) tk1 (rol_cons (RD.now (rd_var (hp 0 (by decide)) rfl (vis_of rfl))) (rol_cons (RD.now (rd_var (hp 1 (by decide)) rfl (vis_of rfl))) (rol_cons (RD.now (rd_var (hp 2 (by decide)) rfl (vis_of rfl))) rol_nil))))) rl_nil))))))
    rss_nil)
    (rss_one (rs_ret (RD.val (rd_tup (rl_cons rd_str (rl_cons (RE.dat (re_call oReadName (hr.mono (by decide)) (by rfl) tk1 (rol_cons (RD.now (rd_var (hp 0 (by decide)) rfl (vis_of rfl))) (rol_cons (RD.now (rd_var (hp 1 (by decide)) rfl (vis_of rfl))) (rol_cons (RD.now (rd_var (hp 2 (by decide)) rfl (vis_of rfl))) rol_nil))))) rl_nil))))))))
    (fun a1 oe1 cls1 d1 pm1 hz1 hd1 c1 ff1 F' hc1 h1' h2' htv1 hx1 => by
      obtain rfl := only1 hc1
      have hp' : ∀ i : Nat, own ≠ some i → F'.pw i = none := fun i h => (congrFun h2' i).trans (hp i h); have hn' := h1'.trans hn; exact (rss_one (rs_ret (RD.val (rd_tup (rl_cons rd_str (rl_cons (rd_xf xBadText hz1 hd1 htv1 hx1 (by decide) rfl (vis_of rfl)) (rl_cons (rd_xf xBadText hz1 hd1 htv1 hx1 (by decide) rfl (vis_of rfl)) rl_nil))) (hl := Nat.le_of_ble_eq_true rfl))))))))
/-! ### _law_base -/
abbrev sLawBase : Stmt := topS 28
theorem scLawBase : FnScope ["word", "e"] ["word"] (defScope sLawBase) := ⟨rfl, rfl, rfl, by decide +kernel, rfl, by decide +kernel, by decide +kernel⟩
def dLawBaseY1 : Den.Env → Res :=
  (dExpr (dCall fReadPath (oCons (now (dVar 0)) (oCons (now (dC (.int 1))) (oCons (now (dC (.int 2))) oNil)))))
def dLawBaseS1 : List (Str × D) → Den.Env → Res :=
  fun ff => (dRet (dAnd (dIsx 1 true) (dIsx 1 true)))
def dLawBase : Den.Env → Res :=
  (dSeq (dTry 1 (fun c => ([("BadText", true)] : List (Str × Bool)).lookup c)
    dLawBaseY1 (fun _ => dLawBaseS1))
    (dRet (val (dC (.bool false)))))
def fLawBase : Fd := ⟨1, none, runB none 2 dLawBase⟩
theorem npLawBase : fLawBase.np = 1 := (rfl)
theorem ownLawBase : fLawBase.own = none := (rfl)
theorem okLawBase {f : Addr} {fd : FuncData} (Fn : Fun K "_law_base" "_law_base" sLawBase f fd) (T : Txt K mg) (oReadPath : Own P w K mg base "read_path" fReadPath 3) (xBadText : XOwn P w K mg base "BadText" ["line", "word"] 1) : FnOk P w K mg base (L2.CX P w) 4 f fd ["word"] (spD K mg fLawBase) :=
  fn_den (own := none) Fn scLawBase (by intro k hk; cases hk) fun cdv A outer s H E F hr hn hp => by
    have sc := scLawBase
    have tk : Takes (cxOf (L2.CX P w) P w K mg base ["word", "e"] "_law_base" (defScope sLawBase) f cdv A outer s H E) (fun cls d _ H => E cls d H) := takes_of rfl rfl rfl rfl
    let own : Option Nat := none
    exact (rss_cons (rs_try (i := 1) (l := [("BadText", true)]) (fb := dLawBaseY1) (fs := fun _ => dLawBaseS1) T.k_FerryError (by rfl) rfl rfl sc.nd rfl rfl tk (hp 1 (by decide)) (by rw [hn]; decide)
    (fun W1 pn1 xe1 tk1 => (rss_one (rs_expr (re_call oReadPath (hr.mono (by decide)) (by rfl) tk1 (rol_cons (RD.now (rd_var (hp 0 (by decide)) rfl (vis_of rfl))) (rol_cons (RD.now rd_int) (rol_cons (RD.now rd_int) rol_nil)))))))
    (fun a1 oe1 cls1 d1 pm1 hz1 hd1 c1 ff1 F' hc1 h1' h2' htv1 hx1 => by
      obtain rfl := only1 hc1
      have hp' : ∀ i : Nat, own ≠ some i → F'.pw i = none := fun i h => (congrFun h2' i).trans (hp i h); have hn' := h1'.trans hn; exact (rss_one (rs_ret (re_and (re_isx T.i_BadText_ValueError hz1 hd1 htv1 hx1 (by rfl) T.b_isinstance (by rfl) rfl (vis_of rfl)) (re_one (re_isx T.i_BadText_BadText hz1 hd1 htv1 hx1 (by rfl) T.b_isinstance (by rfl) rfl (vis_of rfl))))))))
    (rss_one (rs_ret (RD.val rd_bl))))
/-! ### law -/
abbrev sLaw : Stmt := topS 29
theorem scLaw : FnScope ["script", "deck", "line", "place", "words", "turn", "name", "path", "told", "digits", "word", "k"] ["script"] (defScope sLaw) := ⟨rfl, rfl, rfl, by decide +kernel, rfl, by decide +kernel, by decide +kernel⟩
def dLawE1 : Den.Env → Out (D × Den.Env) :=
  (dat (dIdx (now (dC (.str "0123456789"))) (now (dat (dCall fLawDraw (oCons (dLoc 1) (oCons (now (dC (.int 10))) oNil)))))))
def dLawB1 : Den.Env → Res :=
  (dSeq (dAsg 6 (dCall fLawName (oCons (dLoc 1) oNil)))
    (dSeq (dAsg 7 (dCall fLawPath (oCons (dLoc 1) oNil)))
    (dSeq (dAsg 8 (dLst [(dat (dCall fWriteName (oCons (now (dVar 6)) oNil))), (dat (dCall fWritePath (oCons (now (dVar 7)) oNil)))]))
    (dSeq (dIf (dNotT (tst (dCall fLawSame (oCons (now (dVar 8)) (oCons (now (dat (dLst [(dat (dCall fLawWritten (oCons (now (dVar 6)) oNil))), (dat (dCall fLawWritten (oCons (now (dVar 7)) oNil)))]))) oNil)))))
    (dRet (val (dC (.bool false))))
    dSkip)
    (dSeq (dAsg 4 (dBin gAdd (now (dat (dBin gAdd (dLoc 4) (dLoc 8)))) (now (dat (dLst [(dat (dCall fLawBent (oCons (dLoc 1) (oCons (now (dat (dIdx (dLoc 8) (now (dC (.int 0)))))) oNil)))), (dat (dCall fLawBent (oCons (dLoc 1) (oCons (now (dat (dIdx (dLoc 8) (now (dC (.int 1)))))) oNil)))), (dat (dCall fLawText (oCons (dLoc 1) oNil)))])))))
    (dSeq (dAsg 9 (dM1 gJoin (dC (.str "")) (now (dat (dLC [11] (dRange1 (oCons (now (dat (dCall fLawDraw (oCons (dLoc 1) (oCons (now (dC (.int 7))) oNil))))) oNil)) (sName 11) dTrue dLawE1)))))
    (dApp 4 (dat (dBin gAdd (now (dC (.str "#"))) (dLoc 9))))))))))
def dLawB2 : Den.Env → Res :=
  (dSeq (dAsg 8 (dLst [(dat (dCall fLawTried (oCons (now (dVar 10)) (oCons (now (dVar 2)) (oCons (now (dVar 3)) (oCons (now (dC (.bool false))) oNil)))))), (dat (dCall fLawTried (oCons (now (dVar 10)) (oCons (now (dVar 2)) (oCons (now (dVar 3)) (oCons (now (dC (.bool true))) oNil))))))]))
    (dSeq (dIf (dNotT (tst (dCall fLawSame (oCons (now (dVar 8)) (oCons (now (dat (dLst [(dat (dCall fLawReadName (oCons (now (dVar 10)) (oCons (now (dVar 2)) (oCons (now (dVar 3)) oNil))))), (dat (dCall fLawReadPath (oCons (now (dVar 10)) (oCons (now (dVar 2)) (oCons (now (dVar 3)) oNil)))))]))) oNil)))))
    (dRet (val (dC (.bool false))))
    dSkip)
    (dSeq (dIf (dAndT (tst (dBin gEq (now (dat (dIdx (now (dat (dIdx (dLoc 8) (now (dC (.int 0)))))) (now (dC (.int 0)))))) (now (dC (.str "read"))))) (dNotT (tst (dCall fLawSame (oCons (now (dat (dCall fWriteName (oCons (now (dat (dIdx (now (dat (dIdx (dLoc 8) (now (dC (.int 0)))))) (now (dC (.int 1)))))) oNil)))) (oCons (now (dVar 10)) oNil))))))
    (dRet (val (dC (.bool false))))
    dSkip)
    (dIf (dAndT (tst (dBin gEq (now (dat (dIdx (now (dat (dIdx (dLoc 8) (now (dC (.int 1)))))) (now (dC (.int 0)))))) (now (dC (.str "read"))))) (dNotT (tst (dCall fLawSame (oCons (now (dat (dCall fWritePath (oCons (now (dat (dIdx (now (dat (dIdx (dLoc 8) (now (dC (.int 1)))))) (now (dC (.int 1)))))) oNil)))) (oCons (now (dVar 10)) oNil))))))
    (dRet (val (dC (.bool false))))
    dSkip))))
def dLaw : Den.Env → Res :=
  (dSeq (dAsg 1 (dCall fLawDeck (oCons (now (dVar 0)) oNil)))
    (dSeq (dAsg 2 (dIdx (now (dat (dLst [(dat (dCall fLawDraw (oCons (dLoc 1) (oCons (now (dC (.int 5))) oNil)))), (dat (dBin gAdd (now (dat (dBin gMul (now (dat (dCall fLawDraw (oCons (dLoc 1) (oCons (now (dat (dBin gPow (now (dC (.int 10))) (now (dC (.int 4)))))) oNil))))) (now (dat (dBin gPow (now (dC (.int 10))) (now (dC (.int 8))))))))) (now (dC (.int 7)))))]))) (now (dat (dCall fLawDraw (oCons (dLoc 1) (oCons (now (dC (.int 2))) oNil)))))))
    (dSeq (dAsg 3 (dCall fLawDraw (oCons (dLoc 1) (oCons (now (dC (.int 9))) oNil))))
    (dSeq (dAsg 4 (dLst [(dC (.str "")), (dC (.str ".")), (dC (.str "..")), (dC (.str "#")), (dC (.str "#0")), (dC (.str "#00")), (dC (.str "#9999")), (dC (.str "#10000")), (dC (.str "a.")), (dC (.str ".a")), (dC (.str "a..b")), (dC (.str "0")), (dC (.str "07")), (dC (.str "abcdefghi"))]))
    (dSeq (dFor (dRange1 (oCons (now (dC (.int 4))) oNil)) (sName 5)
    dLawB1)
    (dSeq (dFor (dSeqI (dVar 4)) (sName 10)
    dLawB2)
    (dRet (dAnd (dCall fLawBase (oCons (now (dC (.str "A"))) oNil)) (dCall fLawBase (oCons (now (dC (.str ""))) oNil))))))))))
def fLaw : Fd := ⟨1, none, runB none 12 dLaw⟩
theorem npLaw : fLaw.np = 1 := (rfl)
theorem ownLaw : fLaw.own = none := (rfl)
theorem okLaw {f : Addr} {fd : FuncData} (Fn : Fun K "law" "law" sLaw f fd) (T : Txt K mg) (oLawDeck : Own P w K mg base "_law_deck" fLawDeck 1) (oLawDraw : Own P w K mg base "_law_draw" fLawDraw 1) (oLawName : Own P w K mg base "_law_name" fLawName 2) (oLawPath : Own P w K mg base "_law_path" fLawPath 3) (oWriteName : Own P w K mg base "write_name" fWriteName 1) (oWritePath : Own P w K mg base "write_path" fWritePath 1) (oLawWritten : Own P w K mg base "_law_written" fLawWritten 1) (oLawSame : Own P w K mg base "_law_same" fLawSame 1) (oLawBent : Own P w K mg base "_law_bent" fLawBent 2) (oLawText : Own P w K mg base "_law_text" fLawText 2) (oLawTried : Own P w K mg base "_law_tried" fLawTried 4) (oLawReadName : Own P w K mg base "_law_read_name" fLawReadName 2) (oLawReadPath : Own P w K mg base "_law_read_path" fLawReadPath 2) (oLawBase : Own P w K mg base "_law_base" fLawBase 4)  : FnOk P w K mg base (L2.CX P w) 5 f fd ["script"] (spD K mg fLaw) :=
  fn_den (own := none) Fn scLaw (by intro k hk; cases hk) fun cdv A outer s H E F hr hn hp => by
    have sc := scLaw
    have tk : Takes (cxOf (L2.CX P w) P w K mg base ["script", "deck", "line", "place", "words", "turn", "name", "path", "told", "digits", "word", "k"] "law" (defScope sLaw) f cdv A outer s H E) (fun cls d _ H => E cls d H) := takes_of rfl rfl rfl rfl
    let own : Option Nat := none
    exact (rss_cons (rs_asg (hp 1 (by decide)) (by rw [hn]; decide) sc.nd rfl (locv rfl) (re_call oLawDeck (hr.mono (by decide)) (by rfl) tk (rol_cons (RD.now (rd_var (hp 0 (by decide)) rfl (vis_of rfl))) rol_nil)))
    (rss_cons (rs_asg (hp 2 (by decide)) (by rw [hn]; decide) sc.nd rfl (locv rfl) (re_idx (RD.now (RE.dat (re_lst (rl_cons (RE.dat (re_call oLawDraw (hr.mono (by decide)) (by rfl) tk (rol_cons (ro_loc rfl (vis_of rfl)) (rol_cons (RD.now rd_int) rol_nil)))) (rl_cons (RE.dat (re_bin opd_add (RD.now (RE.dat (re_bin opd_mul (RD.now (RE.dat (re_call oLawDraw (hr.mono (by decide)) (by rfl) tk (rol_cons (ro_loc rfl (vis_of rfl)) (rol_cons (RD.now (RE.dat (re_bin opd_pow (RD.now rd_int) (RD.now rd_int)))) rol_nil))))) (RD.now (RE.dat (re_bin opd_pow (RD.now rd_int) (RD.now rd_int))))))) (RD.now rd_int))) rl_nil))))) (RD.now (RE.dat (re_call oLawDraw (hr.mono (by decide)) (by rfl) tk (rol_cons (ro_loc rfl (vis_of rfl)) (rol_cons (RD.now rd_int) rol_nil))))) (fun _ _ => rfl)))
    (rss_cons (rs_asg (hp 3 (by decide)) (by rw [hn]; decide) sc.nd rfl (locv rfl) (re_call oLawDraw (hr.mono (by decide)) (by rfl) tk (rol_cons (ro_loc rfl (vis_of rfl)) (rol_cons (RD.now rd_int) rol_nil))))
    (rss_cons (rs_asg (hp 4 (by decide)) (by rw [hn]; decide) sc.nd rfl (locv rfl) (re_lst (rl_cons rd_str (rl_cons rd_str (rl_cons rd_str (rl_cons rd_str (rl_cons rd_str (rl_cons rd_str (rl_cons rd_str (rl_cons rd_str (rl_cons rd_str (rl_cons rd_str (rl_cons rd_str (rl_cons rd_str (rl_cons rd_str (rl_cons rd_str rl_nil))))))))))))))))
    (rss_cons (rs_for (passes_of rfl) rfl (ri_range1 (by rfl) T.b_range (rol_cons (RD.now rd_int) rol_nil)) (rg_name (hp 5 (by decide)) (by rw [hn]; decide) sc.nd rfl (locv rfl))
    (rss_cons (rs_asg (hp 6 (by decide)) (by rw [hn]; decide) sc.nd rfl (locv rfl) (re_call oLawName (hr.mono (by decide)) (by rfl) tk (rol_cons (ro_loc rfl (vis_of rfl)) rol_nil)))
    (rss_cons (rs_asg (hp 7 (by decide)) (by rw [hn]; decide) sc.nd rfl (locv rfl) (re_call oLawPath (hr.mono (by decide)) (by rfl) tk (rol_cons (ro_loc rfl (vis_of rfl)) rol_nil)))
    (rss_cons (rs_asg (hp 8 (by decide)) (by rw [hn]; decide) sc.nd rfl (locv rfl) (re_lst (rl_cons (RE.dat (re_call oWriteName (hr.mono (by decide)) (by rfl) tk (rol_cons (RD.now (rd_var (hp 6 (by decide)) rfl (vis_of rfl))) rol_nil))) (rl_cons (RE.dat (re_call oWritePath (hr.mono (by decide)) (by rfl) tk (rol_cons (RD.now (rd_var (hp 7 (by decide)) rfl (vis_of rfl))) rol_nil))) rl_nil))))
    (rss_cons (rs_if (rt_not (rt_val (re_call oLawSame (hr.mono (by decide)) (by rfl) tk (rol_cons (RD.now (rd_var (hp 8 (by decide)) rfl (vis_of rfl))) (rol_cons (RD.now (RE.dat (re_lst (rl_cons (RE.dat (re_call oLawWritten (hr.mono (by decide)) (by rfl) tk (rol_cons (RD.now (rd_var (hp 6 (by decide)) rfl (vis_of rfl))) rol_nil))) (rl_cons (RE.dat (re_call oLawWritten (hr.mono (by decide)) (by rfl) tk (rol_cons (RD.now (rd_var (hp 7 (by decide)) rfl (vis_of rfl))) rol_nil))) rl_nil))))) rol_nil)))))
    (rss_one (rs_ret (RD.val rd_bl)))
    rss_nil)
    (rss_cons (rs_asg (hp 4 (by decide)) (by rw [hn]; decide) sc.nd rfl (locv rfl) (re_bin opd_add (RD.now (RE.dat (re_bin opd_add (ro_loc rfl (vis_of rfl)) (ro_loc rfl (vis_of rfl))))) (RD.now (RE.dat (re_lst (rl_cons (RE.dat (re_call oLawBent (hr.mono (by decide)) (by rfl) tk (rol_cons (ro_loc rfl (vis_of rfl)) (rol_cons (RD.now (RE.dat (re_idx (ro_loc rfl (vis_of rfl)) (RD.now rd_int) (fun _ _ => rfl)))) rol_nil)))) (rl_cons (RE.dat (re_call oLawBent (hr.mono (by decide)) (by rfl) tk (rol_cons (ro_loc rfl (vis_of rfl)) (rol_cons (RD.now (RE.dat (re_idx (ro_loc rfl (vis_of rfl)) (RD.now rd_int) (fun _ _ => rfl)))) rol_nil)))) (rl_cons (RE.dat (re_call oLawText (hr.mono (by decide)) (by rfl) tk (rol_cons (ro_loc rfl (vis_of rfl)) rol_nil))) rl_nil))))))))
    (rss_cons (rs_asg (hp 9 (by decide)) (by rw [hn]; decide) sc.nd rfl (locv rfl) (re_m1 PySem.F.slot_str_join PySem.F.type_str_join mt_join sem_join rd_str (RD.now (RE.dat (re_lc (own := [("k", 11)]) (ts := [11]) rfl sc.nd (ri_range1 (by rfl) T.b_range (rol_cons (RD.now (RE.dat (re_call oLawDraw (hr.mono (by decide)) (by rfl) tk (rol_cons (ro_loc rfl (vis_of rfl)) (rol_cons (RD.now rd_int) rol_nil))))) rol_nil)) (blkOk_by (N := ["script", "deck", "line", "place", "words", "turn", "name", "path", "told", "digits", "word", "k"]) (sc := defScope sLaw) (by decide +kernel)) (by intro v hv; have hv := hv; simp at hv; subst hv ; exact hp _ (by decide)) (by decide) (rgf_name (hp 11 (by decide)) (by rw [hn]; decide) (by rintro _ ⟨_, _, _, _, _, rfl⟩; exact ⟨sc.nd, rfl, locv rfl, by first | exact .inr rfl | exact .inl rfl⟩)) (fun F' h1' h2' X' hX' => by obtain ⟨s', H', C', cl', fp', rfl⟩ := hX'; have hp' : ∀ i : Nat, own ≠ some i → F'.pw i = none := fun i h => (congrFun h2' i).trans (hp i h); have hn' := h1'.trans hn; exact rts_nil) (fun F' h1' h2' X' hX' => by obtain ⟨s', H', C', cl', fp', rfl⟩ := hX'; have hp' : ∀ i : Nat, own ≠ some i → F'.pw i = none := fun i h => (congrFun h2' i).trans (hp i h); have hn' := h1'.trans hn; exact (RE.dat (re_idx (RD.now rd_str) (RD.now (RE.dat (re_call oLawDraw (hr.mono (by decide)) (by rfl) takes0 (rol_cons (ro_loc rfl (vis_of rfl)) (rol_cons (RD.now rd_int) rol_nil))))) (fun _ _ => rfl)))))))))
    (rss_one (rs_app (loc_of rfl (vis_of rfl)) (RE.dat (re_bin opd_add (RD.now rd_str) (ro_loc rfl (vis_of rfl)))))))))))))
    (rss_cons (rs_for (passes_of rfl) rfl (ri_seq (rd_var (hp 4 (by decide)) rfl (vis_of rfl))) (rg_name (hp 10 (by decide)) (by rw [hn]; decide) sc.nd rfl (locv rfl))
    (rss_cons (rs_asg (hp 8 (by decide)) (by rw [hn]; decide) sc.nd rfl (locv rfl) (re_lst (rl_cons (RE.dat (re_call oLawTried (hr.mono (by decide)) (by rfl) tk (rol_cons (RD.now (rd_var (hp 10 (by decide)) rfl (vis_of rfl))) (rol_cons (RD.now (rd_var (hp 2 (by decide)) rfl (vis_of rfl))) (rol_cons (RD.now (rd_var (hp 3 (by decide)) rfl (vis_of rfl))) (rol_cons (RD.now rd_bl) rol_nil)))))) (rl_cons (RE.dat (re_call oLawTried (hr.mono (by decide)) (by rfl) tk (rol_cons (RD.now (rd_var (hp 10 (by decide)) rfl (vis_of rfl))) (rol_cons (RD.now (rd_var (hp 2 (by decide)) rfl (vis_of rfl))) (rol_cons (RD.now (rd_var (hp 3 (by decide)) rfl (vis_of rfl))) (rol_cons (RD.now rd_bl) rol_nil)))))) rl_nil))))
    (rss_cons (rs_if (rt_not (rt_val (re_call oLawSame (hr.mono (by decide)) (by rfl) tk (rol_cons (RD.now (rd_var (hp 8 (by decide)) rfl (vis_of rfl))) (rol_cons (RD.now (RE.dat (re_lst (rl_cons (RE.dat (re_call oLawReadName (hr.mono (by decide)) (by rfl) tk (rol_cons (RD.now (rd_var (hp 10 (by decide)) rfl (vis_of rfl))) (rol_cons (RD.now (rd_var (hp 2 (by decide)) rfl (vis_of rfl))) (rol_cons (RD.now (rd_var (hp 3 (by decide)) rfl (vis_of rfl))) rol_nil))))) (rl_cons (RE.dat (re_call oLawReadPath (hr.mono (by decide)) (by rfl) tk (rol_cons (RD.now (rd_var (hp 10 (by decide)) rfl (vis_of rfl))) (rol_cons (RD.now (rd_var (hp 2 (by decide)) rfl (vis_of rfl))) (rol_cons (RD.now (rd_var (hp 3 (by decide)) rfl (vis_of rfl))) rol_nil))))) rl_nil))))) rol_nil)))))
    (rss_one (rs_ret (RD.val rd_bl)))
    rss_nil)
    (rss_cons (rs_if (RW.rt (rw_and (rt_cmp (opd_eq hr.units) (RD.now (RE.dat (re_idx (RD.now (RE.dat (re_idx (ro_loc rfl (vis_of rfl)) (RD.now rd_int) (fun _ _ => rfl)))) (RD.now rd_int) (fun _ _ => rfl)))) (RD.now rd_str) (nomark _)) (rw_and1 (rt_not (rt_val (re_call oLawSame (hr.mono (by decide)) (by rfl) tk (rol_cons (RD.now (RE.dat (re_call oWriteName (hr.mono (by decide)) (by rfl) tk (rol_cons (RD.now (RE.dat (re_idx (RD.now (RE.dat (re_idx (ro_loc rfl (vis_of rfl)) (RD.now rd_int) (fun _ _ => rfl)))) (RD.now rd_int) (fun _ _ => rfl)))) rol_nil)))) (rol_cons (RD.now (rd_var (hp 10 (by decide)) rfl (vis_of rfl))) rol_nil))))))))
    (rss_one (rs_ret (RD.val rd_bl)))
    rss_nil)
    (rss_one (rs_if (RW.rt (rw_and (rt_cmp (opd_eq hr.units) (RD.now (RE.dat (re_idx (RD.now (RE.dat (re_idx (ro_loc rfl (vis_of rfl)) (RD.now rd_int) (fun _ _ => rfl)))) (RD.now rd_int) (fun _ _ => rfl)))) (RD.now rd_str) (nomark _)) (rw_and1 (rt_not (rt_val (re_call oLawSame (hr.mono (by decide)) (by rfl) tk (rol_cons (RD.now (RE.dat (re_call oWritePath (hr.mono (by decide)) (by rfl) tk (rol_cons (RD.now (RE.dat (re_idx (RD.now (RE.dat (re_idx (ro_loc rfl (vis_of rfl)) (RD.now rd_int) (fun _ _ => rfl)))) (RD.now rd_int) (fun _ _ => rfl)))) rol_nil)))) (rol_cons (RD.now (rd_var (hp 10 (by decide)) rfl (vis_of rfl))) rol_nil))))))))
    (rss_one (rs_ret (RD.val rd_bl)))
    rss_nil))))))
    (rss_one (rs_ret (re_and (re_call oLawBase (hr.mono (by decide)) (by rfl) tk (rol_cons (RD.now rd_str) rol_nil)) (re_one (re_call oLawBase (hr.mono (by decide)) (by rfl) tk (rol_cons (RD.now rd_str) rol_nil))))))))))))
end
end K04

namespace K04
open PySem PySem.Spec L2 Den Com
local macro_rules | `(tactic| walk_at "den") => `(tactic| simp only [bind_ok, bind_exc, rbind_nx, rbind_ret, rbind_brk, rbind_ct, rbind_exc, ofOut_ok, ofOut_exc, chT_t, chT_f, chV_t, chV_f, chR_t, chR_f, e_okT, e_okV, k_dat, k_val, k_now, k_bin1, k_bin2, k_andT, k_orT, k_notT, k_and, k_or, k_not, k_ite, k_ch1, k_ch2, k_ch3, k_l1, k_l2, k_tup, k_lst, k_o1, k_o2, k_CB, k_call, k_s1, k_s2, k_s3, k_isi, k_isiT, k_neg, k_expr, k_if, k_asg, k_asgT, k_for, k_app, appStart_some, k_set1, k_set2, setStart_some, k_seqI, k_rng, k_enum, k_rev, k_lc1, k_lc2, e_dat, e_val, e_now, e_C, look_cons_zero, look_cons_succ, e_loc, locOf_some, e_var, varOf_sh, varOf_ow, e_mov, movOf_sh, movOf_ow, res_now, res_slot, Option.map_some, data_sh, data_ow, slotD_sh, slotD_ow, fin2_some, e_bin, e_idx, rvOut_some, slot_val, slot_newT, slot_newL, e_tst, tstOf_b, e_andT, e_orT, e_notT, e_and, e_or, e_not, e_ite, e_chain, e_dList_nil, e_dList_cons, e_tup, e_lst, e_oNil, e_oCons, finC_some, e_CB, cons2_some, resAll_nil, resAll_cons, e_call, callOf_some, callBack_ok, e_ptNone, e_ptSome, ptOf_int, slOf_some, e_sl, isiOf_some, e_isi, e_isiT, e_neg, negOf_int, e_seq, e_skip, e_ret, e_retN, e_brk, e_ct, e_expr, e_if, e_asg, nxO_some, e_asgT, e_sName, e_sTup, e_sCons, e_sNil, Option.bind_some, e_for, owOf_ow, e_app, e_pop, popOf_app, e_set, setOf_int, setOf2_some, e_seqI, itOf_some, items_list, items_tuple, items_str, e_range1, e_enum, enumOf_list, e_rev, e_true, e_lc, e_wipe_nil, e_wipe_cons, e_back_nil, e_back_cons, back1_none, back1_sh, v_addI, v_subI, v_ltI, v_leI, v_gtI, v_geI, v_eqI, v_eqS, v_neI, v_neS, v_neB, v_int, v_lenL, v_lenT, v_idxL, v_idxT, valOpt_some, v_isN, v_isNN, n_none, n_bool, n_int, n_str, n_list, n_tuple, v_slL, List.set_cons_zero, List.set_cons_succ, at0, at1, at2, at3, ix0, ix1, ix2, List.length_cons, List.length_nil, is_int_none, is_int_bool, is_int_int, is_int_str, is_int_list, is_int_tuple, is_str_none, is_str_bool, is_str_int, is_str_str, is_str_list, is_str_tuple, is_bool_none, is_bool_bool, is_bool_int, is_bool_str, is_bool_list, is_bool_tuple, is_tuple_none, is_tuple_bool, is_tuple_int, is_tuple_str, is_tuple_list, is_tuple_tuple, is_list_none, is_list_bool, is_list_int, is_list_str, is_list_list, is_list_tuple, iss_tuple_list_none, iss_tuple_list_bool, iss_tuple_list_int, iss_tuple_list_str, iss_tuple_list_list, iss_tuple_list_tuple, iss_list_tuple_none, iss_list_tuple_bool, iss_list_tuple_int, iss_list_tuple_str, iss_list_tuple_list, iss_list_tuple_tuple, iss_int_str_none, iss_int_str_bool, iss_int_str_int, iss_int_str_str, iss_int_str_list, iss_int_str_tuple, iss_str_int_none, iss_str_int_bool, iss_str_int_int, iss_str_int_str, iss_str_int_list, iss_str_int_tuple, beq_self_eq_true, v_inF, v_inT, ch1_le, ch1_lt, ch2_t, ch2_f, ch3_le, ch3_lt, argD_nil, argD_now, argD_now0, argD_own0, asL_some, put_none, put_0, Nat.zero_add, Nat.reduceAdd, ↓reduceIte, e_raise, k_raise1, k_raise2, k_raise3, e_try, k_try_nx, k_try_ret, k_try_brk, k_try_ct, k_try_exc, k_hit_t, k_hit_f, wipe_nx, wipe_ret, wipe_brk, wipe_ct, lookup1, e_xf, xfOf_0, xfOf_1, e_isx, isxOf_tk, finM_some, k_M1, k_M2, e_M1, v_intI, v_intB, npSpelled, ownSpelled, npIsName, ownIsName, npIsKnown, ownIsKnown, npWriteName, ownWriteName, npWritePath, ownWritePath, npReadName, ownReadName, npReadPath, ownReadPath, npLawDeck, ownLawDeck, npLawDraw, ownLawDraw, npLawWord, ownLawWord, npLawSame, ownLawSame, npLawText, ownLawText, npLawOnly, ownLawOnly, npLawName, ownLawName, npLawPath, ownLawPath, npLawWritten, ownLawWritten, npLawBent, ownLawBent, npLawReadName, ownLawReadName, npLawReadPath, ownLawReadPath, npLawTried, ownLawTried, npLawBase, ownLawBase, npLaw, ownLaw, Bool.not_true, Bool.not_false, decide_true, decide_false])
/-! ### the looks -/
def isN (s : Str) : D → Bool
  | .str z => decide ((1 : Int) ≤ z.length) && decide ((z.length : Int) ≤ 8) && z.cps.toList.all fun c => decide (c ∈ s.cps.toList)
  | _ => false
theorem filt_all (p : Nat → Bool) : ∀ l : List Nat, (((l.filter fun c => !p c).length : Int) == 0) = l.all p
  | [] => rfl
  | a :: l => by
    rw [List.filter_cons, List.all_cons]
    cases h : p a with
    | true =>
      rw [if_neg (by simp), filt_all p l, Bool.true_and]
    | false =>
      rw [if_pos (by simp), List.length_cons, Bool.false_and]
      rw [beq_eq_false_iff_ne]
      omega
theorem spelled_run {z s : Str} (h : z.length ≤ 1000) : fSpelled.run [.str z, .str s] = .ok (.sh (.bool (isN s (.str z))), []) := by
  have key : ∃ ρ, dSpelled [some (.sh (.str z)), some (.sh (.str s)), none] = .ret (.sh (.bool (isN s (.str z)))) ρ := by
    unfold dSpelled isN
    walk_at "den"
    rw [v_lenS (by omega)]
    walk_at "den"
    by_cases h1 : (1 : Int) ≤ z.length
    · rw [decide_eq_true h1]
      walk_at "den"
      by_cases h2 : (z.length : Int) ≤ 8
      · rw [decide_eq_true h2]
        walk_at "den"
        rw [lcGo_eq (by rw [signs_len]; omega)]
        walk_at "den"
        unfold signs
        rw [lc_onAll _ (fun c => .bool (decide (c ∈ s.cps.toList))) (fun c _ => by
          refine ⟨_, [some (.sh (.str z)), some (.sh (.str s)), some (.sh (.str ⟨#[c]⟩))], rfl, ?_, rfl⟩
          show dSpelledE1 [some (.sh (.str z)), some (.sh (.str s)), some (.sh (.str ⟨#[c]⟩))] = _
          unfold dSpelledE1
          walk_at "den")]
        walk_at "den"
        rw [v_allB (bools_map (fun c => decide (c ∈ s.cps.toList)) z.cps.toList)]
        walk_at "den"
        rw [List.all_map, Bool.true_and, Bool.true_and]
        exact ⟨_, rfl⟩
      · rw [decide_eq_false h2]
        walk_at "den"
        rw [Bool.and_false, Bool.false_and]
        exact ⟨_, rfl⟩
    · rw [decide_eq_false h1]
      walk_at "den"
      rw [Bool.false_and, Bool.false_and]
      exact ⟨_, rfl⟩
  obtain ⟨ρ, e⟩ := key
  exact run_ret (own := none) (n := 3) (f := dSpelled) (ds := [.str z, .str s]) e

theorem only_run {z s : Str} (h : z.length ≤ 1000) : fLawOnly.run [.str z, .str s] = .ok (.sh (.bool (isN s (.str z))), []) := by
  have key : ∃ ρ, dLawOnly [some (.sh (.str z)), some (.sh (.str s)), none] = .ret (.sh (.bool (isN s (.str z)))) ρ := by
    unfold dLawOnly isN
    walk_at "den"
    rw [v_lenS (by omega)]
    walk_at "den"
    by_cases h1 : (1 : Int) ≤ z.length
    · rw [decide_eq_true h1]
      walk_at "den"
      by_cases h2 : (z.length : Int) ≤ 8
      · rw [decide_eq_true h2]
        walk_at "den"
        rw [lcGo_eq (by rw [signs_len]; omega)]
        walk_at "den"
        unfold signs
        rw [lc_on _ (fun c => !decide (c ∈ s.cps.toList)) (fun c => .str ⟨#[c]⟩) (fun c _ => by
          refine ⟨_, [some (.sh (.str z)), some (.sh (.str s)), some (.sh (.str ⟨#[c]⟩))], rfl, ?_, fun _ => rfl, fun _ => ⟨[some (.sh (.str z)), some (.sh (.str s)), some (.sh (.str ⟨#[c]⟩))], ?_, rfl⟩⟩
          · show dLawOnlyT1 [some (.sh (.str z)), some (.sh (.str s)), some (.sh (.str ⟨#[c]⟩))] = _
            unfold dLawOnlyT1
            walk_at "den"
          · unfold dLawOnlyE1
            walk_at "den")]
        walk_at "den"
        rw [List.length_map, filt_all]
        rw [Bool.true_and, Bool.true_and]
        exact ⟨_, rfl⟩
      · rw [decide_eq_false h2]
        walk_at "den"
        rw [Bool.and_false, Bool.false_and]
        exact ⟨_, rfl⟩
    · rw [decide_eq_false h1]
      walk_at "den"
      rw [Bool.false_and, Bool.false_and]
      exact ⟨_, rfl⟩
  obtain ⟨ρ, e⟩ := key
  exact run_ret (own := none) (n := 3) (f := dLawOnly) (ds := [.str z, .str s]) e
theorem isName_run {z : Str} (h : z.length ≤ 1000) : fIsName.run [.str z] = .ok (.sh (.bool (isN "abcdefghijklmnopqrstuvwxyz" (.str z))), []) := by
  have key : ∃ ρ, dIsName [some (.sh (.str z))] = .ret (.sh (.bool (isN "abcdefghijklmnopqrstuvwxyz" (.str z)))) ρ := by
    unfold dIsName
    walk_at "den"
    rw [spelled_run h]
    walk_at "den"
    exact ⟨_, rfl⟩
  obtain ⟨ρ, e⟩ := key
  exact run_ret (own := none) (n := 1) (f := dIsName) (ds := [.str z]) e
theorem alnum : (("abcdefghijklmnopqrstuvwxyz" : Str) ++ ("0123456789" : Str)) = ("abcdefghijklmnopqrstuvwxyz0123456789" : Str) := by decide +kernel
theorem add_alnum : gAdd (.str "abcdefghijklmnopqrstuvwxyz") (.str "0123456789") = some (.val (.str "abcdefghijklmnopqrstuvwxyz0123456789")) := by
  rw [v_addS (by decide +kernel), alnum]

theorem isKnown_run {z : Str} (h : z.length ≤ 1000) : fIsKnown.run [.str z] = .ok (.sh (.bool (isN "abcdefghijklmnopqrstuvwxyz0123456789" (.str z))), []) := by
  have key : ∃ ρ, dIsKnown [some (.sh (.str z))] = .ret (.sh (.bool (isN "abcdefghijklmnopqrstuvwxyz0123456789" (.str z)))) ρ := by
    unfold dIsKnown
    walk_at "den"
    rw [add_alnum]
    walk_at "den"
    rw [spelled_run h]
    walk_at "den"
    exact ⟨_, rfl⟩
  obtain ⟨ρ, e⟩ := key
  exact run_ret (own := none) (n := 1) (f := dIsKnown) (ds := [.str z]) e
def Txt1 (x : D) : Prop := ∃ z : Str, x = .str z ∧ 1 ≤ z.length ∧ z.length ≤ 200
theorem draw_it {l : List D} (h : Deck l) {m : Int} (hm : 0 < m ∧ m < 1073741824) : ∃ (n : Int) (l' : List D), fLawDraw.run [.list l, .int m] = .ok (.sh (.int n), l') ∧ 0 ≤ n ∧ n < m ∧ Deck l' := draw_run h hm.1 hm.2
theorem deck_it (ns : List Int) (h : ns.length ≤ 63) : ∃ l, fLawDeck.run [.list (ns.map .int)] = .ok (.ow l, []) ∧ Deck l := deck_run ns h
theorem same_it {d : D} {n : Nat} (h : Sz d n) (hn : n < 200000) : fLawSame.run [d, d] = .ok (.sh (.bool true), []) := same_run h hn
theorem text_run {l : List D} (h : Deck l) : ∃ (z : Str) (l' : List D), fLawText.run [.list l] = .ok (.sh (.str z), l') ∧ z.length ≤ 900 ∧ Deck l' := by
  have key : ∃ (z : Str) (l' : List D) (ρ : Den.Env), dLawText [some (.ow l), none, none, none, none, none, none, none] = .ret (.sh (.str z)) (some (.ow l') :: ρ) ∧ z.length ≤ 900 ∧ Deck l' := by
    unfold dLawText
    walk_at "den"
    obtain ⟨k, l1, e1, hk0, hk1, d1⟩ := draw_it h (m := 4) (by decide)
    rw [e1]
    walk_at "den"
    rw [add_alnum]
    walk_at "den"
    rw [add_alnum]
    walk_at "den"
    rw [v_addS (by decide +kernel)]
    walk_at "den"
    obtain ⟨x, hx, ex⟩ := at_pick (l := [PyData.str "abcdefghijklmnopqrstuvwxyz", .str "abcdefghijklmnopqrstuvwxyz0123456789", .str ("abcdefghijklmnopqrstuvwxyz0123456789" ++ " !\"#$&'()*+,-./:;<=>?@ABCDEFGHIJKLMNOPQRSTUVWXYZ[\\]^_`{|}~\n\t"), .str "abcdefghijklmnopqrstuvwxyz"]) hk0 (by simpa using hk1)
    have hx1 : Txt1 x := by
      simp only [List.mem_cons, List.not_mem_nil, or_false] at hx
      rcases hx with rfl | rfl | rfl | rfl
      · exact ⟨_, rfl, by decide +kernel, by decide +kernel⟩
      · exact ⟨_, rfl, by decide +kernel, by decide +kernel⟩
      · exact ⟨_, rfl, by decide +kernel, by decide +kernel⟩
      · exact ⟨_, rfl, by decide +kernel, by decide +kernel⟩
    obtain ⟨sg, rfl, hs1, hs2⟩ := hx1
    rw [ex]
    walk_at "den"
    obtain ⟨k2, l2, e2, a2, b2, d2⟩ := draw_it d1 (m := 11) (by decide)
    rw [e2]
    walk_at "den"
    obtain ⟨k3, l3, e3, a3, b3, d3⟩ := draw_it d2 (m := 3) (by decide)
    rw [e3]
    walk_at "den"
    obtain ⟨k4, l4, e4, a4, b4, d4⟩ := draw_it d3 (m := 3) (by decide)
    rw [e4]
    walk_at "den"
    obtain ⟨y, hy, ey⟩ := at_pick (l := [PyData.int k2, .int 1, .int (7 + k3)]) a4 (by simpa using b4)
    have hy1 : ∃ j : Int, y = .int j ∧ 0 ≤ j ∧ j ≤ 10 := by
      simp only [List.mem_cons, List.not_mem_nil, or_false] at hy
      rcases hy with rfl | rfl | rfl
      · exact ⟨_, rfl, by omega, by omega⟩
      · exact ⟨_, rfl, by omega, by omega⟩
      · exact ⟨_, rfl, by omega, by omega⟩
    obtain ⟨j, rfl, j0, j1⟩ := hy1
    rw [ey]
    walk_at "den"
    rw [rng1_int ⟨by omega, by omega⟩]
    walk_at "den"
    generalize hA : (some (Slot.sh (PyData.str "abcdefghijklmnopqrstuvwxyz")) : Option Slot) = A
    generalize hC : (some (Slot.sh (PyData.int k)) : Option Slot) = C
    have hB : ∃ B : Option Slot, B = some (Slot.sh (PyData.str " !\"#$&'()*+,-./:;<=>?@ABCDEFGHIJKLMNOPQRSTUVWXYZ[\\]^_`{|}~\n\t")) := ⟨_, rfl⟩
    obtain ⟨B, hB⟩ := hB
    rw [← hB]
    obtain ⟨ρ', e, z, l5, x6, rfl, hz, d5⟩ := loop_inv (st := sName 6) (body := dLawTextB1) (fun done ρ => ∃ (z : Str) (l' : List D) (x6 : Option Slot), ρ = [some (.ow l'), A, B, C, some (.sh (.str sg)), some (.sh (.str z)), x6, none] ∧ z.length = done.length ∧ Deck l') (l := intsD 0 j.toNat) (done := [])
      ⟨"", l4, none, rfl, rfl, d4⟩ (by
        rintro done' d rest ρ hd ⟨z, l', x6, rfl, hz, dl⟩
        have hlen : done'.length < j.toNat := by
          have := congrArg List.length hd
          rw [List.nil_append, intsD_len] at this
          simp only [List.length_append, List.length_cons] at this
          omega
        obtain ⟨n, l2, en, n0, n1, d2⟩ := draw_it dl (m := sg.length) ⟨by omega, by omega⟩
        obtain ⟨c, hc, ec⟩ := v_idxS (z := sg) (n := n) (by omega) n0 n1
        refine ⟨[some (.ow l2), A, B, C, some (.sh (.str sg)), some (.sh (.str (z ++ ⟨#[c]⟩))), some (.sh d), none], one_nx ?_, z ++ ⟨#[c]⟩, l2, _, rfl, by rw [str_len_app, hz, one_len, List.length_append]; rfl, d2⟩
        unfold dLawTextB1
        walk_at "den"
        rw [v_lenS (by omega)]
        walk_at "den"
        rw [en]
        walk_at "den"
        rw [ec]
        walk_at "den"
        rw [v_addS (by rw [one_len]; omega)]
        walk_at "den")
    rw [e]
    rw [List.nil_append, intsD_len] at hz
    walk_at "den"
    subst hC
    walk_at "den"
    by_cases h3 : k = 3
    · subst h3
      walk_at "den"
      rw [v_lenS (by omega)]
      walk_at "den"
      by_cases h4 : ((z.length : Int) > 0)
      · rw [decide_eq_true h4]
        walk_at "den"
        rw [v_lenS (by omega)]
        walk_at "den"
        obtain ⟨n, l6, e6, n0, n1, d6⟩ := draw_it d5 (m := z.length) ⟨by omega, by omega⟩
        rw [e6]
        walk_at "den"
        rw [v_slS (by omega)]
        subst hB
        walk_at "den"
        rw [v_addS (a := " !\"#$&'()*+,-./:;<=>?@ABCDEFGHIJKLMNOPQRSTUVWXYZ[\\]^_`{|}~\n\t") (b := "0123456789") (by decide +kernel)]
        walk_at "den"
        rw [v_lenS (z := " !\"#$&'()*+,-./:;<=>?@ABCDEFGHIJKLMNOPQRSTUVWXYZ[\\]^_`{|}~\n\t") (by decide +kernel)]
        walk_at "den"
        obtain ⟨n7, l7, e7, a7, b7, d7⟩ := draw_it d6 (m := ((" !\"#$&'()*+,-./:;<=>?@ABCDEFGHIJKLMNOPQRSTUVWXYZ[\\]^_`{|}~\n\t" : Str).length : Int) + 10) (by decide +kernel)
        rw [e7]
        walk_at "den"
        obtain ⟨c, hc, ec⟩ := v_idxS (z := " !\"#$&'()*+,-./:;<=>?@ABCDEFGHIJKLMNOPQRSTUVWXYZ[\\]^_`{|}~\n\t" ++ "0123456789") (n := n7) (by decide +kernel) a7 (by
          have : (((" !\"#$&'()*+,-./:;<=>?@ABCDEFGHIJKLMNOPQRSTUVWXYZ[\\]^_`{|}~\n\t" ++ "0123456789" : Str).length : Nat) : Int) = ((" !\"#$&'()*+,-./:;<=>?@ABCDEFGHIJKLMNOPQRSTUVWXYZ[\\]^_`{|}~\n\t" : Str).length : Int) + 10 := by decide +kernel
          rw [this]; exact b7)
        rw [ec]
        walk_at "den"
        have hc1 := cutS_length z none (some n)
        rw [v_addS (by rw [one_len]; omega)]
        walk_at "den"
        rw [v_slS (by omega)]
        walk_at "den"
        have hc2 := cutS_length z (some (n + 1)) none
        rw [v_addS (by rw [str_len_app, one_len]; omega)]
        walk_at "den"
        exact ⟨_, l7, _, rfl, by rw [str_len_app, str_len_app, one_len]; omega, d7⟩
      · rw [decide_eq_false h4]
        walk_at "den"
        exact ⟨z, l5, _, rfl, by omega, d5⟩
    · have h3' : (k == 3) = false := by simpa using h3
      rw [h3']
      walk_at "den"
      exact ⟨z, l5, _, rfl, by omega, d5⟩
  obtain ⟨z, l', ρ, e, h1, h2⟩ := key
  exact ⟨z, l', run_ret (own := some 0) (n := 8) (f := dLawText) (ds := [.list l]) e, h1, h2⟩



/-! ### names written -/
theorem int_len {i : Int} (h0 : 0 ≤ i) (h1 : i < 10 ^ 10) : (PySem.Str.ofString (toString i)).length ≤ 640 := Nat.le_trans (PySem.W.KT.len_num h0 h1) (by decide)
theorem log_small {i : Int} (h0 : 0 ≤ i) (h1 : i < 10 ^ 10) : i.natAbs.log2 < 1920 := by
  have h : i.natAbs < 2 ^ 1920 := Nat.lt_of_lt_of_le (show i.natAbs < 10 ^ 10 by omega) (by decide)
  by_cases hz : i.natAbs = 0
  · rw [hz]; decide
  · exact (Nat.log2_lt hz).2 h
theorem writeName_int {i : Int} (h0 : 0 ≤ i) (h1 : i < 10 ^ 10) : fWriteName.run [.int i] = .ok (.sh (.str ("#" ++ PySem.Str.ofString (toString i))), []) := by
  have key : ∃ ρ, dWriteName [some (.sh (.int i))] = .ret (.sh (.str ("#" ++ PySem.Str.ofString (toString i)))) ρ := by
    have hl := int_len h0 h1
    unfold dWriteName
    walk_at "den"
    rw [v_str (log_small h0 h1)]
    walk_at "den"
    rw [v_addS (by show 1 + _ ≤ _; omega)]
    walk_at "den"
    exact ⟨_, rfl⟩
  obtain ⟨ρ, e⟩ := key
  exact run_ret (own := none) (n := 1) (f := dWriteName) (ds := [.int i]) e
theorem writeName_str {z : Str} : fWriteName.run [.str z] = .ok (.sh (.str z), []) := by
  have key : ∃ ρ, dWriteName [some (.sh (.str z))] = .ret (.sh (.str z)) ρ := by
    unfold dWriteName
    walk_at "den"
    exact ⟨_, rfl⟩
  obtain ⟨ρ, e⟩ := key
  exact run_ret (own := none) (n := 1) (f := dWriteName) (ds := [.str z]) e
theorem written_int {i : Int} (h0 : 0 ≤ i) (h1 : i < 10 ^ 10) : fLawWritten.run [.int i] = .ok (.sh (.str ("#" ++ PySem.Str.ofString (toString i))), []) := by
  have key : ∃ ρ, dLawWritten [some (.sh (.int i)), none, none] = .ret (.sh (.str ("#" ++ PySem.Str.ofString (toString i)))) ρ := by
    have hl := int_len h0 h1
    unfold dLawWritten
    walk_at "den"
    rw [v_str (log_small h0 h1)]
    walk_at "den"
    rw [v_addS (by show 1 + _ ≤ _; omega)]
    walk_at "den"
    exact ⟨_, rfl⟩
  obtain ⟨ρ, e⟩ := key
  exact run_ret (own := none) (n := 3) (f := dLawWritten) (ds := [.int i]) e
theorem written_str {z : Str} : fLawWritten.run [.str z] = .ok (.sh (.str z), []) := by
  have key : ∃ ρ, dLawWritten [some (.sh (.str z)), none, none] = .ret (.sh (.str z)) ρ := by
    unfold dLawWritten
    walk_at "den"
    exact ⟨_, rfl⟩
  obtain ⟨ρ, e⟩ := key
  exact run_ret (own := none) (n := 3) (f := dLawWritten) (ds := [.str z]) e
/-- a path's text -/
def wp (l : List Str) : Str := if l.isEmpty then "." else Txt.join "." l
def tot (l : List Str) : Nat := (l.map (·.length)).sum + l.length
theorem eq_tup_nil : gEq (.tuple []) (.tuple []) = some (.val (.bool true)) := (rfl)
theorem eq_tup_cons {a : D} {l : List D} (h : SeqAt.shaped (.tuple (a :: l)) = true) : gEq (.tuple (a :: l)) (.tuple []) = some (.val (.bool false)) := by
  show (if (SeqAt.shaped (.tuple (a :: l)) && SeqAt.shaped (.tuple [])) = true then some (PyData.eqv (.tuple (a :: l)) (.tuple [])) else none).bind gB = _
  rw [h]
  rfl
theorem canAll : ∀ {l : List Str}, (∀ z ∈ l, PyData.strOk z = true) → PyData.canLayAll0 (l.map PyData.str) = true
  | [], _ => rfl
  | z :: l, h => by
    show (PyData.strOk z && PyData.canLayAll0 (l.map PyData.str)) = true
    rw [h z (List.mem_cons_self ..), canAll fun y hy => h y (List.mem_cons_of_mem _ hy)]
    rfl
theorem depthAll0 : ∀ l : List Str, PyData.depthAll (l.map PyData.str) = 0
  | [] => rfl
  | z :: l => by
    show max 0 (PyData.depthAll (l.map PyData.str)) = 0
    rw [depthAll0 l]; rfl
theorem shaped_strs {l : List Str} (h : ∀ z ∈ l, PyData.strOk z = true) : SeqAt.shaped (.tuple (l.map PyData.str)) = true := by
  show (PyData.canLayAll0 (l.map PyData.str) && decide (PyData.depthAll (l.map PyData.str) + 1 ≤ 64)) = true
  rw [canAll h, depthAll0]
  rfl
theorem writePath_run {l : List Str} (h : tot l ≤ 1000) (hs : ∀ z ∈ l, PyData.strOk z = true) : fWritePath.run [.tuple (l.map .str)] = .ok (.sh (.str (wp l)), []) := by
  have key : ∃ ρ, dWritePath [some (.sh (.tuple (l.map .str)))] = .ret (.sh (.str (wp l))) ρ := by
    unfold dWritePath
    cases l with
    | nil =>
      simp only [List.map_nil]
      walk_at "den"
      rw [eq_tup_nil]
      walk_at "den"
      exact ⟨_, rfl⟩
    | cons a l =>
      simp only [List.map_cons]
      walk_at "den"
      rw [eq_tup_cons (shaped_strs hs)]
      walk_at "den"
      rw [← List.map_cons, v_joinT (by unfold tot at h; show _ + _ * 1 ≤ _; omega)]
      walk_at "den"
      exact ⟨_, rfl⟩
  obtain ⟨ρ, e⟩ := key
  exact run_ret (own := none) (n := 1) (f := dWritePath) (ds := [.tuple (l.map .str)]) e
/-! ### a path written by the law -/
def J (l : List Str) : Str := Txt.join "." l
theorem J_nil : J [] = "" := by decide +kernel
theorem str_ext {a b : Str} (h : a.cps = b.cps) : a = b := by
  cases a; cases b; simp only at h; rw [h]
theorem J_one (w : Str) : J [w] = w := rfl
theorem J_snoc {ws : List Str} (h : ws ≠ []) (w : Str) : J (ws ++ [w]) = J ws ++ "." ++ w := by
  cases ws with
  | nil => exact absurd rfl h
  | cons a r =>
    refine str_ext ?_
    show ((r ++ [w]).foldl _ a.cps) = _
    rw [List.foldl_append]
    rfl
theorem empty_app (w : Str) : ("" : Str) ++ w = w := by
  refine str_ext ?_
  show (("" : Str).cps ++ w.cps) = w.cps
  rw [show ("" : Str).cps = #[] by decide +kernel]
  simp
theorem app_empty (w : Str) : w ++ ("" : Str) = w := by
  refine str_ext ?_
  show (w.cps ++ ("" : Str).cps) = w.cps
  rw [show ("" : Str).cps = #[] by decide +kernel]
  simp
theorem mul_0 : Txt.mul "." 0 = ("" : Str) := by decide +kernel
theorem mul_1 : Txt.mul "." 1 = ("." : Str) := by decide +kernel
theorem ne_empty {z : Str} (h : 1 ≤ z.length) : (z == ("" : Str)) = false := by
  rw [beq_eq_false_iff_ne]
  intro e
  rw [e] at h
  exact absurd h (by decide)
theorem written_loop (A : Option Slot) : ∀ (ws done : List Str) (x2 : Option Slot), (∀ z ∈ ws, 1 ≤ z.length) → (done ≠ [] → 1 ≤ (J done).length) → (J done).length + tot ws ≤ 1000 → ∃ x2', loopE (sName 2) dLawWrittenB1 (ws.map .str) [A, some (.sh (.str (J done))), x2] = .nx [A, some (.sh (.str (J (done ++ ws)))), x2'] ∧ (done ++ ws ≠ [] → 1 ≤ (J (done ++ ws)).length) ∧ (J (done ++ ws)).length ≤ (J done).length + tot ws
  | [], done, x2, _, hd, _ => ⟨x2, by rw [List.append_nil]; rfl, by rw [List.append_nil]; exact hd, by rw [List.append_nil]; omega⟩
  | w :: ws, done, x2, hw, hd, hl => by
    have hw1 := hw w (List.mem_cons_self ..)
    have htot : tot (w :: ws) = w.length + 1 + tot ws := by unfold tot; simp; omega
    have step : dLawWrittenB1 [A, some (.sh (.str (J done))), some (.sh (.str w))] = .nx [A, some (.sh (.str (J (done ++ [w])))), some (.sh (.str w))] := by
      unfold dLawWrittenB1
      walk_at "den"
      by_cases h0 : done = []
      · subst h0
        rw [J_nil, show (("" : Str) == ("" : Str)) = true by decide]
        walk_at "den"
        rw [show (if false = true then (1 : Int) else 0) = 0 from rfl, v_mulS (by decide)]
        walk_at "den"
        rw [mul_0, v_addS (by decide)]
        walk_at "den"
        rw [v_addS (by rw [app_empty, show ("" : Str).length = 0 by decide]; omega)]
        walk_at "den"
        rw [app_empty, empty_app]
        rfl
      · rw [ne_empty (hd h0)]
        walk_at "den"
        rw [v_mulS (by decide)]
        walk_at "den"
        rw [mul_1, v_addS (by rw [show ("." : Str).length = 1 by decide]; omega)]
        walk_at "den"
        rw [v_addS (by rw [str_len_app, show ("." : Str).length = 1 by decide]; omega)]
        walk_at "den"
        rw [J_snoc h0]
    have hlen : (J (done ++ [w])).length ≤ (J done).length + 1 + w.length ∧ 1 ≤ (J (done ++ [w])).length := by
      by_cases h0 : done = []
      · subst h0
        rw [List.nil_append, J_one]
        omega
      · rw [J_snoc h0, str_len_app, str_len_app, show ("." : Str).length = 1 by decide]
        omega
    obtain ⟨x2', e, h2, h3⟩ := written_loop A ws (done ++ [w]) (some (.sh (.str w))) (fun z hz => hw z (List.mem_cons_of_mem _ hz)) (fun _ => hlen.2) (by omega)
    refine ⟨x2', ?_, by rw [List.append_assoc] at h2; exact h2, by rw [List.append_assoc] at h3; show (J (done ++ ([w] ++ ws))).length ≤ _; omega⟩
    rw [List.map_cons, loopE_nx (one_nx step), e, List.append_assoc]
    rfl
theorem written_tup {ws : List Str} (hw : ∀ z ∈ ws, 1 ≤ z.length) (hl : tot ws ≤ 900) : fLawWritten.run [.tuple (ws.map .str)] = .ok (.sh (.str (wp ws)), []) := by
  have key : ∃ ρ, dLawWritten [some (.sh (.tuple (ws.map .str))), none, none] = .ret (.sh (.str (wp ws))) ρ := by
    unfold dLawWritten
    walk_at "den"
    obtain ⟨x2', e, h2, h3⟩ := written_loop (some (.sh (.tuple (ws.map .str)))) ws [] none hw (fun h => absurd rfl h) (by rw [J_nil, show ("" : Str).length = 0 by decide]; omega)
    rw [J_nil, List.nil_append] at e
    rw [e]
    rw [List.nil_append] at h2
    rw [List.nil_append, J_nil, show ("" : Str).length = 0 by decide] at h3
    walk_at "den"
    cases ws with
    | nil =>
      rw [J_nil, show (("" : Str) == ("" : Str)) = true by decide]
      walk_at "den"
      rw [v_mulS (by decide)]
      walk_at "den"
      rw [mul_1, v_addS (by decide)]
      walk_at "den"
      rw [empty_app]
      exact ⟨_, rfl⟩
    | cons w ws =>
      rw [ne_empty (h2 (by simp))]
      rw [show (if false = true then (1 : Int) else 0) = 0 from rfl, v_mulS (by decide)]
      walk_at "den"
      rw [mul_0, v_addS (by rw [show ("" : Str).length = 0 by decide]; omega)]
      walk_at "den"
      rw [app_empty]
      exact ⟨_, rfl⟩
  obtain ⟨ρ, e⟩ := key
  exact run_ret (own := none) (n := 3) (f := dLawWritten) (ds := [.tuple (ws.map .str)]) e
end K04

namespace K04
open PySem PySem.Spec L2 Den Com
local macro_rules | `(tactic| walk_at "den") => `(tactic| simp only [bind_ok, bind_exc, rbind_nx, rbind_ret, rbind_brk, rbind_ct, rbind_exc, ofOut_ok, ofOut_exc, chT_t, chT_f, chV_t, chV_f, chR_t, chR_f, e_okT, e_okV, k_dat, k_val, k_now, k_bin1, k_bin2, k_andT, k_orT, k_notT, k_and, k_or, k_not, k_ite, k_ch1, k_ch2, k_ch3, k_l1, k_l2, k_tup, k_lst, k_o1, k_o2, k_CB, k_call, k_s1, k_s2, k_s3, k_isi, k_isiT, k_neg, k_expr, k_if, k_asg, k_asgT, k_for, k_app, appStart_some, k_set1, k_set2, setStart_some, k_seqI, k_rng, k_enum, k_rev, k_lc1, k_lc2, e_dat, e_val, e_now, e_C, look_cons_zero, look_cons_succ, e_loc, locOf_some, e_var, varOf_sh, varOf_ow, e_mov, movOf_sh, movOf_ow, res_now, res_slot, Option.map_some, data_sh, data_ow, slotD_sh, slotD_ow, fin2_some, e_bin, e_idx, rvOut_some, slot_val, slot_newT, slot_newL, e_tst, tstOf_b, e_andT, e_orT, e_notT, e_and, e_or, e_not, e_ite, e_chain, e_dList_nil, e_dList_cons, e_tup, e_lst, e_oNil, e_oCons, finC_some, e_CB, cons2_some, resAll_nil, resAll_cons, e_call, callOf_some, callBack_ok, e_ptNone, e_ptSome, ptOf_int, slOf_some, e_sl, isiOf_some, e_isi, e_isiT, e_neg, negOf_int, e_seq, e_skip, e_ret, e_retN, e_brk, e_ct, e_expr, e_if, e_asg, nxO_some, e_asgT, e_sName, e_sTup, e_sCons, e_sNil, Option.bind_some, e_for, owOf_ow, e_app, e_pop, popOf_app, e_set, setOf_int, setOf2_some, e_seqI, itOf_some, items_list, items_tuple, items_str, e_range1, e_enum, enumOf_list, e_rev, e_true, e_lc, e_wipe_nil, e_wipe_cons, e_back_nil, e_back_cons, back1_none, back1_sh, v_addI, v_subI, v_ltI, v_leI, v_gtI, v_geI, v_eqI, v_eqS, v_neI, v_neS, v_neB, v_int, v_lenL, v_lenT, v_idxL, v_idxT, valOpt_some, v_isN, v_isNN, n_none, n_bool, n_int, n_str, n_list, n_tuple, v_slL, List.set_cons_zero, List.set_cons_succ, at0, at1, at2, at3, ix0, ix1, ix2, List.length_cons, List.length_nil, is_int_none, is_int_bool, is_int_int, is_int_str, is_int_list, is_int_tuple, is_str_none, is_str_bool, is_str_int, is_str_str, is_str_list, is_str_tuple, is_bool_none, is_bool_bool, is_bool_int, is_bool_str, is_bool_list, is_bool_tuple, is_tuple_none, is_tuple_bool, is_tuple_int, is_tuple_str, is_tuple_list, is_tuple_tuple, is_list_none, is_list_bool, is_list_int, is_list_str, is_list_list, is_list_tuple, iss_tuple_list_none, iss_tuple_list_bool, iss_tuple_list_int, iss_tuple_list_str, iss_tuple_list_list, iss_tuple_list_tuple, iss_list_tuple_none, iss_list_tuple_bool, iss_list_tuple_int, iss_list_tuple_str, iss_list_tuple_list, iss_list_tuple_tuple, iss_int_str_none, iss_int_str_bool, iss_int_str_int, iss_int_str_str, iss_int_str_list, iss_int_str_tuple, iss_str_int_none, iss_str_int_bool, iss_str_int_int, iss_str_int_str, iss_str_int_list, iss_str_int_tuple, beq_self_eq_true, v_inF, v_inT, ch1_le, ch1_lt, ch2_t, ch2_f, ch3_le, ch3_lt, argD_nil, argD_now, argD_now0, argD_own0, asL_some, put_none, put_0, Nat.zero_add, Nat.reduceAdd, ↓reduceIte, e_raise, k_raise1, k_raise2, k_raise3, e_try, k_try_nx, k_try_ret, k_try_brk, k_try_ct, k_try_exc, k_hit_t, k_hit_f, wipe_nx, wipe_ret, wipe_brk, wipe_ct, lookup1, e_xf, xfOf_0, xfOf_1, e_isx, isxOf_tk, finM_some, k_M1, k_M2, e_M1, v_intI, v_intB, npSpelled, ownSpelled, npIsName, ownIsName, npIsKnown, ownIsKnown, npWriteName, ownWriteName, npWritePath, ownWritePath, npReadName, ownReadName, npReadPath, ownReadPath, npLawDeck, ownLawDeck, npLawDraw, ownLawDraw, npLawWord, ownLawWord, npLawSame, ownLawSame, npLawText, ownLawText, npLawOnly, ownLawOnly, npLawName, ownLawName, npLawPath, ownLawPath, npLawWritten, ownLawWritten, npLawBent, ownLawBent, npLawReadName, ownLawReadName, npLawReadPath, ownLawReadPath, npLawTried, ownLawTried, npLawBase, ownLawBase, npLaw, ownLaw, Bool.not_true, Bool.not_false, decide_true, decide_false])
/-! ### names read -/
abbrev LD : Str := "abcdefghijklmnopqrstuvwxyz0123456789"
def isDig (c : Nat) : Bool := decide (c ∈ ("0123456789" : Str).cps.toList)
theorem dig_list : ("0123456789" : Str).cps.toList = [48, 49, 50, 51, 52, 53, 54, 55, 56, 57] := by decide +kernel
theorem isDig_iff {c : Nat} : isDig c = true ↔ 48 ≤ c ∧ c ≤ 57 := by
  unfold isDig
  rw [dig_list, decide_eq_true_iff]
  simp only [List.mem_cons, List.not_mem_nil, or_false]
  omega
def canon (ds : List Nat) : Bool := decide (1 ≤ ds.length) && decide (ds.length ≤ 4) && ds.all isDig && (ds == [48] || !(ds.head? == some 48))
def numOf : List Nat → Option Int
  | 35 :: ds => if canon ds then some ((PySem.NumText.digitsVal ds : Nat) : Int) else none
  | _ => none
theorem len_cps (z : Str) : z.length = z.cps.toList.length := Array.length_toList.symm
theorem cut1 {z : Str} : cutS z (some 1) none = Spl.mk (z.cps.toList.drop 1) := by
  unfold cutS Spl.mk
  rw [show (some (1 : Int)) = some ((1 : Nat) : Int) from rfl, HT.sIx_none, HT.sIx_nat, len_cps]
  cases z.cps.toList with
  | nil => rfl
  | cons c l => simp
theorem cut01 {z : Str} : cutS z none (some 1) = Spl.mk (z.cps.toList.take 1) := by
  unfold cutS Spl.mk
  rw [show (some (1 : Int)) = some ((1 : Nat) : Int) from rfl, HT.sIx_none, HT.sIx_nat, len_cps]
  cases z.cps.toList with
  | nil => rfl
  | cons c l => simp
theorem mk_len (l : List Nat) : (Spl.mk l).length = l.length := List.size_toArray
theorem mk_list (l : List Nat) : (Spl.mk l).cps.toList = l := rfl
theorem mk_inj {a b : List Nat} : (Spl.mk a == Spl.mk b) = (a == b) := by
  rw [Bool.eq_iff_iff, beq_iff_eq, beq_iff_eq]
  exact ⟨fun h => by have := congrArg (fun s : Str => s.cps.toList) h; exact this, fun h => by rw [h]⟩
theorem hash_mk : ("#" : Str) = Spl.mk [35] := by decide +kernel
theorem zero_mk : ("0" : Str) = Spl.mk [48] := by decide +kernel
theorem one_mk (c : Nat) : (⟨#[c]⟩ : Str) = Spl.mk [c] := rfl
theorem idx0 {c : Nat} {l : List Nat} (h : (c :: l).length ≤ 100000) : gIdx (.str (Spl.mk (c :: l))) (.int 0) = some (.val (.str (Spl.mk [c]))) := by
  show (if (Spl.mk (c :: l)).length ≤ 100000 then (atI (Spl.mk (c :: l)).cps.toList 0).map fun c => Rv.val (.str ⟨#[c]⟩) else none) = _
  rw [if_pos (by rw [mk_len]; exact h), mk_list, at0]
  rfl
/-- how a reading of a text ends -/
def rdOut (z : Str) (l p : Int) (ρ : Den.Env) : Res := if isN LD (.str z) = true then .ret (.sh (.str z)) ρ else match numOf z.cps.toList with
    | some n => .ret (.sh (.int n)) ρ
    | none => .exc "BadText" [("word", .int p), ("line", .int l)] ρ
theorem canon_all {ds : List Nat} (h : ds.all isDig = true) : PySem.NumText.AllDigits ds := fun c hc => isDig_iff.1 (List.all_eq_true.1 h c hc)
theorem readName_key {l p : Int} {z : Str} (hz : z.length ≤ 1000) : ∃ ρ, dReadName [some (.sh (.str z)), some (.sh (.int l)), some (.sh (.int p)), none, none] = rdOut z l p ρ := by
  unfold dReadName rdOut
  walk_at "den"
  rw [isKnown_run hz]
  walk_at "den"
  cases hk : isN LD (.str z) with
  | true =>
    walk_at "den"
    exact ⟨_, rfl⟩
  | false =>
    walk_at "den"
    rw [v_slS (by omega), cut1]
    walk_at "den"
    rw [v_slS (by omega), cut01, hash_mk]
    walk_at "den"
    simp only [mk_inj, Bool.false_eq_true, if_false]
    have hzl := len_cps z
    cases hc : z.cps.toList with
    | nil =>
      rw [show (List.take 1 ([] : List Nat) == [35]) = false from rfl]
      walk_at "den"
      exact ⟨_, rfl⟩
    | cons c ds =>
      rw [hc] at hzl
      rw [show (List.take 1 (c :: ds) == [35]) = (c == 35) by simp, show List.drop 1 (c :: ds) = ds from rfl]
      cases h35 : (c == 35) with
      | false =>
        walk_at "den"
        have : c ≠ 35 := by simpa using h35
        rw [show numOf (c :: ds) = none from by unfold numOf; split <;> simp_all]
        exact ⟨_, rfl⟩
      | true =>
        have hc35 : c = 35 := by simpa using h35
        subst hc35
        have hn : numOf (35 :: ds) = if canon ds then some ((PySem.NumText.digitsVal ds : Nat) : Int) else none := rfl
        rw [hn]
        have hds : ds.length ≤ 1000 := by simp at hzl; omega
        walk_at "den"
        rw [v_lenS (by rw [mk_len]; omega), mk_len]
        walk_at "den"
        by_cases h1 : 1 ≤ ds.length
        · rw [decide_eq_true (show (1 : Int) ≤ ds.length by omega)]
          walk_at "den"
          by_cases h4 : ds.length ≤ 4
          · rw [decide_eq_true (show (ds.length : Int) ≤ 4 by omega)]
            walk_at "den"
            rw [lcGo_eq (by rw [signs_len, mk_len]; omega)]
            walk_at "den"
            unfold signs
            rw [mk_list, lc_onAll _ (fun c => .bool (isDig c)) (fun c _ => by
              refine ⟨_, [some (.sh (.str z)), some (.sh (.int l)), some (.sh (.int p)), some (.sh (.str (Spl.mk ds))), some (.sh (.str ⟨#[c]⟩))], rfl, ?_, rfl⟩
              show dReadNameE1 [some (.sh (.str z)), some (.sh (.int l)), some (.sh (.int p)), some (.sh (.str (Spl.mk ds))), some (.sh (.str ⟨#[c]⟩))] = _
              unfold dReadNameE1
              walk_at "den"
              rfl)]
            walk_at "den"
            rw [v_allB (bools_map isDig ds)]
            walk_at "den"
            rw [List.all_map]
            cases hall : ds.all isDig with
            | false =>
              rw [show ds.all (id ∘ isDig) = false from hall]
              walk_at "den"
              have : canon ds = false := by unfold canon; rw [hall]; simp
              rw [this]
              exact ⟨_, rfl⟩
            | true =>
              rw [show ds.all (id ∘ isDig) = true from hall]
              walk_at "den"
              match ds, h1 with
              | d :: r, h1 =>
              rw [idx0 (by omega), zero_mk]
              walk_at "den"
              rw [mk_inj]
              have hint : gIntS [.str (Spl.mk (d :: r))] = some (.val (.int ((PySem.NumText.digitsVal (d :: r) : Nat) : Int))) := by
                refine v_intS ?_ (by rw [mk_len]; omega)
                have := PySem.intText_digits (x := Spl.mk (d :: r)) (canon_all hall) (by rw [mk_list]; simp) (by rw [mk_len]; omega)
                rw [this, mk_list]
              have hcan : canon (d :: r) = (d :: r == [48] || !(d == 48)) := by
                unfold canon
                rw [hall, decide_eq_true h1, decide_eq_true h4]
                simp
              rw [hcan, show ([d] == [48]) = (d == 48) by simp]
              cases hd : (d == 48) with
              | false =>
                walk_at "den"
                rw [hint]
                walk_at "den"
                rw [Bool.or_true]
                exact ⟨_, rfl⟩
              | true =>
                walk_at "den"
                rw [mk_inj]
                cases hr : (d :: r == [48]) with
                | true =>
                  walk_at "den"
                  rw [hint]
                  walk_at "den"
                  exact ⟨_, rfl⟩
                | false =>
                  walk_at "den"
                  exact ⟨_, rfl⟩
          · rw [decide_eq_false (show ¬ (ds.length : Int) ≤ 4 by omega)]
            walk_at "den"
            have : canon ds = false := by unfold canon; rw [decide_eq_false h4]; simp
            rw [this]
            exact ⟨_, rfl⟩
        · rw [decide_eq_false (show ¬ (1 : Int) ≤ ds.length by omega)]
          walk_at "den"
          have : canon ds = false := by unfold canon; rw [decide_eq_false h1]; simp
          rw [this]
          exact ⟨_, rfl⟩

theorem run_exc {n : Nat} {f : Den.Env → Res} {ds : List D} {c : Str} {fs : List (Str × D)} {ρ : Den.Env} (e : f (initE none 0 ds ++ List.replicate (n - ds.length) none) = .exc c fs ρ) : runB none n f ds = .exc c fs [] := by
  unfold runB
  rw [e]
  rfl
theorem readName_run {l p : Int} {z : Str} (hz : z.length ≤ 1000) : fReadName.run [.str z, .int l, .int p] = (if isN LD (.str z) = true then .ok (.sh (.str z), []) else match numOf z.cps.toList with
    | some n => .ok (.sh (.int n), [])
    | none => .exc "BadText" [("word", .int p), ("line", .int l)] []) := by
  obtain ⟨ρ, e⟩ := readName_key (l := l) (p := p) hz
  unfold rdOut at e
  cases hk : isN LD (.str z) with
  | true =>
    rw [hk, if_pos rfl] at e
    rw [if_pos rfl]
    exact run_ret (own := none) (n := 5) (f := dReadName) (ds := [.str z, .int l, .int p]) e
  | false =>
    rw [hk, if_neg (by decide)] at e
    rw [if_neg (by decide)]
    cases hn : numOf z.cps.toList with
    | some n =>
      rw [hn] at e
      exact run_ret (own := none) (n := 5) (f := dReadName) (ds := [.str z, .int l, .int p]) e
    | none =>
      rw [hn] at e
      exact run_exc (n := 5) (f := dReadName) (ds := [.str z, .int l, .int p]) e
/-- what the law's own reading tells -/
def LR (z : Str) (l p : Int) : D := if isN LD (.str z) = true then .tuple [.str "read", .str z] else match numOf z.cps.toList with
    | some n => .tuple [.str "read", .int n]
    | none => .tuple [.str "BadText", .int l, .int p]
theorem occ_dig {c : Nat} (h : 48 ≤ c ∧ c ≤ 57) : Builtin.Str.occurrences "0123456789" ⟨#[c]⟩ 0 ("0123456789" : Str).length 1 = [c - 48] := by
  have : ∀ k : Nat, k < 10 → Builtin.Str.occurrences "0123456789" ⟨#[k + 48]⟩ 0 ("0123456789" : Str).length 1 = [k] := by decide +kernel
  have := this (c - 48) (by omega)
  rwa [show c - 48 + 48 = c by omega] at this
theorem num_loop (A B C E G : Option Slot) : ∀ (ds : List Nat) (acc : Nat) (x6 : Option Slot), (∀ c ∈ ds, 48 ≤ c ∧ c ≤ 57) → ∃ x6', loopE (sName 6) dLawReadNameB1 (ds.map fun c => .str ⟨#[c]⟩) [A, B, C, E, G, some (.sh (.int (acc : Nat))), x6] = .nx [A, B, C, E, G, some (.sh (.int ((ds.foldl (fun a c => a * 10 + (c - 48)) acc : Nat) : Int))), x6']
  | [], acc, x6, _ => ⟨x6, by rw [List.map_nil, List.foldl_nil]; exact (show loopE (sName 6) dLawReadNameB1 [] _ = _ from (rfl))⟩
  | c :: ds, acc, x6, h => by
    have hc := h c (List.mem_cons_self ..)
    have step : dLawReadNameB1 [A, B, C, E, G, some (.sh (.int (acc : Nat))), some (.sh (.str ⟨#[c]⟩))] = .nx [A, B, C, E, G, some (.sh (.int ((acc * 10 + (c - 48) : Nat) : Int))), some (.sh (.str ⟨#[c]⟩))] := by
      unfold dLawReadNameB1
      walk_at "den"
      rw [v_mul (.inr (by decide))]
      walk_at "den"
      rw [v_indexS (occ_dig hc)]
      walk_at "den"
      rw [show (acc : Int) * 10 + ((c - 48 : Nat) : Int) = ((acc * 10 + (c - 48) : Nat) : Int) by omega]
    obtain ⟨x6', e⟩ := num_loop A B C E G ds (acc * 10 + (c - 48)) (some (.sh (.str ⟨#[c]⟩))) fun d hd => h d (List.mem_cons_of_mem _ hd)
    refine ⟨x6', ?_⟩
    have one : Den.one (sName 6) dLawReadNameB1 (.str ⟨#[c]⟩) [A, B, C, E, G, some (.sh (.int (acc : Nat))), x6] = .nx [A, B, C, E, G, some (.sh (.int ((acc * 10 + (c - 48) : Nat) : Int))), some (.sh (.str ⟨#[c]⟩))] := one_nx (i := 6) (ρ := [A, B, C, E, G, some (.sh (.int (acc : Nat))), x6]) step
    rw [List.map_cons, loopE_nx one, List.foldl_cons]
    exact e
theorem lawReadName_run {l p : Int} {z : Str} (hz : z.length ≤ 1000) : fLawReadName.run [.str z, .int l, .int p] = .ok (.sh (LR z l p), []) := by
  have key : ∃ ρ, dLawReadName [some (.sh (.str z)), some (.sh (.int l)), some (.sh (.int p)), none, none, none, none] = .ret (.sh (LR z l p)) ρ := by
    unfold dLawReadName LR
    walk_at "den"
    rw [only_run hz]
    walk_at "den"
    cases hk : isN LD (.str z) with
    | true =>
      walk_at "den"
      exact ⟨_, rfl⟩
    | false =>
      walk_at "den"
      rw [v_slS (by omega), cut1]
      walk_at "den"
      have hzl := len_cps z
      have hdl : (Spl.mk (z.cps.toList.drop 1)).length ≤ 1000 := by rw [mk_len, List.length_drop]; omega
      rw [only_run hdl]
      walk_at "den"
      have hN : ∀ ds : List Nat, isN "0123456789" (.str (Spl.mk ds)) = (decide ((1 : Int) ≤ ds.length) && decide ((ds.length : Int) ≤ 8) && ds.all isDig) := fun ds => by
        show (decide ((1 : Int) ≤ (Spl.mk ds).length) && decide (((Spl.mk ds).length : Int) ≤ 8) && (Spl.mk ds).cps.toList.all isDig) = _
        rw [mk_len, mk_list]
      rw [hN]
      cases hc : z.cps.toList with
      | nil =>
        rw [show (decide ((1 : Int) ≤ (List.drop 1 ([] : List Nat)).length) && decide (((List.drop 1 ([] : List Nat)).length : Int) ≤ 8) && (List.drop 1 ([] : List Nat)).all isDig) = false from rfl]
        walk_at "den"
        exact ⟨_, rfl⟩
      | cons c ds =>
        rw [hc] at hzl
        rw [show List.drop 1 (c :: ds) = ds from rfl]
        cases hq : (decide ((1 : Int) ≤ ds.length) && decide ((ds.length : Int) ≤ 8) && ds.all isDig) with
        | false =>
          walk_at "den"
          have hno : numOf (c :: ds) = none := by
            unfold numOf
            split
            · rename_i ds' he
              cases he
              rw [if_neg]
              intro h
              unfold canon at h
              rw [Bool.and_eq_true, Bool.and_eq_true, Bool.and_eq_true, decide_eq_true_iff, decide_eq_true_iff] at h
              obtain ⟨⟨⟨a1, a2⟩, a3⟩, _⟩ := h
              rw [a3, decide_eq_true (show (1 : Int) ≤ ds.length by omega), decide_eq_true (show (ds.length : Int) ≤ 8 by omega)] at hq
              cases hq
            · rfl
          rw [hno]
          exact ⟨_, rfl⟩
        | true =>
          rw [Bool.and_eq_true, Bool.and_eq_true, decide_eq_true_iff, decide_eq_true_iff] at hq
          obtain ⟨⟨a1, a2⟩, a3⟩ := hq
          walk_at "den"
          rw [v_lenS (by rw [mk_len]; omega), mk_len]
          walk_at "den"
          by_cases h5 : ds.length < 5
          · rw [decide_eq_true (show (ds.length : Int) < 5 by omega)]
            walk_at "den"
            have hz2 : z = Spl.mk (c :: ds) := by rw [← hc, Spl.mk_cps]
            rw [hz2, idx0 (by simp; omega), hash_mk]
            walk_at "den"
            rw [mk_inj, show ([c] == [35]) = (c == 35) by simp]
            cases h35 : (c == 35) with
            | false =>
              walk_at "den"
              have : c ≠ 35 := by simpa using h35
              rw [show numOf (c :: ds) = none from by unfold numOf; split <;> simp_all]
              exact ⟨_, rfl⟩
            | true =>
              have hc35 : c = 35 := by simpa using h35
              subst hc35
              walk_at "den"
              rw [zero_mk, mk_inj]
              have hdig : ∀ c ∈ ds, 48 ≤ c ∧ c ≤ 57 := fun c hc => isDig_iff.1 (List.all_eq_true.1 a3 c hc)
              obtain ⟨x6', eL⟩ := num_loop (some (.sh (.str (Spl.mk (35 :: ds))))) (some (.sh (.int l))) (some (.sh (.int p))) (some (.sh (.str (Spl.mk ds)))) (some (.sh (.bool true))) ds 0 none hdig
              have hcan : canon ds = (ds == [48] || !(ds.head? == some 48)) := by
                unfold canon
                rw [a3, decide_eq_true (show 1 ≤ ds.length by omega), decide_eq_true (show ds.length ≤ 4 by omega)]
                rfl
              have hnum : numOf (35 :: ds) = if canon ds then some ((PySem.NumText.digitsVal ds : Nat) : Int) else none := rfl
              rw [hnum, hcan]
              cases hr : (ds == [48]) with
              | true =>
                walk_at "den"
                rw [show signs (Spl.mk ds) = ds.map fun c => .str ⟨#[c]⟩ from rfl]
                erw [eL]
                walk_at "den"
                exact ⟨_, rfl⟩
              | false =>
                walk_at "den"
                match ds, a1 with
                | d :: r, a1 =>
                rw [idx0 (by simp at a2 ⊢; omega)]
                walk_at "den"
                rw [mk_inj, show ([d] == [48]) = (d == 48) by simp, show ((d :: r).head? == some 48) = (d == 48) by simp]
                cases hd : (d == 48) with
                | true =>
                  walk_at "den"
                  exact ⟨_, rfl⟩
                | false =>
                  walk_at "den"
                  rw [show signs (Spl.mk (d :: r)) = (d :: r).map fun c => .str ⟨#[c]⟩ from rfl]
                  erw [eL]
                  walk_at "den"
                  exact ⟨_, rfl⟩
          · rw [decide_eq_false (show ¬ (ds.length : Int) < 5 by omega)]
            walk_at "den"
            have hno : numOf (c :: ds) = none := by
              unfold numOf
              split
              · rename_i ds' he
                cases he
                rw [if_neg]
                intro h
                unfold canon at h
                rw [Bool.and_eq_true, Bool.and_eq_true, Bool.and_eq_true, decide_eq_true_iff, decide_eq_true_iff] at h
                omega
              · rfl
            rw [hno]
            exact ⟨_, rfl⟩
  obtain ⟨ρ, e⟩ := key
  exact run_ret (own := none) (n := 7) (f := dLawReadName) (ds := [.str z, .int l, .int p]) e
end K04

namespace K04
open PySem PySem.Spec L2 Den Com
local macro_rules | `(tactic| walk_at "den") => `(tactic| simp only [bind_ok, bind_exc, rbind_nx, rbind_ret, rbind_brk, rbind_ct, rbind_exc, ofOut_ok, ofOut_exc, chT_t, chT_f, chV_t, chV_f, chR_t, chR_f, e_okT, e_okV, k_dat, k_val, k_now, k_bin1, k_bin2, k_andT, k_orT, k_notT, k_and, k_or, k_not, k_ite, k_ch1, k_ch2, k_ch3, k_l1, k_l2, k_tup, k_lst, k_o1, k_o2, k_CB, k_call, k_s1, k_s2, k_s3, k_isi, k_isiT, k_neg, k_expr, k_if, k_asg, k_asgT, k_for, k_app, appStart_some, k_set1, k_set2, setStart_some, k_seqI, k_rng, k_enum, k_rev, k_lc1, k_lc2, e_dat, e_val, e_now, e_C, look_cons_zero, look_cons_succ, e_loc, locOf_some, e_var, varOf_sh, varOf_ow, e_mov, movOf_sh, movOf_ow, res_now, res_slot, Option.map_some, data_sh, data_ow, slotD_sh, slotD_ow, fin2_some, e_bin, e_idx, rvOut_some, slot_val, slot_newT, slot_newL, e_tst, tstOf_b, e_andT, e_orT, e_notT, e_and, e_or, e_not, e_ite, e_chain, e_dList_nil, e_dList_cons, e_tup, e_lst, e_oNil, e_oCons, finC_some, e_CB, cons2_some, resAll_nil, resAll_cons, e_call, callOf_some, callBack_ok, e_ptNone, e_ptSome, ptOf_int, slOf_some, e_sl, isiOf_some, e_isi, e_isiT, e_neg, negOf_int, e_seq, e_skip, e_ret, e_retN, e_brk, e_ct, e_expr, e_if, e_asg, nxO_some, e_asgT, e_sName, e_sTup, e_sCons, e_sNil, Option.bind_some, e_for, owOf_ow, e_app, e_pop, popOf_app, e_set, setOf_int, setOf2_some, e_seqI, itOf_some, items_list, items_tuple, items_str, e_range1, e_enum, enumOf_list, e_rev, e_true, e_lc, e_wipe_nil, e_wipe_cons, e_back_nil, e_back_cons, back1_none, back1_sh, v_addI, v_subI, v_ltI, v_leI, v_gtI, v_geI, v_eqI, v_eqS, v_neI, v_neS, v_neB, v_int, v_lenL, v_lenT, v_idxL, v_idxT, valOpt_some, v_isN, v_isNN, n_none, n_bool, n_int, n_str, n_list, n_tuple, v_slL, List.set_cons_zero, List.set_cons_succ, at0, at1, at2, at3, ix0, ix1, ix2, List.length_cons, List.length_nil, is_int_none, is_int_bool, is_int_int, is_int_str, is_int_list, is_int_tuple, is_str_none, is_str_bool, is_str_int, is_str_str, is_str_list, is_str_tuple, is_bool_none, is_bool_bool, is_bool_int, is_bool_str, is_bool_list, is_bool_tuple, is_tuple_none, is_tuple_bool, is_tuple_int, is_tuple_str, is_tuple_list, is_tuple_tuple, is_list_none, is_list_bool, is_list_int, is_list_str, is_list_list, is_list_tuple, iss_tuple_list_none, iss_tuple_list_bool, iss_tuple_list_int, iss_tuple_list_str, iss_tuple_list_list, iss_tuple_list_tuple, iss_list_tuple_none, iss_list_tuple_bool, iss_list_tuple_int, iss_list_tuple_str, iss_list_tuple_list, iss_list_tuple_tuple, iss_int_str_none, iss_int_str_bool, iss_int_str_int, iss_int_str_str, iss_int_str_list, iss_int_str_tuple, iss_str_int_none, iss_str_int_bool, iss_str_int_int, iss_str_int_str, iss_str_int_list, iss_str_int_tuple, beq_self_eq_true, v_inF, v_inT, ch1_le, ch1_lt, ch2_t, ch2_f, ch3_le, ch3_lt, argD_nil, argD_now, argD_now0, argD_own0, asL_some, put_none, put_0, Nat.zero_add, Nat.reduceAdd, ↓reduceIte, e_raise, k_raise1, k_raise2, k_raise3, e_try, k_try_nx, k_try_ret, k_try_brk, k_try_ct, k_try_exc, k_hit_t, k_hit_f, wipe_nx, wipe_ret, wipe_brk, wipe_ct, lookup1, e_xf, xfOf_0, xfOf_1, e_isx, isxOf_tk, finM_some, k_M1, k_M2, e_M1, v_intI, v_intB, npSpelled, ownSpelled, npIsName, ownIsName, npIsKnown, ownIsKnown, npWriteName, ownWriteName, npWritePath, ownWritePath, npReadName, ownReadName, npReadPath, ownReadPath, npLawDeck, ownLawDeck, npLawDraw, ownLawDraw, npLawWord, ownLawWord, npLawSame, ownLawSame, npLawText, ownLawText, npLawOnly, ownLawOnly, npLawName, ownLawName, npLawPath, ownLawPath, npLawWritten, ownLawWritten, npLawBent, ownLawBent, npLawReadName, ownLawReadName, npLawReadPath, ownLawReadPath, npLawTried, ownLawTried, npLawBase, ownLawBase, npLaw, ownLaw, Bool.not_true, Bool.not_false, decide_true, decide_false])
/-! ### paths read -/
abbrev LL : Str := "abcdefghijklmnopqrstuvwxyz"
theorem dot_mk : ("." : Str) = ⟨#[46]⟩ := by decide +kernel
abbrev parts (z : Str) : List Str := Spl.pieces 46 z
theorem parts_len {z : Str} : ∀ q ∈ parts z, q.length ≤ z.length := fun q hq => by
  have h := Spl.pieces_len 46 z
  have hm : q.length ≤ ((parts z).map (·.length)).sum := by
    have : ∀ {l : List Str} {q : Str}, q ∈ l → q.length ≤ (l.map (·.length)).sum := by
      intro l
      induction l with
      | nil => intro q h; cases h
      | cons a l ih =>
        intro q h
        rw [List.map_cons, List.sum_cons]
        rcases List.mem_cons.1 h with rfl | h
        · omega
        · have := ih h; omega
    exact this hq
  have : 1 ≤ (parts z).length := by
    unfold parts Spl.pieces
    simp
  show q.length ≤ z.length
  unfold parts at hm this
  omega
theorem parts_num {z : Str} : (parts z).length ≤ z.length + 1 := by
  have h := Spl.pieces_len 46 z
  unfold parts
  omega
def pOk (z : Str) : Bool := (parts z).all fun q => isN LL (.str q)
theorem readPath_key {l p : Int} {z : Str} (hz : z.length ≤ 1000) : ∃ ρ, dReadPath [some (.sh (.str z)), some (.sh (.int l)), some (.sh (.int p)), none, none] = (if (z == ("." : Str)) = true then .ret (.sh (.tuple [])) ρ else if pOk z = true then .ret (.sh (.tuple ((parts z).map .str))) ρ else .exc "BadText" [("word", .int p), ("line", .int l)] ρ) := by
  unfold dReadPath
  walk_at "den"
  cases h0 : (z == ("." : Str)) with
  | true =>
    walk_at "den"
    exact ⟨_, rfl⟩
  | false =>
    walk_at "den"
    rw [v_split ⟨by decide, by omega⟩]
    walk_at "den"
    rw [dot_mk, Spl.split_eq]
    rw [lcGo_eq (by rw [List.length_map]; have := parts_num (z := z); unfold parts at this; omega)]
    walk_at "den"
    rw [lc_onAll _ (fun q => .bool (isN LL (.str q))) (fun q hq => by
      have hq1 := parts_len q hq
      refine ⟨_, [some (.sh (.str z)), some (.sh (.int l)), some (.sh (.int p)), some (.sh (.list ((parts z).map .str))), some (.sh (.str q))], rfl, ?_, rfl⟩
      show dReadPathE1 [some (.sh (.str z)), some (.sh (.int l)), some (.sh (.int p)), some (.sh (.list ((parts z).map .str))), some (.sh (.str q))] = _
      unfold dReadPathE1
      walk_at "den"
      rw [isName_run (by omega)]
      walk_at "den")]
    walk_at "den"
    rw [v_allB (bools_map (fun q : Str => isN LL (.str q)) (parts z))]
    walk_at "den"
    rw [List.all_map]
    cases hp : pOk z with
    | true =>
      rw [show (parts z).all (id ∘ fun q => isN LL (.str q)) = true from hp]
      walk_at "den"
      exact ⟨_, rfl⟩
    | false =>
      rw [show (parts z).all (id ∘ fun q => isN LL (.str q)) = false from hp]
      walk_at "den"
      exact ⟨_, rfl⟩
theorem readPath_run {l p : Int} {z : Str} (hz : z.length ≤ 1000) : fReadPath.run [.str z, .int l, .int p] = (if (z == ("." : Str)) = true then .ok (.sh (.tuple []), []) else if pOk z = true then .ok (.sh (.tuple ((parts z).map .str)), []) else .exc "BadText" [("word", .int p), ("line", .int l)] []) := by
  obtain ⟨ρ, e⟩ := readPath_key (l := l) (p := p) hz
  cases h0 : (z == ("." : Str)) with
  | true =>
    rw [h0, if_pos rfl] at e
    rw [if_pos rfl]
    exact run_ret (own := none) (n := 5) (f := dReadPath) (ds := [.str z, .int l, .int p]) e
  | false =>
    rw [h0, if_neg (by decide)] at e
    rw [if_neg (by decide)]
    cases hp : pOk z with
    | true =>
      rw [hp, if_pos rfl] at e
      rw [if_pos rfl]
      exact run_ret (own := none) (n := 5) (f := dReadPath) (ds := [.str z, .int l, .int p]) e
    | false =>
      rw [hp, if_neg (by decide)] at e
      rw [if_neg (by decide)]
      exact run_exc (n := 5) (f := dReadPath) (ds := [.str z, .int l, .int p]) e
/-! the law's own reading of a path -/
def LP (z : Str) (l p : Int) : D := if (z == ("." : Str)) = true then .tuple [.str "read", .tuple []] else if pOk z = true then .tuple [.str "read", .tuple ((parts z).map .str)] else .tuple [.str "BadText", .int l, .int p]
theorem ix_last (n : Nat) : ixN (n + 1) (-1) = some n := by
  unfold ixN
  rw [if_neg (by decide), if_pos (by omega)]
  congr 1
  omega
theorem at_last {α : Type} (l : List α) (x : α) : atI (l ++ [x]) (-1) = some x := by
  unfold atI
  rw [List.length_append, List.length_singleton, ix_last]
  show (l ++ [x])[l.length]? = some x
  rw [List.getElem?_append_right (Nat.le_refl _), Nat.sub_self]
  rfl
theorem set_last {α : Type} (l : List α) (x y : α) : (l ++ [x]).set l.length y = l ++ [y] := by
  rw [List.set_append_right _ _ (Nat.le_refl _), Nat.sub_self]
  rfl
def lsd (l : List (List Nat)) : List D := l.map fun q => .str (Spl.mk q)
theorem lsd_snoc (l : List (List Nat)) (q : List Nat) : lsd (l ++ [q]) = lsd l ++ [.str (Spl.mk q)] := by
  unfold lsd
  rw [List.map_append]
  rfl
theorem empty_mk : ("" : Str) = Spl.mk [] := by decide +kernel
theorem mk_app (a b : List Nat) : Spl.mk a ++ Spl.mk b = Spl.mk (a ++ b) := by
  refine str_ext ?_
  show a.toArray ++ b.toArray = (a ++ b).toArray
  simp
theorem len_snoc {α : Type} (l : List α) (x : α) : (l ++ [x]).length = l.length + 1 := by simp
theorem cut_loop (A B C E : Option Slot) : ∀ (cs : List Nat) (d : List (List Nat)) (q : List Nat) (x4 : Option Slot), q.length + cs.length ≤ 1000 → d.length + cs.length ≤ 1000 → ∃ x4', loopE (sName 4) dLawReadPathB1 (cs.map fun c => .str ⟨#[c]⟩) [A, B, C, some (.ow (lsd (d ++ [q]))), x4, E] = .nx [A, B, C, some (.ow (lsd ((cs.foldl (Spl.step 46) (d, q)).1 ++ [(cs.foldl (Spl.step 46) (d, q)).2]))), x4', E]
  | [], d, q, x4, _, _ => ⟨x4, rfl⟩
  | c :: cs, d, q, x4, hl, hd => by
    simp only [List.length_cons] at hl hd
    have step : dLawReadPathB1 [A, B, C, some (.ow (lsd (d ++ [q]))), some (.sh (.str ⟨#[c]⟩)), E] = .nx [A, B, C, some (.ow (lsd ((Spl.step 46 (d, q) c).1 ++ [(Spl.step 46 (d, q) c).2]))), some (.sh (.str ⟨#[c]⟩)), E] := by
      unfold dLawReadPathB1
      walk_at "den"
      rw [dot_mk, one_mk, one_mk, mk_inj, show ([c] == [46]) = (c == 46) by simp]
      cases hc : (c == 46) with
      | true =>
        walk_at "den"
        have : c = 46 := by simpa using hc
        subst this
        rw [show Spl.step 46 (d, q) 46 = (d ++ [q], []) from if_pos rfl, lsd_snoc (d ++ [q]), empty_mk]
        rw [appOf_some (by unfold lsd; simp; omega)]
        walk_at "den"
      | false =>
        have : c ≠ 46 := by simpa using hc
        rw [show Spl.step 46 (d, q) c = (d, q ++ [c]) from if_neg this, lsd_snoc, lsd_snoc]
        walk_at "den"
        rw [at_last]
        walk_at "den"
        rw [v_addS (by rw [mk_len, mk_len]; simp; omega)]
        walk_at "den"
        rw [len_snoc, ix_last]
        walk_at "den"
        rw [set_last, mk_app]
    obtain ⟨x4', e⟩ := cut_loop A B C E cs (Spl.step 46 (d, q) c).1 (Spl.step 46 (d, q) c).2 (some (.sh (.str ⟨#[c]⟩))) (by unfold Spl.step; split <;> simp <;> omega) (by unfold Spl.step; split <;> simp <;> omega)
    refine ⟨x4', ?_⟩
    have one : Den.one (sName 4) dLawReadPathB1 (.str ⟨#[c]⟩) [A, B, C, some (.ow (lsd (d ++ [q]))), x4, E] = .nx [A, B, C, some (.ow (lsd ((Spl.step 46 (d, q) c).1 ++ [(Spl.step 46 (d, q) c).2]))), some (.sh (.str ⟨#[c]⟩)), E] := one_nx (i := 4) (ρ := [A, B, C, some (.ow (lsd (d ++ [q]))), x4, E]) step
    rw [List.map_cons, loopE_nx one, List.foldl_cons]
    exact e

theorem parts_lsd (z : Str) : (parts z).map PyData.str = lsd ((z.cps.toList.foldl (Spl.step 46) ([], [])).1 ++ [(z.cps.toList.foldl (Spl.step 46) ([], [])).2]) := by
  unfold parts Spl.pieces lsd Spl.run
  rw [List.map_map]
  rfl
theorem chk_loop (A P4 P5 : Option Slot) (l p : Int) : ∀ (ps : List Str) (x5 : Option Slot), (∀ q ∈ ps, q.length ≤ 1000) →
    ((ps.all fun q => isN LL (.str q)) = true → ∃ x5', loopE (sName 5) dLawReadPathB2 (ps.map .str) [A, some (.sh (.int l)), some (.sh (.int p)), P4, P5, x5] = .nx [A, some (.sh (.int l)), some (.sh (.int p)), P4, P5, x5']) ∧
    ((ps.all fun q => isN LL (.str q)) = false → ∃ ρ, loopE (sName 5) dLawReadPathB2 (ps.map .str) [A, some (.sh (.int l)), some (.sh (.int p)), P4, P5, x5] = .ret (.sh (.tuple [.str "BadText", .int l, .int p])) ρ)
  | [], x5, _ => ⟨fun _ => ⟨x5, rfl⟩, fun h => by cases h⟩
  | q :: ps, x5, h => by
    have hq := h q (List.mem_cons_self ..)
    obtain ⟨i1, i2⟩ := chk_loop A P4 P5 l p ps (some (.sh (.str q))) fun r hr => h r (List.mem_cons_of_mem _ hr)
    cases hk : isN LL (.str q) with
    | true =>
      have step : dLawReadPathB2 [A, some (.sh (.int l)), some (.sh (.int p)), P4, P5, some (.sh (.str q))] = .nx [A, some (.sh (.int l)), some (.sh (.int p)), P4, P5, some (.sh (.str q))] := by
        unfold dLawReadPathB2
        walk_at "den"
        rw [only_run hq, hk]
        walk_at "den"
      have one : Den.one (sName 5) dLawReadPathB2 (.str q) [A, some (.sh (.int l)), some (.sh (.int p)), P4, P5, x5] = .nx [A, some (.sh (.int l)), some (.sh (.int p)), P4, P5, some (.sh (.str q))] := one_nx (i := 5) (ρ := [A, some (.sh (.int l)), some (.sh (.int p)), P4, P5, x5]) step
      rw [List.all_cons, hk, Bool.true_and, List.map_cons, loopE_nx one]
      exact ⟨i1, i2⟩
    | false =>
      have step : ∃ ρ, dLawReadPathB2 [A, some (.sh (.int l)), some (.sh (.int p)), P4, P5, some (.sh (.str q))] = .ret (.sh (.tuple [.str "BadText", .int l, .int p])) ρ := by
        unfold dLawReadPathB2
        walk_at "den"
        rw [only_run hq, hk]
        walk_at "den"
        exact ⟨_, rfl⟩
      obtain ⟨ρ, step⟩ := step
      have one : Den.one (sName 5) dLawReadPathB2 (.str q) [A, some (.sh (.int l)), some (.sh (.int p)), P4, P5, x5] = .ret (.sh (.tuple [.str "BadText", .int l, .int p])) ρ := one_ret (i := 5) (ρ := [A, some (.sh (.int l)), some (.sh (.int p)), P4, P5, x5]) step
      rw [List.all_cons, hk, Bool.false_and, List.map_cons, loopE_ret one]
      exact ⟨fun h => (by cases h), fun _ => ⟨_, rfl⟩⟩
theorem lawReadPath_run {l p : Int} {z : Str} (hz : z.length ≤ 900) : fLawReadPath.run [.str z, .int l, .int p] = .ok (.sh (LP z l p), []) := by
  have key : ∃ ρ, dLawReadPath [some (.sh (.str z)), some (.sh (.int l)), some (.sh (.int p)), none, none, none] = .ret (.sh (LP z l p)) ρ := by
    unfold dLawReadPath LP
    walk_at "den"
    cases h0 : (z == ("." : Str)) with
    | true =>
      walk_at "den"
      exact ⟨_, rfl⟩
    | false =>
      walk_at "den"
      obtain ⟨x4', e⟩ := cut_loop (some (.sh (.str z))) (some (.sh (.int l))) (some (.sh (.int p))) none z.cps.toList [] [] none (by rw [← len_cps]; simp; omega) (by rw [← len_cps]; simp; omega)
      have e0 : lsd ([] ++ [[]]) = [.str ""] := by rw [empty_mk]; rfl
      rw [e0] at e
      rw [show signs z = z.cps.toList.map fun c => .str ⟨#[c]⟩ from rfl, e]
      walk_at "den"
      rw [← parts_lsd]
      obtain ⟨c1, c2⟩ := chk_loop (some (.sh (.str z))) (some (.sh (.list ((parts z).map .str)))) x4' l p (parts z) none fun q hq => by have := parts_len q hq; omega
      cases hp : pOk z with
      | true =>
        obtain ⟨x5', e5⟩ := c1 hp
        rw [e5]
        walk_at "den"
        rw [show gTuple [.list ((parts z).map .str)] = some (.newT ((parts z).map .str)) from rfl]
        walk_at "den"
        exact ⟨_, rfl⟩
      | false =>
        obtain ⟨ρ, e5⟩ := c2 hp
        rw [e5]
        walk_at "den"
        exact ⟨_, rfl⟩
  obtain ⟨ρ, e⟩ := key
  exact run_ret (own := none) (n := 6) (f := dLawReadPath) (ds := [.str z, .int l, .int p]) e
end K04

namespace K04
open PySem PySem.Spec L2 Den Com
local macro_rules | `(tactic| walk_at "den") => `(tactic| simp only [bind_ok, bind_exc, rbind_nx, rbind_ret, rbind_brk, rbind_ct, rbind_exc, ofOut_ok, ofOut_exc, chT_t, chT_f, chV_t, chV_f, chR_t, chR_f, e_okT, e_okV, k_dat, k_val, k_now, k_bin1, k_bin2, k_andT, k_orT, k_notT, k_and, k_or, k_not, k_ite, k_ch1, k_ch2, k_ch3, k_l1, k_l2, k_tup, k_lst, k_o1, k_o2, k_CB, k_call, k_s1, k_s2, k_s3, k_isi, k_isiT, k_neg, k_expr, k_if, k_asg, k_asgT, k_for, k_app, appStart_some, k_set1, k_set2, setStart_some, k_seqI, k_rng, k_enum, k_rev, k_lc1, k_lc2, e_dat, e_val, e_now, e_C, look_cons_zero, look_cons_succ, e_loc, locOf_some, e_var, varOf_sh, varOf_ow, e_mov, movOf_sh, movOf_ow, res_now, res_slot, Option.map_some, data_sh, data_ow, slotD_sh, slotD_ow, fin2_some, e_bin, e_idx, rvOut_some, slot_val, slot_newT, slot_newL, e_tst, tstOf_b, e_andT, e_orT, e_notT, e_and, e_or, e_not, e_ite, e_chain, e_dList_nil, e_dList_cons, e_tup, e_lst, e_oNil, e_oCons, finC_some, e_CB, cons2_some, resAll_nil, resAll_cons, e_call, callOf_some, callBack_ok, e_ptNone, e_ptSome, ptOf_int, slOf_some, e_sl, isiOf_some, e_isi, e_isiT, e_neg, negOf_int, e_seq, e_skip, e_ret, e_retN, e_brk, e_ct, e_expr, e_if, e_asg, nxO_some, e_asgT, e_sName, e_sTup, e_sCons, e_sNil, Option.bind_some, e_for, owOf_ow, e_app, e_pop, popOf_app, e_set, setOf_int, setOf2_some, e_seqI, itOf_some, items_list, items_tuple, items_str, e_range1, e_enum, enumOf_list, e_rev, e_true, e_lc, e_wipe_nil, e_wipe_cons, e_back_nil, e_back_cons, back1_none, back1_sh, v_addI, v_subI, v_ltI, v_leI, v_gtI, v_geI, v_eqI, v_eqS, v_neI, v_neS, v_neB, v_int, v_lenL, v_lenT, v_idxL, v_idxT, valOpt_some, v_isN, v_isNN, n_none, n_bool, n_int, n_str, n_list, n_tuple, v_slL, List.set_cons_zero, List.set_cons_succ, at0, at1, at2, at3, ix0, ix1, ix2, List.length_cons, List.length_nil, is_int_none, is_int_bool, is_int_int, is_int_str, is_int_list, is_int_tuple, is_str_none, is_str_bool, is_str_int, is_str_str, is_str_list, is_str_tuple, is_bool_none, is_bool_bool, is_bool_int, is_bool_str, is_bool_list, is_bool_tuple, is_tuple_none, is_tuple_bool, is_tuple_int, is_tuple_str, is_tuple_list, is_tuple_tuple, is_list_none, is_list_bool, is_list_int, is_list_str, is_list_list, is_list_tuple, iss_tuple_list_none, iss_tuple_list_bool, iss_tuple_list_int, iss_tuple_list_str, iss_tuple_list_list, iss_tuple_list_tuple, iss_list_tuple_none, iss_list_tuple_bool, iss_list_tuple_int, iss_list_tuple_str, iss_list_tuple_list, iss_list_tuple_tuple, iss_int_str_none, iss_int_str_bool, iss_int_str_int, iss_int_str_str, iss_int_str_list, iss_int_str_tuple, iss_str_int_none, iss_str_int_bool, iss_str_int_int, iss_str_int_str, iss_str_int_list, iss_str_int_tuple, beq_self_eq_true, v_inF, v_inT, ch1_le, ch1_lt, ch2_t, ch2_f, ch3_le, ch3_lt, argD_nil, argD_now, argD_now0, argD_own0, asL_some, put_none, put_0, Nat.zero_add, Nat.reduceAdd, ↓reduceIte, e_raise, k_raise1, k_raise2, k_raise3, e_try, k_try_nx, k_try_ret, k_try_brk, k_try_ct, k_try_exc, k_hit_t, k_hit_f, wipe_nx, wipe_ret, wipe_brk, wipe_ct, lookup1, e_xf, xfOf_0, xfOf_1, e_isx, isxOf_tk, finM_some, k_M1, k_M2, e_M1, v_intI, v_intB, npSpelled, ownSpelled, npIsName, ownIsName, npIsKnown, ownIsKnown, npWriteName, ownWriteName, npWritePath, ownWritePath, npReadName, ownReadName, npReadPath, ownReadPath, npLawDeck, ownLawDeck, npLawDraw, ownLawDraw, npLawWord, ownLawWord, npLawSame, ownLawSame, npLawText, ownLawText, npLawOnly, ownLawOnly, npLawName, ownLawName, npLawPath, ownLawPath, npLawWritten, ownLawWritten, npLawBent, ownLawBent, npLawReadName, ownLawReadName, npLawReadPath, ownLawReadPath, npLawTried, ownLawTried, npLawBase, ownLawBase, npLaw, ownLaw, Bool.not_true, Bool.not_false, decide_true, decide_false])
/-! ### tried -/
theorem line_word : (("line" : Str) == ("word" : Str)) = false := by decide +kernel
theorem tried_name {l p : Int} {z : Str} (hz : z.length ≤ 900) : fLawTried.run [.str z, .int l, .int p, .bool false] = .ok (.sh (LR z l p), []) := by
  have key : ∃ ρ, dLawTried [some (.sh (.str z)), some (.sh (.int l)), some (.sh (.int p)), some (.sh (.bool false)), none] = .ret (.sh (LR z l p)) ρ := by
    unfold dLawTried dLawTriedY1 dLawTriedS1 LR
    walk_at "den"
    rw [readName_run (by omega)]
    cases hk : isN LD (.str z) with
    | true =>
      rw [if_pos rfl]
      walk_at "den"
      exact ⟨_, rfl⟩
    | false =>
      rw [if_neg (by decide)]
      cases hn : numOf z.cps.toList with
      | some n =>
        walk_at "den"
        exact ⟨_, rfl⟩
      | none =>
        dsimp only
        rw [callBack_exc rfl]
        walk_at "den"
        rw [xfOf_1 line_word]
        walk_at "den"
        exact ⟨_, rfl⟩
  obtain ⟨ρ, e⟩ := key
  exact run_ret (own := none) (n := 5) (f := dLawTried) (ds := [.str z, .int l, .int p, .bool false]) e

theorem tried_path {l p : Int} {z : Str} (hz : z.length ≤ 900) : fLawTried.run [.str z, .int l, .int p, .bool true] = .ok (.sh (LP z l p), []) := by
  have key : ∃ ρ, dLawTried [some (.sh (.str z)), some (.sh (.int l)), some (.sh (.int p)), some (.sh (.bool true)), none] = .ret (.sh (LP z l p)) ρ := by
    unfold dLawTried dLawTriedY1 dLawTriedS1 LP
    walk_at "den"
    rw [readPath_run (by omega)]
    cases h0 : (z == ("." : Str)) with
    | true =>
      rw [if_pos rfl]
      walk_at "den"
      exact ⟨_, rfl⟩
    | false =>
      rw [if_neg (by decide)]
      cases hp : pOk z with
      | true =>
        rw [if_pos rfl]
        walk_at "den"
        exact ⟨_, rfl⟩
      | false =>
        rw [if_neg (by decide), callBack_exc rfl]
        walk_at "den"
        rw [xfOf_1 line_word]
        walk_at "den"
        exact ⟨_, rfl⟩
  obtain ⟨ρ, e⟩ := key
  exact run_ret (own := none) (n := 5) (f := dLawTried) (ds := [.str z, .int l, .int p, .bool true]) e
theorem base_run {z : Str} (hz : z.length ≤ 900) (h0 : (z == ("." : Str)) = false) (hp : pOk z = false) : fLawBase.run [.str z] = .ok (.sh (.bool true), []) := by
  have key : ∃ ρ, dLawBase [some (.sh (.str z)), none] = .ret (.sh (.bool true)) ρ := by
    unfold dLawBase dLawBaseY1 dLawBaseS1
    walk_at "den"
    rw [readPath_run (by omega), h0, hp, if_neg (by decide), if_neg (by decide), callBack_exc rfl]
    walk_at "den"
    exact ⟨_, rfl⟩
  obtain ⟨ρ, e⟩ := key
  exact run_ret (own := none) (n := 2) (f := dLawBase) (ds := [.str z]) e
theorem base_A : fLawBase.run [.str "A"] = .ok (.sh (.bool true), []) := base_run (by decide) (by decide +kernel) (by decide +kernel)
theorem base_0 : fLawBase.run [.str ""] = .ok (.sh (.bool true), []) := base_run (by decide) (by decide +kernel) (by decide +kernel)
end K04

namespace K04
open PySem PySem.Spec L2 Den Com
local macro_rules | `(tactic| walk_at "den") => `(tactic| simp only [bind_ok, bind_exc, rbind_nx, rbind_ret, rbind_brk, rbind_ct, rbind_exc, ofOut_ok, ofOut_exc, chT_t, chT_f, chV_t, chV_f, chR_t, chR_f, e_okT, e_okV, k_dat, k_val, k_now, k_bin1, k_bin2, k_andT, k_orT, k_notT, k_and, k_or, k_not, k_ite, k_ch1, k_ch2, k_ch3, k_l1, k_l2, k_tup, k_lst, k_o1, k_o2, k_CB, k_call, k_s1, k_s2, k_s3, k_isi, k_isiT, k_neg, k_expr, k_if, k_asg, k_asgT, k_for, k_app, appStart_some, k_set1, k_set2, setStart_some, k_seqI, k_rng, k_enum, k_rev, k_lc1, k_lc2, e_dat, e_val, e_now, e_C, look_cons_zero, look_cons_succ, e_loc, locOf_some, e_var, varOf_sh, varOf_ow, e_mov, movOf_sh, movOf_ow, res_now, res_slot, Option.map_some, data_sh, data_ow, slotD_sh, slotD_ow, fin2_some, e_bin, e_idx, rvOut_some, slot_val, slot_newT, slot_newL, e_tst, tstOf_b, e_andT, e_orT, e_notT, e_and, e_or, e_not, e_ite, e_chain, e_dList_nil, e_dList_cons, e_tup, e_lst, e_oNil, e_oCons, finC_some, e_CB, cons2_some, resAll_nil, resAll_cons, e_call, callOf_some, callBack_ok, e_ptNone, e_ptSome, ptOf_int, slOf_some, e_sl, isiOf_some, e_isi, e_isiT, e_neg, negOf_int, e_seq, e_skip, e_ret, e_retN, e_brk, e_ct, e_expr, e_if, e_asg, nxO_some, e_asgT, e_sName, e_sTup, e_sCons, e_sNil, Option.bind_some, e_for, owOf_ow, e_app, e_pop, popOf_app, e_set, setOf_int, setOf2_some, e_seqI, itOf_some, items_list, items_tuple, items_str, e_range1, e_enum, enumOf_list, e_rev, e_true, e_lc, e_wipe_nil, e_wipe_cons, e_back_nil, e_back_cons, back1_none, back1_sh, v_addI, v_subI, v_ltI, v_leI, v_gtI, v_geI, v_eqI, v_eqS, v_neI, v_neS, v_neB, v_int, v_lenL, v_lenT, v_idxL, v_idxT, valOpt_some, v_isN, v_isNN, n_none, n_bool, n_int, n_str, n_list, n_tuple, v_slL, List.set_cons_zero, List.set_cons_succ, at0, at1, at2, at3, ix0, ix1, ix2, List.length_cons, List.length_nil, is_int_none, is_int_bool, is_int_int, is_int_str, is_int_list, is_int_tuple, is_str_none, is_str_bool, is_str_int, is_str_str, is_str_list, is_str_tuple, is_bool_none, is_bool_bool, is_bool_int, is_bool_str, is_bool_list, is_bool_tuple, is_tuple_none, is_tuple_bool, is_tuple_int, is_tuple_str, is_tuple_list, is_tuple_tuple, is_list_none, is_list_bool, is_list_int, is_list_str, is_list_list, is_list_tuple, iss_tuple_list_none, iss_tuple_list_bool, iss_tuple_list_int, iss_tuple_list_str, iss_tuple_list_list, iss_tuple_list_tuple, iss_list_tuple_none, iss_list_tuple_bool, iss_list_tuple_int, iss_list_tuple_str, iss_list_tuple_list, iss_list_tuple_tuple, iss_int_str_none, iss_int_str_bool, iss_int_str_int, iss_int_str_str, iss_int_str_list, iss_int_str_tuple, iss_str_int_none, iss_str_int_bool, iss_str_int_int, iss_str_int_str, iss_str_int_list, iss_str_int_tuple, beq_self_eq_true, v_inF, v_inT, ch1_le, ch1_lt, ch2_t, ch2_f, ch3_le, ch3_lt, argD_nil, argD_now, argD_now0, argD_own0, asL_some, put_none, put_0, Nat.zero_add, Nat.reduceAdd, ↓reduceIte, e_raise, k_raise1, k_raise2, k_raise3, e_try, k_try_nx, k_try_ret, k_try_brk, k_try_ct, k_try_exc, k_hit_t, k_hit_f, wipe_nx, wipe_ret, wipe_brk, wipe_ct, lookup1, e_xf, xfOf_0, xfOf_1, e_isx, isxOf_tk, finM_some, k_M1, k_M2, e_M1, v_intI, v_intB, npSpelled, ownSpelled, npIsName, ownIsName, npIsKnown, ownIsKnown, npWriteName, ownWriteName, npWritePath, ownWritePath, npReadName, ownReadName, npReadPath, ownReadPath, npLawDeck, ownLawDeck, npLawDraw, ownLawDraw, npLawWord, ownLawWord, npLawSame, ownLawSame, npLawText, ownLawText, npLawOnly, ownLawOnly, npLawName, ownLawName, npLawPath, ownLawPath, npLawWritten, ownLawWritten, npLawBent, ownLawBent, npLawReadName, ownLawReadName, npLawReadPath, ownLawReadPath, npLawTried, ownLawTried, npLawBase, ownLawBase, npLaw, ownLaw, Bool.not_true, Bool.not_false, decide_true, decide_false])
/-! ### what is drawn -/
def Lets (z : Str) : Prop := ∀ c ∈ z.cps.toList, c ∈ LL.cps.toList
theorem LL_len : LL.length = 26 := by decide +kernel
theorem LL_small : ∀ c ∈ LL.cps.toList, c < 0x110000 := by decide +kernel
theorem Lets.ok {z : Str} (h : Lets z) : PyData.strOk z = true := by
  unfold PyData.strOk
  rw [← Array.all_toList, List.all_eq_true]
  intro c hc
  exact decide_eq_true (LL_small c (h c hc))
theorem Lets.snoc {z : Str} {c : Nat} (h : Lets z) (hc : c ∈ LL.cps.toList) : Lets (z ++ ⟨#[c]⟩) := fun d hd => by
  rw [Spl.cps_app, List.mem_append] at hd
  rcases hd with hd | hd
  · exact h d hd
  · have : d = c := by simpa using hd
    rw [this]; exact hc
theorem word_run {l : List D} (h : Deck l) : ∃ (z : Str) (l' : List D), fLawWord.run [.list l, .list []] = .ok (.sh (.str z), l') ∧ 1 ≤ z.length ∧ z.length ≤ 8 ∧ Lets z ∧ Deck l' := by
  have key : ∃ (z : Str) (l' : List D) (ρ : Den.Env), dLawWord [some (.ow l), some (.sh (.list [])), none, none, none, none, none, none, none] = .ret (.sh (.str z)) (some (.ow l') :: ρ) ∧ 1 ≤ z.length ∧ z.length ≤ 8 ∧ Lets z ∧ Deck l' := by
    unfold dLawWord
    walk_at "den"
    obtain ⟨k, l1, e1, k0, k1, d1⟩ := draw_it h (m := 4) (by decide)
    rw [e1]
    walk_at "den"
    obtain ⟨n8, l2, e2, n0, n1, d2⟩ := draw_it d1 (m := 8) (by decide)
    rw [e2]
    walk_at "den"
    obtain ⟨x, hx, ex⟩ := at_pick (l := [PyData.int 1, .int 1, .int 2, .int (1 + n8)]) k0 (by simpa using k1)
    have hx1 : ∃ j : Int, x = .int j ∧ 1 ≤ j ∧ j ≤ 8 := by
      simp only [List.mem_cons, List.not_mem_nil, or_false] at hx
      rcases hx with rfl | rfl | rfl | rfl <;> exact ⟨_, rfl, by omega, by omega⟩
    obtain ⟨j, rfl, j1, j8⟩ := hx1
    rw [ex]
    walk_at "den"
    rw [rng1_int ⟨by omega, by omega⟩]
    walk_at "den"
    obtain ⟨y, hy, ey⟩ := at_pick (l := [PyData.int 4, .int 26, .int 26, .int 26]) k0 (by simpa using k1)
    have hy1 : ∃ m : Int, y = .int m ∧ 0 < m ∧ m ≤ 26 := by
      simp only [List.mem_cons, List.not_mem_nil, or_false] at hy
      rcases hy with rfl | rfl | rfl | rfl <;> exact ⟨_, rfl, by omega, by omega⟩
    obtain ⟨m, rfl, m0, m1⟩ := hy1
    obtain ⟨ρ', e, z, l5, x6, rfl, hz, hL, d5⟩ := loop_inv (st := sName 6) (body := dLawWordB1) (fun done ρ => ∃ (z : Str) (l' : List D) (x6 : Option Slot), ρ = [some (.ow l'), some (.sh (.list [])), some (.sh (.str "abcdefghijklmnopqrstuvwxyz")), some (.sh (.int k)), some (.sh (.int j)), some (.sh (.str z)), x6, none, none] ∧ z.length = done.length ∧ Lets z ∧ Deck l') (l := intsD 0 j.toNat) (done := [])
      ⟨"", l2, none, rfl, rfl, (fun c hc => by rw [show ("" : Str).cps.toList = [] by decide +kernel] at hc; cases hc), d2⟩ (by
        rintro done' d rest ρ hd ⟨z, l', x6, rfl, hz, hL, dl⟩
        have hlen : done'.length < j.toNat := by
          have := congrArg List.length hd
          rw [List.nil_append, intsD_len] at this
          simp only [List.length_append, List.length_cons] at this
          omega
        obtain ⟨n, l3, en, n0, n1, d3⟩ := draw_it dl (m := m) ⟨m0, by omega⟩
        obtain ⟨c, hc, ec⟩ := v_idxS (z := LL) (n := n) (by rw [LL_len]; decide) n0 (by rw [LL_len]; omega)
        refine ⟨[some (.ow l3), some (.sh (.list [])), some (.sh (.str "abcdefghijklmnopqrstuvwxyz")), some (.sh (.int k)), some (.sh (.int j)), some (.sh (.str (z ++ ⟨#[c]⟩))), some (.sh d), none, none], one_nx ?_, z ++ ⟨#[c]⟩, l3, _, rfl, by rw [str_len_app, hz, one_len, List.length_append]; rfl, hL.snoc hc, d3⟩
        show dLawWordB1 [some (.ow l'), some (.sh (.list [])), some (.sh (.str "abcdefghijklmnopqrstuvwxyz")), some (.sh (.int k)), some (.sh (.int j)), some (.sh (.str z)), some (.sh d), none, none] = _
        unfold dLawWordB1
        walk_at "den"
        rw [ey]
        walk_at "den"
        rw [en]
        walk_at "den"
        rw [ec]
        walk_at "den"
        rw [v_addS (by rw [one_len]; omega)]
        walk_at "den")
    rw [List.nil_append, intsD_len] at hz
    rw [e]
    walk_at "den"
    rw [show gIn true (.str z) (.list []) = some (.val (.bool true)) from rfl]
    walk_at "den"
    exact ⟨z, l5, _, rfl, by omega, by omega, hL, d5⟩
  obtain ⟨z, l', ρ, e, h1, h2, h3, h4⟩ := key
  exact ⟨z, l', run_ret (own := some 0) (n := 9) (f := dLawWord) (ds := [.list l, .list []]) e, h1, h2, h3, h4⟩
theorem alnum_len : LD.length = 36 := by decide +kernel
theorem name_run {l : List D} (h : Deck l) : ∃ (x : D) (l' : List D), fLawName.run [.list l] = .ok (.sh x, l') ∧ ((∃ i : Int, x = .int i ∧ 0 ≤ i ∧ i < 10000) ∨ ∃ z : Str, x = .str z ∧ z.length ≤ 8) ∧ Deck l' := by
  have key : ∃ (x : D) (l' : List D) (ρ : Den.Env), dLawName [some (.ow l), none, none, none] = .ret (.sh x) (some (.ow l') :: ρ) ∧ ((∃ i : Int, x = .int i ∧ 0 ≤ i ∧ i < 10000) ∨ ∃ z : Str, x = .str z ∧ z.length ≤ 8) ∧ Deck l' := by
    unfold dLawName
    walk_at "den"
    obtain ⟨k, l1, e1, k0, k1, d1⟩ := draw_it h (m := 3) (by decide)
    rw [e1]
    walk_at "den"
    by_cases h2 : k < 2
    · rw [decide_eq_true h2]
      walk_at "den"
      obtain ⟨y, hy, ey⟩ := at_pick (l := [PyData.int 30, .int 10000]) k0 (by simpa using h2)
      have hy1 : ∃ m : Int, y = .int m ∧ 0 < m ∧ m ≤ 10000 := by
        simp only [List.mem_cons, List.not_mem_nil, or_false] at hy
        rcases hy with rfl | rfl <;> exact ⟨_, rfl, by omega, by omega⟩
      obtain ⟨m, rfl, m0, m1⟩ := hy1
      rw [ey]
      walk_at "den"
      obtain ⟨n, l3, en, n0, n1, d3⟩ := draw_it d1 (m := m) ⟨m0, by omega⟩
      rw [en]
      walk_at "den"
      exact ⟨_, _, _, rfl, .inl ⟨n, rfl, n0, by omega⟩, d3⟩
    · rw [decide_eq_false h2]
      walk_at "den"
      obtain ⟨n8, l2, e2, n0, n1, d2⟩ := draw_it d1 (m := 8) (by decide)
      rw [e2]
      walk_at "den"
      rw [rng1_int ⟨by omega, by omega⟩]
      walk_at "den"
      obtain ⟨ρ', e, z, l5, x3, rfl, hz, d5⟩ := loop_inv (st := sName 3) (body := dLawNameB1) (fun done ρ => ∃ (z : Str) (l' : List D) (x3 : Option Slot), ρ = [some (.ow l'), some (.sh (.int k)), some (.sh (.str z)), x3] ∧ z.length = done.length ∧ Deck l') (l := intsD 0 (1 + n8).toNat) (done := [])
        ⟨"", l2, none, rfl, rfl, d2⟩ (by
          rintro done' d rest ρ hd ⟨z, l', x3, rfl, hz, dl⟩
          have hlen : done'.length < (1 + n8).toNat := by
            have := congrArg List.length hd
            rw [List.nil_append, intsD_len] at this
            simp only [List.length_append, List.length_cons] at this
            omega
          obtain ⟨n, l3, en, n0, n1, d3⟩ := draw_it dl (m := 36) (by decide)
          obtain ⟨c, hc, ec⟩ := v_idxS (z := LD) (n := n) (by rw [alnum_len]; decide) n0 (by rw [alnum_len]; omega)
          refine ⟨[some (.ow l3), some (.sh (.int k)), some (.sh (.str (z ++ ⟨#[c]⟩))), some (.sh d)], one_nx ?_, z ++ ⟨#[c]⟩, l3, _, rfl, by rw [str_len_app, hz, one_len, List.length_append]; rfl, d3⟩
          show dLawNameB1 [some (.ow l'), some (.sh (.int k)), some (.sh (.str z)), some (.sh d)] = _
          unfold dLawNameB1
          walk_at "den"
          rw [en]
          walk_at "den"
          rw [ec]
          walk_at "den"
          rw [v_addS (by rw [one_len]; omega)]
          walk_at "den")
      rw [List.nil_append, intsD_len] at hz
      rw [e]
      walk_at "den"
      exact ⟨_, _, _, rfl, .inr ⟨z, rfl, by omega⟩, d5⟩
  obtain ⟨x, l', ρ, e, h1, h2⟩ := key
  exact ⟨x, l', run_ret (own := some 0) (n := 4) (f := dLawName) (ds := [.list l]) e, h1, h2⟩
end K04

namespace K04
open PySem PySem.Spec L2 Den Com
local macro_rules | `(tactic| walk_at "den") => `(tactic| simp only [bind_ok, bind_exc, rbind_nx, rbind_ret, rbind_brk, rbind_ct, rbind_exc, ofOut_ok, ofOut_exc, chT_t, chT_f, chV_t, chV_f, chR_t, chR_f, e_okT, e_okV, k_dat, k_val, k_now, k_bin1, k_bin2, k_andT, k_orT, k_notT, k_and, k_or, k_not, k_ite, k_ch1, k_ch2, k_ch3, k_l1, k_l2, k_tup, k_lst, k_o1, k_o2, k_CB, k_call, k_s1, k_s2, k_s3, k_isi, k_isiT, k_neg, k_expr, k_if, k_asg, k_asgT, k_for, k_app, appStart_some, k_set1, k_set2, setStart_some, k_seqI, k_rng, k_enum, k_rev, k_lc1, k_lc2, e_dat, e_val, e_now, e_C, look_cons_zero, look_cons_succ, e_loc, locOf_some, e_var, varOf_sh, varOf_ow, e_mov, movOf_sh, movOf_ow, res_now, res_slot, Option.map_some, data_sh, data_ow, slotD_sh, slotD_ow, fin2_some, e_bin, e_idx, rvOut_some, slot_val, slot_newT, slot_newL, e_tst, tstOf_b, e_andT, e_orT, e_notT, e_and, e_or, e_not, e_ite, e_chain, e_dList_nil, e_dList_cons, e_tup, e_lst, e_oNil, e_oCons, finC_some, e_CB, cons2_some, resAll_nil, resAll_cons, e_call, callOf_some, callBack_ok, e_ptNone, e_ptSome, ptOf_int, slOf_some, e_sl, isiOf_some, e_isi, e_isiT, e_neg, negOf_int, e_seq, e_skip, e_ret, e_retN, e_brk, e_ct, e_expr, e_if, e_asg, nxO_some, e_asgT, e_sName, e_sTup, e_sCons, e_sNil, Option.bind_some, e_for, owOf_ow, e_app, e_pop, popOf_app, e_set, setOf_int, setOf2_some, e_seqI, itOf_some, items_list, items_tuple, items_str, e_range1, e_enum, enumOf_list, e_rev, e_true, e_lc, e_wipe_nil, e_wipe_cons, e_back_nil, e_back_cons, back1_none, back1_sh, v_addI, v_subI, v_ltI, v_leI, v_gtI, v_geI, v_eqI, v_eqS, v_neI, v_neS, v_neB, v_int, v_lenL, v_lenT, v_idxL, v_idxT, valOpt_some, v_isN, v_isNN, n_none, n_bool, n_int, n_str, n_list, n_tuple, v_slL, List.set_cons_zero, List.set_cons_succ, at0, at1, at2, at3, ix0, ix1, ix2, List.length_cons, List.length_nil, is_int_none, is_int_bool, is_int_int, is_int_str, is_int_list, is_int_tuple, is_str_none, is_str_bool, is_str_int, is_str_str, is_str_list, is_str_tuple, is_bool_none, is_bool_bool, is_bool_int, is_bool_str, is_bool_list, is_bool_tuple, is_tuple_none, is_tuple_bool, is_tuple_int, is_tuple_str, is_tuple_list, is_tuple_tuple, is_list_none, is_list_bool, is_list_int, is_list_str, is_list_list, is_list_tuple, iss_tuple_list_none, iss_tuple_list_bool, iss_tuple_list_int, iss_tuple_list_str, iss_tuple_list_list, iss_tuple_list_tuple, iss_list_tuple_none, iss_list_tuple_bool, iss_list_tuple_int, iss_list_tuple_str, iss_list_tuple_list, iss_list_tuple_tuple, iss_int_str_none, iss_int_str_bool, iss_int_str_int, iss_int_str_str, iss_int_str_list, iss_int_str_tuple, iss_str_int_none, iss_str_int_bool, iss_str_int_int, iss_str_int_str, iss_str_int_list, iss_str_int_tuple, beq_self_eq_true, v_inF, v_inT, ch1_le, ch1_lt, ch2_t, ch2_f, ch3_le, ch3_lt, argD_nil, argD_now, argD_now0, argD_own0, asL_some, put_none, put_0, Nat.zero_add, Nat.reduceAdd, ↓reduceIte, e_raise, k_raise1, k_raise2, k_raise3, e_try, k_try_nx, k_try_ret, k_try_brk, k_try_ct, k_try_exc, k_hit_t, k_hit_f, wipe_nx, wipe_ret, wipe_brk, wipe_ct, lookup1, e_xf, xfOf_0, xfOf_1, e_isx, isxOf_tk, finM_some, k_M1, k_M2, e_M1, v_intI, v_intB, npSpelled, ownSpelled, npIsName, ownIsName, npIsKnown, ownIsKnown, npWriteName, ownWriteName, npWritePath, ownWritePath, npReadName, ownReadName, npReadPath, ownReadPath, npLawDeck, ownLawDeck, npLawDraw, ownLawDraw, npLawWord, ownLawWord, npLawSame, ownLawSame, npLawText, ownLawText, npLawOnly, ownLawOnly, npLawName, ownLawName, npLawPath, ownLawPath, npLawWritten, ownLawWritten, npLawBent, ownLawBent, npLawReadName, ownLawReadName, npLawReadPath, ownLawReadPath, npLawTried, ownLawTried, npLawBase, ownLawBase, npLaw, ownLaw, Bool.not_true, Bool.not_false, decide_true, decide_false])
theorem path_run {l : List D} (h : Deck l) : ∃ (ws : List Str) (l' : List D), fLawPath.run [.list l] = .ok (.sh (.tuple (ws.map .str)), l') ∧ ws.length ≤ 3 ∧ (∀ z ∈ ws, 1 ≤ z.length ∧ z.length ≤ 8 ∧ Lets z) ∧ Deck l' := by
  have key : ∃ (ws : List Str) (l' : List D) (ρ : Den.Env), dLawPath [some (.ow l), none] = .ret (.sh (.tuple (ws.map .str))) (some (.ow l') :: ρ) ∧ ws.length ≤ 3 ∧ (∀ z ∈ ws, 1 ≤ z.length ∧ z.length ≤ 8 ∧ Lets z) ∧ Deck l' := by
    unfold dLawPath
    walk_at "den"
    obtain ⟨k, l1, e1, k0, k1, d1⟩ := draw_it h (m := 4) (by decide)
    rw [e1]
    walk_at "den"
    rw [rng1_int ⟨by omega, by omega⟩]
    walk_at "den"
    rw [lcGo_eq (by rw [intsD_len]; omega)]
    walk_at "den"
    obtain ⟨ys, ρ, e2, ws, h1, h2, h3, l2, d2, rfl⟩ := lc_inv (own := [1]) (st := sName 1) (f := dLawPathE1) (l := intsD 0 k.toNat) (done := []) (made := []) (fun done made ρ => ∃ ws : List Str, made = ws.map .str ∧ ws.length = done.length ∧ (∀ z ∈ ws, 1 ≤ z.length ∧ z.length ≤ 8 ∧ Lets z) ∧ ∃ l', Deck l' ∧ ρ = [some (.ow l'), none])
      (ρ := [some (.ow l1), none]) ⟨[], rfl, rfl, fun z hz => (nomatch hz), l1, d1, rfl⟩ (by
        rintro done' made' d rest ρ - ⟨ws, rfl, hl, hm, l', dl, rfl⟩
        obtain ⟨z, l2, e, z1, z8, hL, d2⟩ := word_run dl
        refine ⟨_, .str z, [some (.ow l2), some (.sh d)], rfl, ?_, ws ++ [z], by rw [List.map_append]; rfl, by rw [List.length_append, List.length_append, hl]; rfl, ?_, l2, d2, rfl⟩
        · show dLawPathE1 [some (.ow l'), some (.sh d)] = _
          unfold dLawPathE1
          walk_at "den"
          rw [e]
          walk_at "den"
        · intro x hx
          rcases List.mem_append.1 hx with hx | hx
          · exact hm x hx
          · rw [List.mem_singleton] at hx
            rw [hx]; exact ⟨z1, z8, hL⟩)
    rw [e2]
    rw [List.nil_append] at h1 h2
    rw [intsD_len] at h2
    subst h1
    walk_at "den"
    rw [show gTuple [.list (ws.map PyData.str)] = some (.newT (ws.map .str)) from rfl]
    walk_at "den"
    exact ⟨ws, l2, _, rfl, by omega, h3, d2⟩
  obtain ⟨x, l', ρ, e, h1, h2⟩ := key
  exact ⟨x, l', run_ret (own := some 0) (n := 2) (f := dLawPath) (ds := [.list l]) e, h1, h2⟩
theorem bs_len : ("..##a0z9A =.\n-" : Str).length = 14 := by decide +kernel
theorem bent_run {l : List D} {w : Str} (h : Deck l) (hw : w.length ≤ 100) : ∃ (z : Str) (l' : List D), fLawBent.run [.list l, .str w] = .ok (.sh (.str z), l') ∧ z.length ≤ 900 ∧ Deck l' := by
  have key : ∃ (z : Str) (l' : List D) (ρ : Den.Env), dLawBent [some (.ow l), some (.sh (.str w)), none, none, none, none] = .ret (.sh (.str z)) (some (.ow l') :: ρ) ∧ z.length ≤ 900 ∧ Deck l' := by
    unfold dLawBent
    walk_at "den"
    rw [v_lenS (by omega)]
    walk_at "den"
    obtain ⟨n, l1, e1, n0, n1, d1⟩ := draw_it h (m := w.length + 1) ⟨by omega, by omega⟩
    rw [e1]
    walk_at "den"
    obtain ⟨k, l2, e2, k0, k1, d2⟩ := draw_it d1 (m := 3) (by decide)
    rw [e2]
    walk_at "den"
    obtain ⟨m, l3, e3, m0, m1, d3⟩ := draw_it d2 (m := 14) (by decide)
    rw [e3]
    walk_at "den"
    obtain ⟨c, hc, ec⟩ := v_idxS (z := "..##a0z9A =.\n-") (n := m) (by rw [bs_len]; decide) m0 (by rw [bs_len]; omega)
    rw [ec]
    walk_at "den"
    have c1 := cutS_length w none (some n)
    have c2 := cutS_length w (some n) none
    have c3 := cutS_length w (some (n + 1)) none
    cases h0 : (k == 0) with
    | true =>
      walk_at "den"
      rw [v_slS (by omega)]
      walk_at "den"
      rw [v_addS (by rw [one_len]; omega)]
      walk_at "den"
      rw [v_slS (by omega)]
      walk_at "den"
      rw [v_addS (by rw [str_len_app, one_len]; omega)]
      walk_at "den"
      exact ⟨_, _, _, rfl, by rw [str_len_app, str_len_app, one_len]; omega, d3⟩
    | false =>
      walk_at "den"
      cases h1 : (k == 1) with
      | true =>
        walk_at "den"
        rw [v_slS (by omega)]
        walk_at "den"
        rw [v_addS (by rw [one_len]; omega)]
        walk_at "den"
        rw [v_slS (by omega)]
        walk_at "den"
        rw [v_addS (by rw [str_len_app, one_len]; omega)]
        walk_at "den"
        exact ⟨_, _, _, rfl, by rw [str_len_app, str_len_app, one_len]; omega, d3⟩
      | false =>
        walk_at "den"
        rw [v_slS (by omega)]
        walk_at "den"
        rw [v_slS (by omega)]
        walk_at "den"
        rw [v_addS (by omega)]
        walk_at "den"
        exact ⟨_, _, _, rfl, by rw [str_len_app]; omega, d3⟩
  obtain ⟨x, l', ρ, e, h1, h2⟩ := key
  exact ⟨x, l', run_ret (own := some 0) (n := 6) (f := dLawBent) (ds := [.list l, .str w]) e, h1, h2⟩
/-! ### written back -/
theorem foldl_bound : ∀ (ds : List Nat) (acc : Nat), (∀ c ∈ ds, 48 ≤ c ∧ c ≤ 57) → ds.foldl (fun a c => a * 10 + (c - 48)) acc + 1 ≤ (acc + 1) * 10 ^ ds.length
  | [], acc, _ => by simp
  | c :: ds, acc, h => by
    have hc := h c (List.mem_cons_self ..)
    have ih := foldl_bound ds (acc * 10 + (c - 48)) fun d hd => h d (List.mem_cons_of_mem _ hd)
    rw [List.foldl_cons, List.length_cons, Nat.pow_succ]
    refine Nat.le_trans ih ?_
    have : acc * 10 + (c - 48) + 1 ≤ (acc + 1) * 10 := by omega
    calc (acc * 10 + (c - 48) + 1) * 10 ^ ds.length ≤ ((acc + 1) * 10) * 10 ^ ds.length := Nat.mul_le_mul_right _ this
      _ = (acc + 1) * (10 ^ ds.length * 10) := by rw [Nat.mul_assoc, Nat.mul_comm 10]
theorem num_small {ds : List Nat} (h : canon ds = true) : PySem.NumText.digitsVal ds < 10 ^ 4 := by
  unfold canon at h
  rw [Bool.and_eq_true, Bool.and_eq_true, Bool.and_eq_true, decide_eq_true_iff, decide_eq_true_iff] at h
  obtain ⟨⟨⟨a1, a2⟩, a3⟩, _⟩ := h
  have := foldl_bound ds 0 (canon_all a3)
  have h4 : 10 ^ ds.length ≤ 10 ^ 4 := Nat.pow_le_pow_right (by decide) a2
  unfold PySem.NumText.digitsVal
  omega
theorem num_word {z : Str} {n : Int} (h : numOf z.cps.toList = some n) : 0 ≤ n ∧ n < 10 ^ 4 ∧ "#" ++ PySem.Str.ofString (toString n) = z := by
  unfold numOf at h
  split at h
  · rename_i ds hz
    split at h
    · rename_i hc
      cases h
      have hs := num_small hc
      refine ⟨by omega, by omega, ?_⟩
      have hc' := hc
      unfold canon at hc'
      rw [Bool.and_eq_true, Bool.and_eq_true, Bool.and_eq_true, decide_eq_true_iff, decide_eq_true_iff] at hc'
      obtain ⟨⟨⟨a1, a2⟩, a3⟩, a4⟩ := hc'
      have hb := Spl.num_back (x := Spl.mk ds) (canon_all a3) (by rw [mk_list]; intro e; rw [e] at a1; simp at a1) (by
        rw [mk_list]
        cases ds with
        | nil => simp at a1
        | cons d r =>
          rw [Bool.or_eq_true] at a4
          rcases a4 with a4 | a4
          · have : d :: r = [48] := by simpa using a4
            exact .inl ⟨48, this⟩
          · have h1 := canon_all a3 d (List.mem_cons_self ..)
            have h2 : d ≠ 48 := by simpa using a4
            exact .inr ⟨d, r, rfl, by omega⟩)
      rw [mk_list] at hb
      have hb : PySem.Str.ofString (toString ((PySem.NumText.digitsVal ds : Nat) : Int)) = Spl.mk ds := hb
      rw [hb, hash_mk, mk_app, ← Spl.mk_cps z, hz]
      rfl
    · cases h
  · cases h
end K04

namespace K04
open PySem PySem.Spec L2 Den Com
local macro_rules | `(tactic| walk_at "den") => `(tactic| simp only [bind_ok, bind_exc, rbind_nx, rbind_ret, rbind_brk, rbind_ct, rbind_exc, ofOut_ok, ofOut_exc, chT_t, chT_f, chV_t, chV_f, chR_t, chR_f, e_okT, e_okV, k_dat, k_val, k_now, k_bin1, k_bin2, k_andT, k_orT, k_notT, k_and, k_or, k_not, k_ite, k_ch1, k_ch2, k_ch3, k_l1, k_l2, k_tup, k_lst, k_o1, k_o2, k_CB, k_call, k_s1, k_s2, k_s3, k_isi, k_isiT, k_neg, k_expr, k_if, k_asg, k_asgT, k_for, k_app, appStart_some, k_set1, k_set2, setStart_some, k_seqI, k_rng, k_enum, k_rev, k_lc1, k_lc2, e_dat, e_val, e_now, e_C, look_cons_zero, look_cons_succ, e_loc, locOf_some, e_var, varOf_sh, varOf_ow, e_mov, movOf_sh, movOf_ow, res_now, res_slot, Option.map_some, data_sh, data_ow, slotD_sh, slotD_ow, fin2_some, e_bin, e_idx, rvOut_some, slot_val, slot_newT, slot_newL, e_tst, tstOf_b, e_andT, e_orT, e_notT, e_and, e_or, e_not, e_ite, e_chain, e_dList_nil, e_dList_cons, e_tup, e_lst, e_oNil, e_oCons, finC_some, e_CB, cons2_some, resAll_nil, resAll_cons, e_call, callOf_some, callBack_ok, e_ptNone, e_ptSome, ptOf_int, slOf_some, e_sl, isiOf_some, e_isi, e_isiT, e_neg, negOf_int, e_seq, e_skip, e_ret, e_retN, e_brk, e_ct, e_expr, e_if, e_asg, nxO_some, e_asgT, e_sName, e_sTup, e_sCons, e_sNil, Option.bind_some, e_for, owOf_ow, e_app, e_pop, popOf_app, e_set, setOf_int, setOf2_some, e_seqI, itOf_some, items_list, items_tuple, items_str, e_range1, e_enum, enumOf_list, e_rev, e_true, e_lc, e_wipe_nil, e_wipe_cons, e_back_nil, e_back_cons, back1_none, back1_sh, v_addI, v_subI, v_ltI, v_leI, v_gtI, v_geI, v_eqI, v_eqS, v_neI, v_neS, v_neB, v_int, v_lenL, v_lenT, v_idxL, v_idxT, valOpt_some, v_isN, v_isNN, n_none, n_bool, n_int, n_str, n_list, n_tuple, v_slL, List.set_cons_zero, List.set_cons_succ, at0, at1, at2, at3, ix0, ix1, ix2, List.length_cons, List.length_nil, is_int_none, is_int_bool, is_int_int, is_int_str, is_int_list, is_int_tuple, is_str_none, is_str_bool, is_str_int, is_str_str, is_str_list, is_str_tuple, is_bool_none, is_bool_bool, is_bool_int, is_bool_str, is_bool_list, is_bool_tuple, is_tuple_none, is_tuple_bool, is_tuple_int, is_tuple_str, is_tuple_list, is_tuple_tuple, is_list_none, is_list_bool, is_list_int, is_list_str, is_list_list, is_list_tuple, iss_tuple_list_none, iss_tuple_list_bool, iss_tuple_list_int, iss_tuple_list_str, iss_tuple_list_list, iss_tuple_list_tuple, iss_list_tuple_none, iss_list_tuple_bool, iss_list_tuple_int, iss_list_tuple_str, iss_list_tuple_list, iss_list_tuple_tuple, iss_int_str_none, iss_int_str_bool, iss_int_str_int, iss_int_str_str, iss_int_str_list, iss_int_str_tuple, iss_str_int_none, iss_str_int_bool, iss_str_int_int, iss_str_int_str, iss_str_int_list, iss_str_int_tuple, beq_self_eq_true, v_inF, v_inT, ch1_le, ch1_lt, ch2_t, ch2_f, ch3_le, ch3_lt, argD_nil, argD_now, argD_now0, argD_own0, asL_some, put_none, put_0, Nat.zero_add, Nat.reduceAdd, ↓reduceIte, e_raise, k_raise1, k_raise2, k_raise3, e_try, k_try_nx, k_try_ret, k_try_brk, k_try_ct, k_try_exc, k_hit_t, k_hit_f, wipe_nx, wipe_ret, wipe_brk, wipe_ct, lookup1, e_xf, xfOf_0, xfOf_1, e_isx, isxOf_tk, finM_some, k_M1, k_M2, e_M1, v_intI, v_intB, npSpelled, ownSpelled, npIsName, ownIsName, npIsKnown, ownIsKnown, npWriteName, ownWriteName, npWritePath, ownWritePath, npReadName, ownReadName, npReadPath, ownReadPath, npLawDeck, ownLawDeck, npLawDraw, ownLawDraw, npLawWord, ownLawWord, npLawSame, ownLawSame, npLawText, ownLawText, npLawOnly, ownLawOnly, npLawName, ownLawName, npLawPath, ownLawPath, npLawWritten, ownLawWritten, npLawBent, ownLawBent, npLawReadName, ownLawReadName, npLawReadPath, ownLawReadPath, npLawTried, ownLawTried, npLawBase, ownLawBase, npLaw, ownLaw, Bool.not_true, Bool.not_false, decide_true, decide_false])
theorem bad_read : (("BadText" : Str) == ("read" : Str)) = false := by decide +kernel
theorem read_read : (("read" : Str) == ("read" : Str)) = true := by decide +kernel
theorem LR_cases {z : Str} {l p : Int} : (∃ x, LR z l p = .tuple [.str "read", x] ∧ Sz x 1 ∧ fWriteName.run [x] = .ok (.sh (.str z), [])) ∨ LR z l p = .tuple [.str "BadText", .int l, .int p] := by
  unfold LR
  cases hk : isN LD (.str z) with
  | true => rw [if_pos rfl]; exact .inl ⟨_, rfl, .str _, writeName_str⟩
  | false =>
    rw [if_neg (by decide)]
    cases hn : numOf z.cps.toList with
    | none => exact .inr rfl
    | some n =>
      obtain ⟨n0, n1, e⟩ := num_word hn
      refine .inl ⟨_, rfl, .int _, ?_⟩
      rw [writeName_int n0 (by omega), e]
theorem sz_strs : ∀ l : List Str, SzAll (l.map PyData.str) l.length
  | [] => .nil
  | z :: l => by
    have := SzAll.cons (.str z) (sz_strs l)
    rw [Nat.add_comm] at this
    exact this
theorem LL_ok {q : Str} (h : isN LL (.str q) = true) : PyData.strOk q = true := by
  have h : (decide ((1 : Int) ≤ q.length) && decide ((q.length : Int) ≤ 8) && q.cps.toList.all fun c => decide (c ∈ LL.cps.toList)) = true := h
  rw [Bool.and_eq_true] at h
  refine Lets.ok fun c hc => ?_
  have := List.all_eq_true.1 h.2 c hc
  exact of_decide_eq_true this
theorem parts_ne (z : Str) : parts z ≠ [] := by
  unfold parts Spl.pieces
  simp
theorem LP_cases {z : Str} {l p : Int} (hz : z.length ≤ 900) : (∃ x n, LP z l p = .tuple [.str "read", x] ∧ Sz x n ∧ n ≤ 1000 ∧ fWritePath.run [x] = .ok (.sh (.str z), [])) ∨ LP z l p = .tuple [.str "BadText", .int l, .int p] := by
  unfold LP
  cases h0 : (z == ("." : Str)) with
  | true =>
    rw [if_pos rfl]
    have : z = "." := by simpa using h0
    refine .inl ⟨_, 1, rfl, .tup .nil, by decide, ?_⟩
    rw [this]
    exact writePath_run (l := []) (by decide) (fun z hz => nomatch hz)
  | false =>
    rw [if_neg (by decide)]
    cases hp : pOk z with
    | false => exact .inr rfl
    | true =>
      rw [if_pos rfl]
      have hl := Spl.pieces_len 46 z
      have hn := parts_num (z := z)
      refine .inl ⟨_, (parts z).length + 1, rfl, .tup (sz_strs _), by omega, ?_⟩
      rw [writePath_run (by unfold tot; show ((Spl.pieces 46 z).map (·.length)).sum + (Spl.pieces 46 z).length ≤ 1000; omega) (fun q hq => LL_ok (List.all_eq_true.1 hp q hq))]
      unfold wp
      rw [if_neg (by rw [List.isEmpty_iff]; exact parts_ne z), dot_mk]
      show Out.ok (Slot.sh (.str (Txt.join ⟨#[46]⟩ (Spl.pieces 46 z))), []) = _
      rw [Spl.join_pieces]
theorem two_sz {z : Str} {l p : Int} (hz : z.length ≤ 900) : ∃ n, Sz (.list [LR z l p, LP z l p]) n ∧ n < 200000 := by
  have h1 : ∃ n, Sz (LR z l p) n ∧ n ≤ 10 := by
    rcases LR_cases (z := z) (l := l) (p := p) with ⟨x, e, hx, _⟩ | e
    · rw [e]; exact ⟨_, .tup (.cons (.str _) (.cons hx .nil)), by decide⟩
    · rw [e]; exact ⟨_, .tup (.cons (.str _) (.cons (.int _) (.cons (.int _) .nil))), by decide⟩
  have h2 : ∃ n, Sz (LP z l p) n ∧ n ≤ 2000 := by
    rcases LP_cases (l := l) (p := p) hz with ⟨x, n, e, hx, hn, _⟩ | e
    · rw [e]; exact ⟨_, .tup (.cons (.str _) (.cons hx .nil)), by omega⟩
    · rw [e]; exact ⟨_, .tup (.cons (.str _) (.cons (.int _) (.cons (.int _) .nil))), by decide⟩
  obtain ⟨n, s1, b1⟩ := h1
  obtain ⟨m, s2, b2⟩ := h2
  exact ⟨_, .lst (.cons s1 (.cons s2 .nil)), by omega⟩
theorem str_sz (z : Str) : Sz (.str z) 1 := .str z
theorem turn2 {z : Str} {l p : Int} (hz : z.length ≤ 900) (S0 Dk W X5 X6 X7 X8 X9 : Option Slot) : ∃ x8, dLawB2 [S0, Dk, some (.sh (.int l)), some (.sh (.int p)), W, X5, X6, X7, X8, X9, some (.sh (.str z)), none] = .nx [S0, Dk, some (.sh (.int l)), some (.sh (.int p)), W, X5, X6, X7, x8, X9, some (.sh (.str z)), none] := by
  unfold dLawB2
  walk_at "den"
  rw [tried_name hz]
  walk_at "den"
  rw [tried_path hz]
  walk_at "den"
  rw [lawReadName_run (by omega)]
  walk_at "den"
  rw [lawReadPath_run hz]
  walk_at "den"
  obtain ⟨n, hs, hn⟩ := two_sz (l := l) (p := p) hz
  rw [same_it hs hn]
  walk_at "den"
  rcases LR_cases (z := z) (l := l) (p := p) with ⟨x, e, hx, hr⟩ | e
  · rw [e]
    walk_at "den"
    rw [hr]
    walk_at "den"
    rw [same_it (str_sz z) (by decide)]
    walk_at "den"
    rcases LP_cases (l := l) (p := p) hz with ⟨x2, n2, e2, hx2, hn2, hr2⟩ | e2
    · rw [e2]
      walk_at "den"
      rw [hr2]
      walk_at "den"
      rw [same_it (str_sz z) (by decide)]
      walk_at "den"
      exact ⟨_, rfl⟩
    · rw [e2]
      walk_at "den"
      rw [bad_read]
      walk_at "den"
      exact ⟨_, rfl⟩
  · rw [e]
    walk_at "den"
    rw [bad_read]
    walk_at "den"
    rcases LP_cases (l := l) (p := p) hz with ⟨x2, n2, e2, hx2, hn2, hr2⟩ | e2
    · rw [e2]
      walk_at "den"
      rw [hr2]
      walk_at "den"
      rw [same_it (str_sz z) (by decide)]
      walk_at "den"
      exact ⟨_, rfl⟩
    · rw [e2]
      walk_at "den"
      rw [bad_read]
      walk_at "den"
      exact ⟨_, rfl⟩
end K04

namespace K04
open PySem PySem.Spec L2 Den Com
local macro_rules | `(tactic| walk_at "den") => `(tactic| simp only [bind_ok, bind_exc, rbind_nx, rbind_ret, rbind_brk, rbind_ct, rbind_exc, ofOut_ok, ofOut_exc, chT_t, chT_f, chV_t, chV_f, chR_t, chR_f, e_okT, e_okV, k_dat, k_val, k_now, k_bin1, k_bin2, k_andT, k_orT, k_notT, k_and, k_or, k_not, k_ite, k_ch1, k_ch2, k_ch3, k_l1, k_l2, k_tup, k_lst, k_o1, k_o2, k_CB, k_call, k_s1, k_s2, k_s3, k_isi, k_isiT, k_neg, k_expr, k_if, k_asg, k_asgT, k_for, k_app, appStart_some, k_set1, k_set2, setStart_some, k_seqI, k_rng, k_enum, k_rev, k_lc1, k_lc2, e_dat, e_val, e_now, e_C, look_cons_zero, look_cons_succ, e_loc, locOf_some, e_var, varOf_sh, varOf_ow, e_mov, movOf_sh, movOf_ow, res_now, res_slot, Option.map_some, data_sh, data_ow, slotD_sh, slotD_ow, fin2_some, e_bin, e_idx, rvOut_some, slot_val, slot_newT, slot_newL, e_tst, tstOf_b, e_andT, e_orT, e_notT, e_and, e_or, e_not, e_ite, e_chain, e_dList_nil, e_dList_cons, e_tup, e_lst, e_oNil, e_oCons, finC_some, e_CB, cons2_some, resAll_nil, resAll_cons, e_call, callOf_some, callBack_ok, e_ptNone, e_ptSome, ptOf_int, slOf_some, e_sl, isiOf_some, e_isi, e_isiT, e_neg, negOf_int, e_seq, e_skip, e_ret, e_retN, e_brk, e_ct, e_expr, e_if, e_asg, nxO_some, e_asgT, e_sName, e_sTup, e_sCons, e_sNil, Option.bind_some, e_for, owOf_ow, e_app, e_pop, popOf_app, e_set, setOf_int, setOf2_some, e_seqI, itOf_some, items_list, items_tuple, items_str, e_range1, e_enum, enumOf_list, e_rev, e_true, e_lc, e_wipe_nil, e_wipe_cons, e_back_nil, e_back_cons, back1_none, back1_sh, v_addI, v_subI, v_ltI, v_leI, v_gtI, v_geI, v_eqI, v_eqS, v_neI, v_neS, v_neB, v_int, v_lenL, v_lenT, v_idxL, v_idxT, valOpt_some, v_isN, v_isNN, n_none, n_bool, n_int, n_str, n_list, n_tuple, v_slL, List.set_cons_zero, List.set_cons_succ, at0, at1, at2, at3, ix0, ix1, ix2, List.length_cons, List.length_nil, is_int_none, is_int_bool, is_int_int, is_int_str, is_int_list, is_int_tuple, is_str_none, is_str_bool, is_str_int, is_str_str, is_str_list, is_str_tuple, is_bool_none, is_bool_bool, is_bool_int, is_bool_str, is_bool_list, is_bool_tuple, is_tuple_none, is_tuple_bool, is_tuple_int, is_tuple_str, is_tuple_list, is_tuple_tuple, is_list_none, is_list_bool, is_list_int, is_list_str, is_list_list, is_list_tuple, iss_tuple_list_none, iss_tuple_list_bool, iss_tuple_list_int, iss_tuple_list_str, iss_tuple_list_list, iss_tuple_list_tuple, iss_list_tuple_none, iss_list_tuple_bool, iss_list_tuple_int, iss_list_tuple_str, iss_list_tuple_list, iss_list_tuple_tuple, iss_int_str_none, iss_int_str_bool, iss_int_str_int, iss_int_str_str, iss_int_str_list, iss_int_str_tuple, iss_str_int_none, iss_str_int_bool, iss_str_int_int, iss_str_int_str, iss_str_int_list, iss_str_int_tuple, beq_self_eq_true, v_inF, v_inT, ch1_le, ch1_lt, ch2_t, ch2_f, ch3_le, ch3_lt, argD_nil, argD_now, argD_now0, argD_own0, asL_some, put_none, put_0, Nat.zero_add, Nat.reduceAdd, ↓reduceIte, e_raise, k_raise1, k_raise2, k_raise3, e_try, k_try_nx, k_try_ret, k_try_brk, k_try_ct, k_try_exc, k_hit_t, k_hit_f, wipe_nx, wipe_ret, wipe_brk, wipe_ct, lookup1, e_xf, xfOf_0, xfOf_1, e_isx, isxOf_tk, finM_some, k_M1, k_M2, e_M1, v_intI, v_intB, npSpelled, ownSpelled, npIsName, ownIsName, npIsKnown, ownIsKnown, npWriteName, ownWriteName, npWritePath, ownWritePath, npReadName, ownReadName, npReadPath, ownReadPath, npLawDeck, ownLawDeck, npLawDraw, ownLawDraw, npLawWord, ownLawWord, npLawSame, ownLawSame, npLawText, ownLawText, npLawOnly, ownLawOnly, npLawName, ownLawName, npLawPath, ownLawPath, npLawWritten, ownLawWritten, npLawBent, ownLawBent, npLawReadName, ownLawReadName, npLawReadPath, ownLawReadPath, npLawTried, ownLawTried, npLawBase, ownLawBase, npLaw, ownLaw, Bool.not_true, Bool.not_false, decide_true, decide_false])
theorem nameText {x : D} (h : (∃ i : Int, x = .int i ∧ 0 ≤ i ∧ i < 10000) ∨ ∃ z : Str, x = .str z ∧ z.length ≤ 8) : ∃ w : Str, fWriteName.run [x] = .ok (.sh (.str w), []) ∧ fLawWritten.run [x] = .ok (.sh (.str w), []) ∧ w.length ≤ 12 := by
  rcases h with ⟨i, rfl, h0, h1⟩ | ⟨z, rfl, hz⟩
  · refine ⟨_, writeName_int h0 (by omega), written_int h0 (by omega), ?_⟩
    have := PySem.W.KT.len_num h0 (show i < 10 ^ 10 by omega)
    rw [str_len_app]
    show 1 + _ ≤ _
    omega
  · exact ⟨z, writeName_str, written_str, by omega⟩
theorem join_len (sep : Str) (l : List Str) : (Txt.join sep l).length ≤ (l.map (·.length)).sum + l.length * sep.length := by
  have := StrLaws.join_length_le sep l
  rw [← StrLaws.glued_eq_join] at this
  exact this
theorem sum_le : ∀ {l : List Str} {B : Nat}, (∀ z ∈ l, z.length ≤ B) → (l.map (·.length)).sum ≤ l.length * B
  | [], B, _ => by simp
  | z :: l, B, h => by
    have := sum_le fun y hy => h y (List.mem_cons_of_mem _ hy)
    have hz := h z (List.mem_cons_self ..)
    rw [List.map_cons, List.sum_cons, List.length_cons, Nat.succ_mul]
    omega
theorem pathText {ws : List Str} (h3 : ws.length ≤ 3) (h : ∀ z ∈ ws, 1 ≤ z.length ∧ z.length ≤ 8 ∧ Lets z) : fWritePath.run [.tuple (ws.map .str)] = .ok (.sh (.str (wp ws)), []) ∧ fLawWritten.run [.tuple (ws.map .str)] = .ok (.sh (.str (wp ws)), []) ∧ (wp ws).length ≤ 40 := by
  have hs := sum_le (l := ws) (B := 8) fun z hz => (h z hz).2.1
  have ht : tot ws ≤ 30 := by unfold tot; omega
  refine ⟨writePath_run (by omega) fun z hz => (h z hz).2.2.ok, written_tup (fun z hz => (h z hz).1) (by omega), ?_⟩
  unfold wp
  split
  · decide
  · have := join_len "." ws
    have h1 : ("." : Str).length = 1 := by decide
    rw [h1] at this
    omega
def Words (ws : List Str) : Prop := ∀ z ∈ ws, z.length ≤ 900
theorem turn1 {l0 : List D} {ws : List Str} (d0 : Deck l0) (hw : Words ws) (hn : ws.length ≤ 1000) (S0 X2 X3 X5 X6 X7 X8 X9 : Option Slot) : ∃ (l1 : List D) (ws' : List Str) (x6 x7 x8 x9 : Option Slot), dLawB1 [S0, some (.ow l0), X2, X3, some (.ow (ws.map .str)), X5, X6, X7, X8, X9, none, none] = .nx [S0, some (.ow l1), X2, X3, some (.ow (ws'.map .str)), X5, x6, x7, x8, x9, none, none] ∧ Deck l1 ∧ Words ws' ∧ ws'.length = ws.length + 6 := by
  unfold dLawB1
  walk_at "den"
  obtain ⟨x, l1, e1, hx, d1⟩ := name_run d0
  rw [e1]
  walk_at "den"
  obtain ⟨ps, l2, e2, p3, pw, d2⟩ := path_run d1
  rw [e2]
  walk_at "den"
  obtain ⟨w, a1, a2, a3⟩ := nameText hx
  obtain ⟨b1, b2, b3⟩ := pathText p3 pw
  rw [a1]
  walk_at "den"
  rw [b1]
  walk_at "den"
  rw [a2]
  walk_at "den"
  rw [b2]
  walk_at "den"
  rw [same_it (n := 3) (.lst (.cons (.str _) (.cons (.str _) .nil))) (by decide)]
  walk_at "den"
  rw [v_addL (by simp; omega)]
  walk_at "den"
  obtain ⟨z1, l3, f1, g1, d3⟩ := bent_run (w := w) d2 (by omega)
  rw [f1]
  walk_at "den"
  obtain ⟨z2, l4, f2, g2, d4⟩ := bent_run (w := wp ps) d3 (by omega)
  rw [f2]
  walk_at "den"
  obtain ⟨z3, l5, f3, g3, d5⟩ := text_run d4
  rw [f3]
  walk_at "den"
  rw [v_addL (by simp; omega)]
  walk_at "den"
  obtain ⟨k, l6, f4, k0, k1, d6⟩ := draw_it d5 (m := 7) (by decide)
  rw [f4]
  walk_at "den"
  rw [rng1_int ⟨by omega, by omega⟩]
  walk_at "den"
  rw [lcGo_eq (by rw [intsD_len]; omega)]
  walk_at "den"
  generalize hY6 : (some (Slot.sh x) : Option Slot) = Y6
  generalize hY7 : (some (Slot.sh (PyData.tuple (List.map PyData.str ps))) : Option Slot) = Y7
  generalize hY8 : (some (Slot.sh (PyData.list [PyData.str w, PyData.str (wp ps)])) : Option Slot) = Y8
  have hws : List.map PyData.str ws ++ [PyData.str w, PyData.str (wp ps)] ++ [PyData.str z1, PyData.str z2, PyData.str z3] = (ws ++ [w, wp ps, z1, z2, z3]).map PyData.str := by
    rw [List.map_append, List.append_assoc]
    rfl
  rw [hws]
  generalize hW : (some (Slot.ow ((ws ++ [w, wp ps, z1, z2, z3]).map PyData.str)) : Option Slot) = W4
  obtain ⟨ys, ρ, eL, ds, h1, h2, h3, l7, d7, hρ⟩ := lc_inv (own := [11]) (st := sName 11) (f := dLawE1) (l := intsD 0 k.toNat) (done := []) (made := []) (fun done made ρ => ∃ ds : List Str, made = ds.map .str ∧ ds.length = done.length ∧ (∀ z ∈ ds, z.length ≤ 1) ∧ ∃ l', Deck l' ∧ ρ = [S0, some (.ow l'), X2, X3, W4, X5, Y6, Y7, Y8, X9, none, none])
    (ρ := [S0, some (.ow l6), X2, X3, W4, X5, Y6, Y7, Y8, X9, none, none]) ⟨[], rfl, rfl, fun z hz => (nomatch hz), l6, d6, rfl⟩ (by
      rintro done' made' d rest ρ - ⟨ds, rfl, hl, hm, l', dl, rfl⟩
      obtain ⟨n, l2, e, n0, n1, d2⟩ := draw_it dl (m := 10) (by decide)
      obtain ⟨c, hc, ec⟩ := v_idxS (z := "0123456789") (n := n) (by decide) n0 (by rw [show ("0123456789" : Str).length = 10 by decide]; omega)
      refine ⟨_, .str ⟨#[c]⟩, [S0, some (.ow l2), X2, X3, W4, X5, Y6, Y7, Y8, X9, none, some (.sh d)], rfl, ?_, ds ++ [⟨#[c]⟩], by rw [List.map_append]; rfl, by rw [List.length_append, List.length_append, hl]; rfl, ?_, l2, d2, rfl⟩
      · show dLawE1 [S0, some (.ow l'), X2, X3, W4, X5, Y6, Y7, Y8, X9, none, some (.sh d)] = _
        unfold dLawE1
        walk_at "den"
        rw [e]
        walk_at "den"
        rw [ec]
        walk_at "den"
      · intro x hx
        rcases List.mem_append.1 hx with hx | hx
        · exact hm x hx
        · rw [List.mem_singleton] at hx
          rw [hx]; exact Nat.le_refl 1)
  rw [List.nil_append] at h1 h2
  rw [intsD_len] at h2
  subst h1
  subst hρ
  rw [eL]
  walk_at "den"
  have hsum := sum_le (l := ds) (B := 1) h3
  have hj := join_len "" ds
  have he : ("" : Str).length = 0 := by decide
  rw [he] at hj
  rw [v_joinL (by rw [he]; omega)]
  walk_at "den"
  subst hW
  walk_at "den"
  rw [v_addS (by show 1 + _ ≤ _; omega)]
  walk_at "den"
  rw [appOf_some (by simp; omega)]
  walk_at "den"
  refine ⟨l7, (ws ++ [w, wp ps, z1, z2, z3]) ++ ["#" ++ Txt.join "" ds], Y6, Y7, Y8, some (.sh (.str (Txt.join "" ds))), ?_, d7, ?_, by simp⟩
  · rw [List.map_append (l₁ := ws ++ [w, wp ps, z1, z2, z3])]
    rfl
  · intro z hz
    rcases List.mem_append.1 hz with hz | hz
    · rcases List.mem_append.1 hz with hz | hz
      · exact hw z hz
      · simp only [List.mem_cons, List.not_mem_nil, or_false] at hz
        rcases hz with rfl | rfl | rfl | rfl | rfl <;> omega
    · rw [List.mem_singleton] at hz
      rw [hz, str_len_app]
      show 1 + _ ≤ _
      omega

theorem law_key (ns : List Int) (h : ns.length ≤ 63) : ∃ ρ, dLaw [some (.sh (.list (ns.map .int))), none, none, none, none, none, none, none, none, none, none, none] = .ret (.sh (.bool true)) ρ := by
  obtain ⟨l0, e0, d0⟩ := deck_it ns h
  unfold dLaw
  walk_at "den"
  rw [e0]
  walk_at "den"
  obtain ⟨n1, l1, e1, a1, b1, d1⟩ := draw_it d0 (m := 5) (by decide)
  rw [e1]
  walk_at "den"
  rw [v_pow (by decide)]
  walk_at "den"
  obtain ⟨n2, l2, e2, a2, b2, d2⟩ := draw_it d1 (m := 10 ^ Int.toNat 4) (by decide)
  rw [e2]
  walk_at "den"
  rw [v_pow (by decide)]
  walk_at "den"
  rw [v_mul (.inr (by decide))]
  walk_at "den"
  obtain ⟨n3, l3, e3, a3, b3, d3⟩ := draw_it d2 (m := 2) (by decide)
  rw [e3]
  walk_at "den"
  obtain ⟨x, hx, ex⟩ := at_pick (l := [PyData.int n1, .int (n2 * 10 ^ Int.toNat 8 + 7)]) a3 (by simpa using b3)
  have hx1 : ∃ j : Int, x = .int j := by
    simp only [List.mem_cons, List.not_mem_nil, or_false] at hx
    rcases hx with rfl | rfl <;> exact ⟨_, rfl⟩
  obtain ⟨line, rfl⟩ := hx1
  rw [ex]
  walk_at "den"
  obtain ⟨place, l4, e4, a4, b4, d4⟩ := draw_it d3 (m := 9) (by decide)
  rw [e4]
  walk_at "den"
  rw [rng1_int (by decide)]
  walk_at "den"
  have w0 : [PyData.str "", PyData.str ".", PyData.str "..", PyData.str "#", PyData.str "#0", PyData.str "#00", PyData.str "#9999", PyData.str "#10000", PyData.str "a.", PyData.str ".a", PyData.str "a..b", PyData.str "0", PyData.str "07", PyData.str "abcdefghi"] = (["", ".", "..", "#", "#0", "#00", "#9999", "#10000", "a.", ".a", "a..b", "0", "07", "abcdefghi"] : List Str).map .str := rfl
  rw [w0]
  have w1 : Words (["", ".", "..", "#", "#0", "#00", "#9999", "#10000", "a.", ".a", "a..b", "0", "07", "abcdefghi"] : List Str) := by unfold Words; decide
  have w2 : (["", ".", "..", "#", "#0", "#00", "#9999", "#10000", "a.", ".a", "a..b", "0", "07", "abcdefghi"] : List Str).length = 14 := rfl
  generalize (["", ".", "..", "#", "#0", "#00", "#9999", "#10000", "a.", ".a", "a..b", "0", "07", "abcdefghi"] : List Str) = ws0 at w1 w2 ⊢
  generalize (some (Slot.sh (PyData.list (ns.map PyData.int))) : Option Slot) = S0
  obtain ⟨ρ1, f1, l5, ws, x5, x6, x7, x8, x9, rfl, d5, hw, hn⟩ := loop_inv (st := sName 5) (body := dLawB1) (l := intsD 0 (Int.toNat 4)) (done := []) (fun done ρ => ∃ (l : List D) (ws : List Str) (x5 x6 x7 x8 x9 : Option Slot), ρ = [S0, some (.ow l), some (.sh (.int line)), some (.sh (.int place)), some (.ow (ws.map .str)), x5, x6, x7, x8, x9, none, none] ∧ Deck l ∧ Words ws ∧ ws.length = 14 + 6 * done.length)
    (ρ := [S0, some (.ow l4), some (.sh (.int line)), some (.sh (.int place)), some (.ow (ws0.map .str)), none, none, none, none, none, none, none]) ⟨l4, ws0, none, none, none, none, none, rfl, d4, w1, w2⟩ (by
      rintro done' d rest ρ hd ⟨l, ws, x5, x6, x7, x8, x9, rfl, dl, hw, hn⟩
      have hlen : done'.length < 4 := by
        have := congrArg List.length hd
        rw [List.nil_append, intsD_len] at this
        simp only [List.length_append, List.length_cons] at this
        have h4 : Int.toNat 4 = 4 := rfl
        omega
      obtain ⟨l', ws', y6, y7, y8, y9, e, d', hw', hn'⟩ := turn1 dl hw (by omega) S0 (some (.sh (.int line))) (some (.sh (.int place))) (some (.sh d)) x6 x7 x8 x9
      refine ⟨_, one_nx (i := 5) (ρ := [S0, some (.ow l), some (.sh (.int line)), some (.sh (.int place)), some (.ow (ws.map .str)), x5, x6, x7, x8, x9, none, none]) e, l', ws', some (.sh d), y6, y7, y8, y9, rfl, d', hw', by rw [hn', hn, List.length_append, List.length_singleton]; omega⟩)
  rw [f1]
  walk_at "den"
  have two : ∀ (zs : List Str), Words zs → ∀ x8 x10 : Option Slot, ∃ y8 y10, loopE (sName 10) dLawB2 (zs.map .str) [S0, some (.ow l5), some (.sh (.int line)), some (.sh (.int place)), some (.sh (.list (ws.map .str))), x5, x6, x7, x8, x9, x10, none] = .nx [S0, some (.ow l5), some (.sh (.int line)), some (.sh (.int place)), some (.sh (.list (ws.map .str))), x5, x6, x7, y8, x9, y10, none] := by
    intro zs
    induction zs with
    | nil => exact fun _ x8 x10 => ⟨x8, x10, rfl⟩
    | cons z zs ih =>
      intro hz x8 x10
      obtain ⟨y8, e⟩ := turn2 (l := line) (p := place) (hz z (List.mem_cons_self ..)) S0 (some (.ow l5)) (some (.sh (.list (ws.map .str)))) x5 x6 x7 x8 x9
      obtain ⟨u8, u10, e'⟩ := ih (fun q hq => hz q (List.mem_cons_of_mem _ hq)) y8 (some (.sh (.str z)))
      refine ⟨u8, u10, ?_⟩
      have one : Den.one (sName 10) dLawB2 (.str z) [S0, some (.ow l5), some (.sh (.int line)), some (.sh (.int place)), some (.sh (.list (ws.map .str))), x5, x6, x7, x8, x9, x10, none] = .nx [S0, some (.ow l5), some (.sh (.int line)), some (.sh (.int place)), some (.sh (.list (ws.map .str))), x5, x6, x7, y8, x9, some (.sh (.str z)), none] := one_nx (i := 10) (ρ := [S0, some (.ow l5), some (.sh (.int line)), some (.sh (.int place)), some (.sh (.list (ws.map .str))), x5, x6, x7, x8, x9, x10, none]) e
      rw [List.map_cons, loopE_nx one]
      exact e'
  obtain ⟨y8, y10, e9⟩ := two ws hw x8 none
  rw [e9]
  walk_at "den"
  rw [base_A]
  walk_at "den"
  rw [base_0]
  walk_at "den"
  exact ⟨_, rfl⟩
theorem law_true (ns : List Int) (h : ns.length ≤ 63) : fLaw.run [.list (ns.map .int)] = .ok (.sh (.bool true), []) := by
  obtain ⟨ρ, e⟩ := law_key ns h
  exact run_ret (own := none) (n := 12) (f := dLaw) (ds := [.list (ns.map .int)]) e
end K04

namespace K04
open PySem PySem.Spec L2 Den
/-! ### what the top has written -/
def spLaw (K : PySem.W.Frag) : Sp := fun vs H Q _ => ∃ (a : Addr) (ns : List Int), vs = [.ref a] ∧ SqL K H a (ns.map V.int) ∧ ns.length ≤ 63 ∧ ∀ H', Q (.bl true) H'
theorem noCX {P : Program} (w : World) (H : Hp) (s : Shared) (e : Value) (s' : Shared) (h : L2.CX P w [] H s (fun _ _ _ => False) e s') : False := by
  obtain ⟨_, _, _, _, _, _, _, _, _, _, _, _, z⟩ := h
  exact z
theorem dpAll_ints {K : PySem.W.Frag} {H : Hp} : ∀ ns : List Int, DpAll K H (ns.map V.int) (ns.map PyData.int)
  | [] => .nil
  | n :: ns => .cons (.int n) (dpAll_ints ns)
theorem all_mk {l : PySem.W.OpenLaw} {w : World} {K : PySem.W.Frag} {h : Heap} {mg : Str → Option Value} {fa : Addr} (X : K.In h) (G : h.Ns mainGlobals mg) (hfa : mg "law" = some (.ref fa))
    {f0 : Addr} {od0 an0 : Option Addr} {sl0 : Array (Option Value)} {oc0 kV0 dc0 pm0 cd0 ct0 : Value}
    {f1 : Addr} {od1 an1 : Option Addr} {sl1 : Array (Option Value)} {oc1 kV1 dc1 pm1 cd1 ct1 : Value}
    {f2 : Addr} {od2 an2 : Option Addr} {sl2 : Array (Option Value)} {oc2 kV2 dc2 pm2 cd2 ct2 : Value}
    {f3 : Addr} {od3 an3 : Option Addr} {sl3 : Array (Option Value)} {oc3 kV3 dc3 pm3 cd3 ct3 : Value}
    {f4 : Addr} {od4 an4 : Option Addr} {sl4 : Array (Option Value)} {oc4 kV4 dc4 pm4 cd4 ct4 : Value}
    {f5 : Addr} {od5 an5 : Option Addr} {sl5 : Array (Option Value)} {oc5 kV5 dc5 pm5 cd5 ct5 : Value}
    {f6 : Addr} {od6 an6 : Option Addr} {sl6 : Array (Option Value)} {oc6 kV6 dc6 pm6 cd6 ct6 : Value}
    {f7 : Addr} {od7 an7 : Option Addr} {sl7 : Array (Option Value)} {oc7 kV7 dc7 pm7 cd7 ct7 : Value}
    {f8 : Addr} {od8 an8 : Option Addr} {sl8 : Array (Option Value)} {oc8 kV8 dc8 pm8 cd8 ct8 : Value}
    {f9 : Addr} {od9 an9 : Option Addr} {sl9 : Array (Option Value)} {oc9 kV9 dc9 pm9 cd9 ct9 : Value}
    {f10 : Addr} {od10 an10 : Option Addr} {sl10 : Array (Option Value)} {oc10 kV10 dc10 pm10 cd10 ct10 : Value}
    {f11 : Addr} {od11 an11 : Option Addr} {sl11 : Array (Option Value)} {oc11 kV11 dc11 pm11 cd11 ct11 : Value}
    {f12 : Addr} {od12 an12 : Option Addr} {sl12 : Array (Option Value)} {oc12 kV12 dc12 pm12 cd12 ct12 : Value}
    {f13 : Addr} {od13 an13 : Option Addr} {sl13 : Array (Option Value)} {oc13 kV13 dc13 pm13 cd13 ct13 : Value}
    {f14 : Addr} {od14 an14 : Option Addr} {sl14 : Array (Option Value)} {oc14 kV14 dc14 pm14 cd14 ct14 : Value}
    {f15 : Addr} {od15 an15 : Option Addr} {sl15 : Array (Option Value)} {oc15 kV15 dc15 pm15 cd15 ct15 : Value}
    {f16 : Addr} {od16 an16 : Option Addr} {sl16 : Array (Option Value)} {oc16 kV16 dc16 pm16 cd16 ct16 : Value}
    {f17 : Addr} {od17 an17 : Option Addr} {sl17 : Array (Option Value)} {oc17 kV17 dc17 pm17 cd17 ct17 : Value}
    {f18 : Addr} {od18 an18 : Option Addr} {sl18 : Array (Option Value)} {oc18 kV18 dc18 pm18 cd18 ct18 : Value}
    {f19 : Addr} {od19 an19 : Option Addr} {sl19 : Array (Option Value)} {oc19 kV19 dc19 pm19 cd19 ct19 : Value}
    {f20 : Addr} {od20 an20 : Option Addr} {sl20 : Array (Option Value)} {oc20 kV20 dc20 pm20 cd20 ct20 : Value}
    {f21 : Addr} {od21 an21 : Option Addr} {sl21 : Array (Option Value)} {oc21 kV21 dc21 pm21 cd21 ct21 : Value}
    {t0 : Tok}
    {t1 : Tok}
    {t2 : Tok}
    {C0 : Addr}
    {C1 : Addr}
    {xf0 : Addr} {xod0 xan0 : Option Addr} {xsl0 : Array (Option Value)} {xoc0 xkV0 xdc0 xpm0 xcd0 xct0 : Value}
    {un0 uq0 : Str} {uN0 : Addr} {ub0 um0 us0 : List Value} {ul0 : List Str} {ua0 : Bool} {uc0 : Option Bool} {ud0 : Option Addr} {k00x k10x k20x k30x k50x : Option Value}
    (a0 : PySem.W.nsIn K mainGlobals "spelled" = some (some (.ref f0))) (l0 : K.lookup f0 = some ⟨oc0, od0, .func (PySem.W.fnOf "spelled" "spelled" (defArgs sSpelled) (defBody sSpelled) (defScope sSpelled) .none kV0 dc0 pm0 an0 cd0 ct0), sl0⟩) (c0 : PySem.W.codeIn K cd0 "spelled" = true) (k0 : PySem.W.keepIn K (.ref f0) = true)
    (a1 : PySem.W.nsIn K mainGlobals "is_name" = some (some (.ref f1))) (l1 : K.lookup f1 = some ⟨oc1, od1, .func (PySem.W.fnOf "is_name" "is_name" (defArgs sIsName) (defBody sIsName) (defScope sIsName) .none kV1 dc1 pm1 an1 cd1 ct1), sl1⟩) (c1 : PySem.W.codeIn K cd1 "is_name" = true) (k1 : PySem.W.keepIn K (.ref f1) = true)
    (a2 : PySem.W.nsIn K mainGlobals "is_known" = some (some (.ref f2))) (l2 : K.lookup f2 = some ⟨oc2, od2, .func (PySem.W.fnOf "is_known" "is_known" (defArgs sIsKnown) (defBody sIsKnown) (defScope sIsKnown) .none kV2 dc2 pm2 an2 cd2 ct2), sl2⟩) (c2 : PySem.W.codeIn K cd2 "is_known" = true) (k2 : PySem.W.keepIn K (.ref f2) = true)
    (a3 : PySem.W.nsIn K mainGlobals "write_name" = some (some (.ref f3))) (l3 : K.lookup f3 = some ⟨oc3, od3, .func (PySem.W.fnOf "write_name" "write_name" (defArgs sWriteName) (defBody sWriteName) (defScope sWriteName) .none kV3 dc3 pm3 an3 cd3 ct3), sl3⟩) (c3 : PySem.W.codeIn K cd3 "write_name" = true) (k3 : PySem.W.keepIn K (.ref f3) = true)
    (a4 : PySem.W.nsIn K mainGlobals "write_path" = some (some (.ref f4))) (l4 : K.lookup f4 = some ⟨oc4, od4, .func (PySem.W.fnOf "write_path" "write_path" (defArgs sWritePath) (defBody sWritePath) (defScope sWritePath) .none kV4 dc4 pm4 an4 cd4 ct4), sl4⟩) (c4 : PySem.W.codeIn K cd4 "write_path" = true) (k4 : PySem.W.keepIn K (.ref f4) = true)
    (a5 : PySem.W.nsIn K mainGlobals "read_name" = some (some (.ref f5))) (l5 : K.lookup f5 = some ⟨oc5, od5, .func (PySem.W.fnOf "read_name" "read_name" (defArgs sReadName) (defBody sReadName) (defScope sReadName) .none kV5 dc5 pm5 an5 cd5 ct5), sl5⟩) (c5 : PySem.W.codeIn K cd5 "read_name" = true) (k5 : PySem.W.keepIn K (.ref f5) = true)
    (a6 : PySem.W.nsIn K mainGlobals "read_path" = some (some (.ref f6))) (l6 : K.lookup f6 = some ⟨oc6, od6, .func (PySem.W.fnOf "read_path" "read_path" (defArgs sReadPath) (defBody sReadPath) (defScope sReadPath) .none kV6 dc6 pm6 an6 cd6 ct6), sl6⟩) (c6 : PySem.W.codeIn K cd6 "read_path" = true) (k6 : PySem.W.keepIn K (.ref f6) = true)
    (a7 : PySem.W.nsIn K mainGlobals "_law_deck" = some (some (.ref f7))) (l7 : K.lookup f7 = some ⟨oc7, od7, .func (PySem.W.fnOf "_law_deck" "_law_deck" (defArgs sLawDeck) (defBody sLawDeck) (defScope sLawDeck) .none kV7 dc7 pm7 an7 cd7 ct7), sl7⟩) (c7 : PySem.W.codeIn K cd7 "_law_deck" = true) (k7 : PySem.W.keepIn K (.ref f7) = true)
    (a8 : PySem.W.nsIn K mainGlobals "_law_draw" = some (some (.ref f8))) (l8 : K.lookup f8 = some ⟨oc8, od8, .func (PySem.W.fnOf "_law_draw" "_law_draw" (defArgs sLawDraw) (defBody sLawDraw) (defScope sLawDraw) .none kV8 dc8 pm8 an8 cd8 ct8), sl8⟩) (c8 : PySem.W.codeIn K cd8 "_law_draw" = true) (k8 : PySem.W.keepIn K (.ref f8) = true)
    (a9 : PySem.W.nsIn K mainGlobals "_law_word" = some (some (.ref f9))) (l9 : K.lookup f9 = some ⟨oc9, od9, .func (PySem.W.fnOf "_law_word" "_law_word" (defArgs sLawWord) (defBody sLawWord) (defScope sLawWord) .none kV9 dc9 pm9 an9 cd9 ct9), sl9⟩) (c9 : PySem.W.codeIn K cd9 "_law_word" = true) (k9 : PySem.W.keepIn K (.ref f9) = true)
    (a10 : PySem.W.nsIn K mainGlobals "_law_same" = some (some (.ref f10))) (l10 : K.lookup f10 = some ⟨oc10, od10, .func (PySem.W.fnOf "_law_same" "_law_same" (defArgs sLawSame) (defBody sLawSame) (defScope sLawSame) .none kV10 dc10 pm10 an10 cd10 ct10), sl10⟩) (c10 : PySem.W.codeIn K cd10 "_law_same" = true) (k10 : PySem.W.keepIn K (.ref f10) = true)
    (a11 : PySem.W.nsIn K mainGlobals "_law_text" = some (some (.ref f11))) (l11 : K.lookup f11 = some ⟨oc11, od11, .func (PySem.W.fnOf "_law_text" "_law_text" (defArgs sLawText) (defBody sLawText) (defScope sLawText) .none kV11 dc11 pm11 an11 cd11 ct11), sl11⟩) (c11 : PySem.W.codeIn K cd11 "_law_text" = true) (k11 : PySem.W.keepIn K (.ref f11) = true)
    (a12 : PySem.W.nsIn K mainGlobals "_law_only" = some (some (.ref f12))) (l12 : K.lookup f12 = some ⟨oc12, od12, .func (PySem.W.fnOf "_law_only" "_law_only" (defArgs sLawOnly) (defBody sLawOnly) (defScope sLawOnly) .none kV12 dc12 pm12 an12 cd12 ct12), sl12⟩) (c12 : PySem.W.codeIn K cd12 "_law_only" = true) (k12 : PySem.W.keepIn K (.ref f12) = true)
    (a13 : PySem.W.nsIn K mainGlobals "_law_name" = some (some (.ref f13))) (l13 : K.lookup f13 = some ⟨oc13, od13, .func (PySem.W.fnOf "_law_name" "_law_name" (defArgs sLawName) (defBody sLawName) (defScope sLawName) .none kV13 dc13 pm13 an13 cd13 ct13), sl13⟩) (c13 : PySem.W.codeIn K cd13 "_law_name" = true) (k13 : PySem.W.keepIn K (.ref f13) = true)
    (a14 : PySem.W.nsIn K mainGlobals "_law_path" = some (some (.ref f14))) (l14 : K.lookup f14 = some ⟨oc14, od14, .func (PySem.W.fnOf "_law_path" "_law_path" (defArgs sLawPath) (defBody sLawPath) (defScope sLawPath) .none kV14 dc14 pm14 an14 cd14 ct14), sl14⟩) (c14 : PySem.W.codeIn K cd14 "_law_path" = true) (k14 : PySem.W.keepIn K (.ref f14) = true)
    (a15 : PySem.W.nsIn K mainGlobals "_law_written" = some (some (.ref f15))) (l15 : K.lookup f15 = some ⟨oc15, od15, .func (PySem.W.fnOf "_law_written" "_law_written" (defArgs sLawWritten) (defBody sLawWritten) (defScope sLawWritten) .none kV15 dc15 pm15 an15 cd15 ct15), sl15⟩) (c15 : PySem.W.codeIn K cd15 "_law_written" = true) (k15 : PySem.W.keepIn K (.ref f15) = true)
    (a16 : PySem.W.nsIn K mainGlobals "_law_bent" = some (some (.ref f16))) (l16 : K.lookup f16 = some ⟨oc16, od16, .func (PySem.W.fnOf "_law_bent" "_law_bent" (defArgs sLawBent) (defBody sLawBent) (defScope sLawBent) .none kV16 dc16 pm16 an16 cd16 ct16), sl16⟩) (c16 : PySem.W.codeIn K cd16 "_law_bent" = true) (k16 : PySem.W.keepIn K (.ref f16) = true)
    (a17 : PySem.W.nsIn K mainGlobals "_law_read_name" = some (some (.ref f17))) (l17 : K.lookup f17 = some ⟨oc17, od17, .func (PySem.W.fnOf "_law_read_name" "_law_read_name" (defArgs sLawReadName) (defBody sLawReadName) (defScope sLawReadName) .none kV17 dc17 pm17 an17 cd17 ct17), sl17⟩) (c17 : PySem.W.codeIn K cd17 "_law_read_name" = true) (k17 : PySem.W.keepIn K (.ref f17) = true)
    (a18 : PySem.W.nsIn K mainGlobals "_law_read_path" = some (some (.ref f18))) (l18 : K.lookup f18 = some ⟨oc18, od18, .func (PySem.W.fnOf "_law_read_path" "_law_read_path" (defArgs sLawReadPath) (defBody sLawReadPath) (defScope sLawReadPath) .none kV18 dc18 pm18 an18 cd18 ct18), sl18⟩) (c18 : PySem.W.codeIn K cd18 "_law_read_path" = true) (k18 : PySem.W.keepIn K (.ref f18) = true)
    (a19 : PySem.W.nsIn K mainGlobals "_law_tried" = some (some (.ref f19))) (l19 : K.lookup f19 = some ⟨oc19, od19, .func (PySem.W.fnOf "_law_tried" "_law_tried" (defArgs sLawTried) (defBody sLawTried) (defScope sLawTried) .none kV19 dc19 pm19 an19 cd19 ct19), sl19⟩) (c19 : PySem.W.codeIn K cd19 "_law_tried" = true) (k19 : PySem.W.keepIn K (.ref f19) = true)
    (a20 : PySem.W.nsIn K mainGlobals "_law_base" = some (some (.ref f20))) (l20 : K.lookup f20 = some ⟨oc20, od20, .func (PySem.W.fnOf "_law_base" "_law_base" (defArgs sLawBase) (defBody sLawBase) (defScope sLawBase) .none kV20 dc20 pm20 an20 cd20 ct20), sl20⟩) (c20 : PySem.W.codeIn K cd20 "_law_base" = true) (k20 : PySem.W.keepIn K (.ref f20) = true)
    (a21 : PySem.W.nsIn K mainGlobals "law" = some (some (.ref f21))) (l21 : K.lookup f21 = some ⟨oc21, od21, .func (PySem.W.fnOf "law" "law" (defArgs sLaw) (defBody sLaw) (defScope sLaw) .none kV21 dc21 pm21 an21 cd21 ct21), sl21⟩) (c21 : PySem.W.codeIn K cd21 "law" = true) (k21 : PySem.W.keepIn K (.ref f21) = true)
    (cc0 : PySem.W.nsIn K mainGlobals "DIGITS" = some (some (.str "0123456789" t0)))
    (cc1 : PySem.W.nsIn K mainGlobals "LETTERS" = some (some (.str "abcdefghijklmnopqrstuvwxyz" t1)))
    (cc2 : PySem.W.nsIn K mainGlobals "MOST_LETTERS" = some (some (.int 8 t2)))
    (z0 : PySem.W.nsIn K mainGlobals "all" = some none)
    (z1 : PySem.W.nsIn K mainGlobals "bool" = some none)
    (z2 : PySem.W.nsIn K mainGlobals "int" = some none)
    (z3 : PySem.W.nsIn K mainGlobals "isinstance" = some none)
    (z4 : PySem.W.nsIn K mainGlobals "len" = some none)
    (z5 : PySem.W.nsIn K mainGlobals "list" = some none)
    (z6 : PySem.W.nsIn K mainGlobals "range" = some none)
    (z7 : PySem.W.nsIn K mainGlobals "str" = some none)
    (z8 : PySem.W.nsIn K mainGlobals "tuple" = some none)
    (xa0 : PySem.W.nsIn K mainGlobals "BadText" = some (some (.ref C0)))
    (xa1 : PySem.W.nsIn K mainGlobals "FerryError" = some (some (.ref C1)))
    (xg0 : K.lookup C0 = some (excClassObj un0 uq0 C0 uN0 ub0 um0 true ul0 us0 ua0 uc0 ud0 k00x k10x k20x k30x k50x "ValueError.__new__"))
    (xg1 : PySem.HandSPX.refsVE um0 = true)
    (xg2 : PySem.W.findIn K (.ref C0) "__setattr__" = some (some (.builtin "object.__setattr__")))
    (xg3 : PySem.W.subIn K (.ref C0) (.type "BaseException") = some true)
    (xg4 : PySem.W.typeIn K (.ref C0) = some (.type "type"))
    (xg5 : PySem.W.keepIn K (.ref C0) = true)
    (xg6 : PySem.W.findIn K (.ref C0) "__init__" = some (some (.ref xf0)))
    (xg7 : PySem.W.typeIn K (.ref xf0) = some (.type "function"))
    (xg8 : PySem.W.findIn K (.ref C0) "__getattribute__" = some (some (.builtin "BaseException.__getattribute__")))
    (xg9 : PySem.W.findIn K (.ref C0) "__getattr__" = some none)
    (xg10 : PySem.W.hasDictIn K C0 = true)
    (xg11 : PySem.W.findIn K (.ref C0) "line" = some none)
    (xg12 : PySem.W.findIn K (.ref C0) "word" = some none)
    (xl0 : K.lookup xf0 = some ⟨xoc0, xod0, .func (PySem.W.fnOf "__init__" "BadText.__init__" (defArgs sInitBadText) (defBody sInitBadText) (defScope sInitBadText) .none xkV0 xdc0 xpm0 xan0 xcd0 xct0), xsl0⟩) (xc0 : PySem.W.codeIn K xcd0 "BadText.__init__" = true) (xk0 : PySem.W.keepIn K (.ref xf0) = true)
    (xg13 : PySem.W.subIn K (.ref C0) (.ref C0) = some true)
    (xg14 : PySem.W.subIn K (.ref C1) (.type "BaseException") = some true)
    (xg15 : PySem.W.hasDictIn K C1 = true)
    (xg16 : PySem.W.typeIn K (.ref C1) = some (.type "type"))
    (xg17 : PySem.W.subIn K (.ref C0) (.ref C1) = some true)
    (xg18 : PySem.W.findIn K (.ref C0) "__class__" = some (some (.builtin "object.__class__")))
    (xg19 : PySem.W.specialIn K (.builtin "object.__class__") "__get__" = some (some (.builtin "getset_descriptor.__get__")))
    (xg20 : PySem.W.takesIn K (.builtin "object.__class__") = some true)
    (xg21 : PySem.W.mroIn K C0 (.type "object") = some true)
    (xg22 : PySem.W.nsIn K mainGlobals "ValueError" = some none)
    (xg23 : PySem.W.subIn K (.ref C0) (.type "ValueError") = some true) :
    ∃ fd : FuncData, (∀ (s : Shared) (v : Value), BindsTo s fd ⟨[v], []⟩ [("script", v)]) ∧ ∀ base : Heap, K.In base → base.Ns mainGlobals mg → FnOk l.prog w K mg base (L2.CX l.prog w) 5 fa fd ["script"] (spLaw K) := by
  have e := hfa.symm.trans (PySem.W.mg_of X G a21)
  cases e
  have T : Txt K mg := ⟨PySem.W.mg_none_of X G z0, PySem.W.mg_none_of X G z1, PySem.W.mg_none_of X G z2, PySem.W.mg_none_of X G z3, PySem.W.mg_none_of X G z4, PySem.W.mg_none_of X G z5, PySem.W.mg_none_of X G z6, PySem.W.mg_none_of X G z7, PySem.W.mg_none_of X G z8, ⟨_, PySem.W.mg_of X G cc0⟩, ⟨_, PySem.W.mg_of X G cc1⟩, ⟨_, PySem.W.mg_of X G cc2⟩, ⟨_, PySem.W.mg_of X G xa0, (cat_cons (PySem.W.mg_of X G xa0) (PySem.W.exm_ref xg3 xg10 xg4 xg13) cat_nil)⟩, ⟨_, PySem.W.mg_of X G xa1, (cat_cons (PySem.W.mg_of X G xa0) (PySem.W.exm_ref xg14 xg15 xg16 xg17) cat_nil)⟩, isx_ty' (PySem.W.mg_of X G xa0) (PySem.W.mg_none_of X G xg22) (by rfl) (by decide) ⟨xg8, xg9, xg3, xg10, xg18, xg19, xg20, xg21⟩ (kit_ty2 (by decide) xg23), isx_own' (PySem.W.mg_of X G xa0) (PySem.W.mg_of X G xa0) ⟨xg8, xg9, xg3, xg10, xg18, xg19, xg20, xg21⟩ (kit_ref xg10 xg4 xg13)⟩
  have F0 := fun_mk (st := sSpelled) l0 c0 k0
  have F1 := fun_mk (st := sIsName) l1 c1 k1
  have F2 := fun_mk (st := sIsKnown) l2 c2 k2
  have F3 := fun_mk (st := sWriteName) l3 c3 k3
  have F4 := fun_mk (st := sWritePath) l4 c4 k4
  have F5 := fun_mk (st := sReadName) l5 c5 k5
  have F6 := fun_mk (st := sReadPath) l6 c6 k6
  have F7 := fun_mk (st := sLawDeck) l7 c7 k7
  have F8 := fun_mk (st := sLawDraw) l8 c8 k8
  have F9 := fun_mk (st := sLawWord) l9 c9 k9
  have F10 := fun_mk (st := sLawSame) l10 c10 k10
  have F11 := fun_mk (st := sLawText) l11 c11 k11
  have F12 := fun_mk (st := sLawOnly) l12 c12 k12
  have F13 := fun_mk (st := sLawName) l13 c13 k13
  have F14 := fun_mk (st := sLawPath) l14 c14 k14
  have F15 := fun_mk (st := sLawWritten) l15 c15 k15
  have F16 := fun_mk (st := sLawBent) l16 c16 k16
  have F17 := fun_mk (st := sLawReadName) l17 c17 k17
  have F18 := fun_mk (st := sLawReadPath) l18 c18 k18
  have F19 := fun_mk (st := sLawTried) l19 c19 k19
  have F20 := fun_mk (st := sLawBase) l20 c20 k20
  have F21 := fun_mk (st := sLaw) l21 c21 k21
  refine ⟨PySem.W.fnOf "law" "law" (defArgs sLaw) (defBody sLaw) (defScope sLaw) .none kV21 dc21 pm21 an21 cd21 ct21, fun s v => .of_eq rfl, fun base _ _ => ?_⟩
  have X0 := (⟨⟨⟨_, _, _, _, _, _, _, _, _, _, _, _, _, _, _, xg0, xg1⟩, xg2, xg3, xg4, xg5⟩, xg6, xg7, ⟨xg8, xg9, xg3, xg10⟩, fun n hn => by simp only [List.mem_cons, List.not_mem_nil, or_false] at hn; rcases hn with rfl | rfl <;> assumption⟩ : XcOk K C0 xf0 ["line", "word"])
  have xF0 := fun_mk (st := sInitBadText) xl0 xc0 xk0
  have xb0 := xF0.binds (ps := ["self", "line", "word"]) fun _ _ _ _ _ _ us hl => match us, hl with | [_, _, _], _ => rfl
  have xBadText : XOwn l.prog w K mg base "BadText" ["line", "word"] 1 := X0.own (PySem.W.mg_of X G xa0) (okInitBadText xF0 X0) xb0
  have b0 := F0.binds (ps := ["word", "signs"]) fun _ _ _ _ _ _ us hl => match us, hl with | [_, _], _ => rfl
  have oSpelled : Own l.prog w K mg base "spelled" fSpelled 1 := ⟨_, _, _, okSpelled F0 T , PySem.W.mg_of X G a0, F0.kp, b0⟩
  have b1 := F1.binds (ps := ["name"]) fun _ _ _ _ _ _ us hl => match us, hl with | [_], _ => rfl
  have oIsName : Own l.prog w K mg base "is_name" fIsName 2 := ⟨_, _, _, okIsName F1 T oSpelled, PySem.W.mg_of X G a1, F1.kp, b1⟩
  have b2 := F2.binds (ps := ["name"]) fun _ _ _ _ _ _ us hl => match us, hl with | [_], _ => rfl
  have oIsKnown : Own l.prog w K mg base "is_known" fIsKnown 2 := ⟨_, _, _, okIsKnown F2 T oSpelled, PySem.W.mg_of X G a2, F2.kp, b2⟩
  have b3 := F3.binds (ps := ["name"]) fun _ _ _ _ _ _ us hl => match us, hl with | [_], _ => rfl
  have oWriteName : Own l.prog w K mg base "write_name" fWriteName 1 := ⟨_, _, _, okWriteName F3 T , PySem.W.mg_of X G a3, F3.kp, b3⟩
  have b4 := F4.binds (ps := ["path"]) fun _ _ _ _ _ _ us hl => match us, hl with | [_], _ => rfl
  have oWritePath : Own l.prog w K mg base "write_path" fWritePath 1 := ⟨_, _, _, okWritePath F4 T , PySem.W.mg_of X G a4, F4.kp, b4⟩
  have b5 := F5.binds (ps := ["word", "line", "place"]) fun _ _ _ _ _ _ us hl => match us, hl with | [_, _, _], _ => rfl
  have oReadName : Own l.prog w K mg base "read_name" fReadName 3 := ⟨_, _, _, okReadName F5 T oIsKnown xBadText, PySem.W.mg_of X G a5, F5.kp, b5⟩
  have b6 := F6.binds (ps := ["word", "line", "place"]) fun _ _ _ _ _ _ us hl => match us, hl with | [_, _, _], _ => rfl
  have oReadPath : Own l.prog w K mg base "read_path" fReadPath 3 := ⟨_, _, _, okReadPath F6 T oIsName xBadText, PySem.W.mg_of X G a6, F6.kp, b6⟩
  have b7 := F7.binds (ps := ["script"]) fun _ _ _ _ _ _ us hl => match us, hl with | [_], _ => rfl
  have oLawDeck : Own l.prog w K mg base "_law_deck" fLawDeck 1 := ⟨_, _, _, okLawDeck F7 T , PySem.W.mg_of X G a7, F7.kp, b7⟩
  have b8 := F8.binds (ps := ["deck", "many"]) fun _ _ _ _ _ _ us hl => match us, hl with | [_, _], _ => rfl
  have oLawDraw : Own l.prog w K mg base "_law_draw" fLawDraw 1 := ⟨_, _, _, okLawDraw F8 T , PySem.W.mg_of X G a8, F8.kp, b8⟩
  have b9 := F9.binds (ps := ["deck", "used"]) fun _ _ _ _ _ _ us hl => match us, hl with | [_, _], _ => rfl
  have oLawWord : Own l.prog w K mg base "_law_word" fLawWord 2 := ⟨_, _, _, okLawWord F9 T oLawDraw, PySem.W.mg_of X G a9, F9.kp, b9⟩
  have b10 := F10.binds (ps := ["actual", "due"]) fun _ _ _ _ _ _ us hl => match us, hl with | [_, _], _ => rfl
  have oLawSame : Own l.prog w K mg base "_law_same" fLawSame 1 := ⟨_, _, _, okLawSame F10 T , PySem.W.mg_of X G a10, F10.kp, b10⟩
  have b11 := F11.binds (ps := ["deck"]) fun _ _ _ _ _ _ us hl => match us, hl with | [_], _ => rfl
  have oLawText : Own l.prog w K mg base "_law_text" fLawText 2 := ⟨_, _, _, okLawText F11 T oLawDraw, PySem.W.mg_of X G a11, F11.kp, b11⟩
  have b12 := F12.binds (ps := ["value", "signs"]) fun _ _ _ _ _ _ us hl => match us, hl with | [_, _], _ => rfl
  have oLawOnly : Own l.prog w K mg base "_law_only" fLawOnly 1 := ⟨_, _, _, okLawOnly F12 T , PySem.W.mg_of X G a12, F12.kp, b12⟩
  have b13 := F13.binds (ps := ["deck"]) fun _ _ _ _ _ _ us hl => match us, hl with | [_], _ => rfl
  have oLawName : Own l.prog w K mg base "_law_name" fLawName 2 := ⟨_, _, _, okLawName F13 T oLawDraw, PySem.W.mg_of X G a13, F13.kp, b13⟩
  have b14 := F14.binds (ps := ["deck"]) fun _ _ _ _ _ _ us hl => match us, hl with | [_], _ => rfl
  have oLawPath : Own l.prog w K mg base "_law_path" fLawPath 3 := ⟨_, _, _, okLawPath F14 T oLawDraw oLawWord, PySem.W.mg_of X G a14, F14.kp, b14⟩
  have b15 := F15.binds (ps := ["thing"]) fun _ _ _ _ _ _ us hl => match us, hl with | [_], _ => rfl
  have oLawWritten : Own l.prog w K mg base "_law_written" fLawWritten 1 := ⟨_, _, _, okLawWritten F15 T , PySem.W.mg_of X G a15, F15.kp, b15⟩
  have b16 := F16.binds (ps := ["deck", "word"]) fun _ _ _ _ _ _ us hl => match us, hl with | [_, _], _ => rfl
  have oLawBent : Own l.prog w K mg base "_law_bent" fLawBent 2 := ⟨_, _, _, okLawBent F16 T oLawDraw, PySem.W.mg_of X G a16, F16.kp, b16⟩
  have b17 := F17.binds (ps := ["word", "line", "place"]) fun _ _ _ _ _ _ us hl => match us, hl with | [_, _, _], _ => rfl
  have oLawReadName : Own l.prog w K mg base "_law_read_name" fLawReadName 2 := ⟨_, _, _, okLawReadName F17 T oLawOnly, PySem.W.mg_of X G a17, F17.kp, b17⟩
  have b18 := F18.binds (ps := ["word", "line", "place"]) fun _ _ _ _ _ _ us hl => match us, hl with | [_, _, _], _ => rfl
  have oLawReadPath : Own l.prog w K mg base "_law_read_path" fLawReadPath 2 := ⟨_, _, _, okLawReadPath F18 T oLawOnly, PySem.W.mg_of X G a18, F18.kp, b18⟩
  have b19 := F19.binds (ps := ["word", "line", "place", "paths"]) fun _ _ _ _ _ _ us hl => match us, hl with | [_, _, _, _], _ => rfl
  have oLawTried : Own l.prog w K mg base "_law_tried" fLawTried 4 := ⟨_, _, _, okLawTried F19 T oReadPath oReadName xBadText, PySem.W.mg_of X G a19, F19.kp, b19⟩
  have b20 := F20.binds (ps := ["word"]) fun _ _ _ _ _ _ us hl => match us, hl with | [_], _ => rfl
  have oLawBase : Own l.prog w K mg base "_law_base" fLawBase 4 := ⟨_, _, _, okLawBase F20 T oReadPath xBadText, PySem.W.mg_of X G a20, F20.kp, b20⟩
  exact (okLaw (P := l.prog) (w := w) (base := base) F21 T oLawDeck oLawDraw oLawName oLawPath oWriteName oWritePath oLawWritten oLawSame oLawBent oLawText oLawTried oLawReadName oLawReadPath oLawBase).imp fun vs H Q E h => by
    obtain ⟨a, ns, rfl, hS, hl, q⟩ := h
    refine ⟨rfl, H, [.list (ns.map .int)], Ex.refl H, ⟨.lst hS (dpAll_ints ns), trivial⟩, ?_⟩
    rw [law_true ns hl]
    intro v S' H' _ _ _ _ _ hv
    cases hv
    exact q H'
end K04
open PySem PySem.W PyProof.Rows
set_option maxHeartbeats 0 in
theorem PySem.Challenge.cw_rowferry_k04_written_names_holds : PySem.Challenge.rw_rowferry_k04_written_names.Holds := by
  w_on; o_law; k_head; (case hw => w_witness2)
  k_fill
  refine L2.walk_of (l := PySem.Challenge.rw_rowferry_k04_written_names) (n := 63) (k := 5) (x := "script") (CX := fun w => L2.CX PySem.Challenge.pw_rowferry_k04_written_names w) (sp := fun w => K04.spLaw _) rfl (by decide) rfl ⟨rfl, by decide, by decide⟩ (fun w h Y => PySem.W.kIn_of Y) ?F (fun _ _ a ns hl _ hS => ⟨a, ns, rfl, hS, hl, fun _ => rfl⟩) K04.noCX
  case F =>
    intro w mg fa h KX G hmg
    refine' K04.all_mk KX G hmg ?a0 ?l0 ?c0 ?k0 ?a1 ?l1 ?c1 ?k1 ?a2 ?l2 ?c2 ?k2 ?a3 ?l3 ?c3 ?k3 ?a4 ?l4 ?c4 ?k4 ?a5 ?l5 ?c5 ?k5 ?a6 ?l6 ?c6 ?k6 ?a7 ?l7 ?c7 ?k7 ?a8 ?l8 ?c8 ?k8 ?a9 ?l9 ?c9 ?k9 ?a10 ?l10 ?c10 ?k10 ?a11 ?l11 ?c11 ?k11 ?a12 ?l12 ?c12 ?k12 ?a13 ?l13 ?c13 ?k13 ?a14 ?l14 ?c14 ?k14 ?a15 ?l15 ?c15 ?k15 ?a16 ?l16 ?c16 ?k16 ?a17 ?l17 ?c17 ?k17 ?a18 ?l18 ?c18 ?k18 ?a19 ?l19 ?c19 ?k19 ?a20 ?l20 ?c20 ?k20 ?a21 ?l21 ?c21 ?k21 ?cc0 ?cc1 ?cc2 ?z0 ?z1 ?z2 ?z3 ?z4 ?z5 ?z6 ?z7 ?z8 ?xa0 ?xa1 ?xg0 ?xg1 ?xg2 ?xg3 ?xg4 ?xg5 ?xg6 ?xg7 ?xg8 ?xg9 ?xg10 ?xg11 ?xg12 ?xl0 ?xc0 ?xk0 ?xg13 ?xg14 ?xg15 ?xg16 ?xg17 ?xg18 ?xg19 ?xg20 ?xg21 ?xg22 ?xg23
    (case a0 => k_is); (case l0 => k_is); (case c0 => k_is); (case k0 => k_is); (case a1 => k_is); (case l1 => k_is); (case c1 => k_is); (case k1 => k_is); (case a2 => k_is); (case l2 => k_is); (case c2 => k_is); (case k2 => k_is); (case a3 => k_is); (case l3 => k_is); (case c3 => k_is); (case k3 => k_is); (case a4 => k_is); (case l4 => k_is); (case c4 => k_is); (case k4 => k_is); (case a5 => k_is); (case l5 => k_is); (case c5 => k_is); (case k5 => k_is); (case a6 => k_is); (case l6 => k_is); (case c6 => k_is); (case k6 => k_is); (case a7 => k_is); (case l7 => k_is); (case c7 => k_is); (case k7 => k_is); (case a8 => k_is); (case l8 => k_is); (case c8 => k_is); (case k8 => k_is); (case a9 => k_is); (case l9 => k_is); (case c9 => k_is); (case k9 => k_is); (case a10 => k_is); (case l10 => k_is); (case c10 => k_is); (case k10 => k_is); (case a11 => k_is); (case l11 => k_is); (case c11 => k_is); (case k11 => k_is); (case a12 => k_is); (case l12 => k_is); (case c12 => k_is); (case k12 => k_is); (case a13 => k_is); (case l13 => k_is); (case c13 => k_is); (case k13 => k_is); (case a14 => k_is); (case l14 => k_is); (case c14 => k_is); (case k14 => k_is); (case a15 => k_is); (case l15 => k_is); (case c15 => k_is); (case k15 => k_is); (case a16 => k_is); (case l16 => k_is); (case c16 => k_is); (case k16 => k_is); (case a17 => k_is); (case l17 => k_is); (case c17 => k_is); (case k17 => k_is); (case a18 => k_is); (case l18 => k_is); (case c18 => k_is); (case k18 => k_is); (case a19 => k_is); (case l19 => k_is); (case c19 => k_is); (case k19 => k_is); (case a20 => k_is); (case l20 => k_is); (case c20 => k_is); (case k20 => k_is); (case a21 => k_is); (case l21 => k_is); (case c21 => k_is); (case k21 => k_is); (case cc0 => k_is); (case cc1 => k_is); (case cc2 => k_is); (case z0 => k_is); (case z1 => k_is); (case z2 => k_is); (case z3 => k_is); (case z4 => k_is); (case z5 => k_is); (case z6 => k_is); (case z7 => k_is); (case z8 => k_is); (case xa0 => k_is); (case xa1 => k_is); (case xg0 => k_is); (case xg1 => decide +kernel); (case xg2 => k_is); (case xg3 => first | k_is | rfl); (case xg4 => k_is); (case xg5 => k_is); (case xg6 => k_is); (case xg7 => k_is); (case xg8 => k_is); (case xg9 => k_is); (case xg10 => k_is); (case xg11 => k_is); (case xg12 => k_is); (case xl0 => k_is); (case xc0 => k_is); (case xk0 => k_is); (case xg13 => first | k_is | rfl); (case xg14 => first | k_is | rfl); (case xg15 => k_is); (case xg16 => k_is); (case xg17 => first | k_is | rfl); (case xg18 => k_is); (case xg19 => k_is); (case xg20 => k_is); (case xg21 => k_is); (case xg22 => k_is); (case xg23 => first | k_is | rfl)

