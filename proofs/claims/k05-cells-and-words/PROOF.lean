import PyProof.Rows.All
import Wide.All
import OpenK.AllK
import Wide.FinOn
import KE.KStateDown
import HandS.ForMost
import HandS.ForExc
import HandS.Wide
import HandS.Defaults
import HandS.TupAny
import HandS.Gcd
import HandS.Flow
import HandS.CallSlots
import HandS.Style
import HandS.GenList
import HandS.Star
import HandS.Iter
import HandS.IsInst
import HandS.Head0
import HandS.Head1
import HandS.Head2
import HandS.HeadEnd
import HandS.HeadHook1
import HandS.HeadHook2
import HandS.Head3
import PySem.Challenge.RW_bendless_k05_cells_and_words
set_option Elab.async false
set_option linter.all false
set_option maxRecDepth 100000
namespace DL
open PySem PySem.Spec L2

/-! ### data, results, states -/
inductive D where
  | non | bl (b : Bool) | int (i : Int) | str (x : Str) | tup (xs : List D) | lst (xs : List D) | box
/-- a value: data that others may see, or a list of one's own -/
inductive RV where
  | v (d : D) | o (ds : List D)
def RV.d : RV → D
  | .v d => d
  | .o ds => .lst ds
inductive Slot where
  | no | v (d : D) | o (ds : List D)
structure Exc where
  cls : Str
  fs : List (Str × D)
structure S (β : Type) where
  sl : List Slot
  bx : β
inductive Out (σ α : Type) where
  | ok (a : α) (s : σ) | exc (x : Exc) (s : σ) | bad
abbrev M (β α : Type) := S β → Out (S β) α
abbrev DefM (β : Type) := List D → β → Out β RV
inductive Fl where
  | nx | rt (r : RV) | bk | ct
section
variable {β α γ : Type}
def mret (a : α) : M β α := fun s => .ok a s
def mbad : M β α := fun _ => .bad
def Out.thn {σ τ α γ : Type} (o : Out σ α) (k : α → σ → Out τ γ) (e : Exc → σ → Out τ γ) : Out τ γ := match o with
  | .ok a s => k a s
  | .exc x s => e x s
  | .bad => .bad
def mbind (m : M β α) (k : α → M β γ) : M β γ := fun s => match m s with
  | .ok a s' => k a s'
  | .exc x s' => .exc x s'
  | .bad => .bad
/-- a step that may fail -/
def opt (o : Option α) : M β α := fun s => match o with
  | some a => .ok a s
  | none => .bad
end

/-! ### the relation to the heap -/
def Ex (H H' : Hp) : Prop := ∀ a o, H a = some o → H' a = some o
theorem Ex.refl (H : Hp) : Ex H H := fun _ _ h => h
theorem Ex.trans {H H1 H2 : Hp} (a : Ex H H1) (b : Ex H1 H2) : Ex H H2 := fun x o h => b x o (a x o h)
theorem Ex.new {H : Hp} {p : Addr} {o : HO} (h : H p = none) : Ex H (upd H p o) := fun a u e => by
  rw [upd_ne (ne_of_none e h)]
  exact e
theorem Ex.rd {H H' : Hp} {a : Addr} {u : HO} (e : Ex H H') (h : Rd H a u) : Rd H' a u := by
  rcases h with h | ⟨o, h⟩
  · exact Or.inl (e a _ h)
  · exact Or.inr ⟨o, e a _ h⟩
theorem Ex.l {K : PySem.W.Frag} {H H' : Hp} {a : Addr} {xs : List V} (e : Ex H H') (h : SqL K H a xs) : SqL K H' a xs := by
  rcases h with h | h
  · exact Or.inl (e.rd h)
  · exact Or.inr h
theorem Ex.t {K : PySem.W.Frag} {H H' : Hp} {a : Addr} {xs : List V} (e : Ex H H') (h : SqT K H a xs) : SqT K H' a xs := by
  rcases h with h | h
  · exact Or.inl (e.rd h)
  · exact Or.inr h
theorem Ex.back {H H' : Hp} {p : Addr} (e : Ex H H') (h : H' p = none) : H p = none := by
  cases h1 : H p with
  | none => rfl
  | some o =>
    rw [e p o h1] at h
    cases h

/-- v stands for d, by the heap H -/
inductive Rep (K : PySem.W.Frag) (bx : Addr) (H : Hp) : V → D → Prop
  | non : Rep K bx H .non .non
  | bl {b} : Rep K bx H (.bl b) (.bl b)
  | int {i} : Rep K bx H (.int i) (.int i)
  | str {x} : Rep K bx H (.str x) (.str x)
  | tup {a vs ds} : SqT K H a vs → vs.length = ds.length → (∀ (i : Nat) (v : V) (d : D), vs[i]? = some v → ds[i]? = some d → Rep K bx H v d) → Rep K bx H (.ref a) (.tup ds)
  | lst {a vs ds} : H a = some (.lst vs) → vs.length = ds.length → (∀ (i : Nat) (v : V) (d : D), vs[i]? = some v → ds[i]? = some d → Rep K bx H v d) → Rep K bx H (.ref a) (.lst ds)
  | box : Rep K bx H (.ref bx) .box
structure Reps (K : PySem.W.Frag) (bx : Addr) (H : Hp) (vs : List V) (ds : List D) : Prop where
  len : vs.length = ds.length
  get : ∀ (i : Nat) (v : V) (d : D), vs[i]? = some v → ds[i]? = some d → Rep K bx H v d
section
variable {K : PySem.W.Frag} {bx : Addr} {H H' : Hp} {v : V} {d : D} {vs ws : List V} {ds es : List D} {a : Addr}
theorem Rep.mono (r : Rep K bx H v d) (e : Ex H H') : Rep K bx H' v d := by
  induction r with
  | non => exact .non
  | bl => exact .bl
  | int => exact .int
  | str => exact .str
  | tup h l _ ih => exact .tup (e.t h) l ih
  | lst h l _ ih => exact .lst (e _ _ h) l ih
  | box => exact .box
theorem Reps.mono (r : Reps K bx H vs ds) (e : Ex H H') : Reps K bx H' vs ds := ⟨r.len, fun i v d h h' => (r.get i v d h h').mono e⟩
theorem Rep.tupR (h : SqT K H a vs) (r : Reps K bx H vs ds) : Rep K bx H (.ref a) (.tup ds) := .tup h r.len r.get
theorem Rep.lstR (h : H a = some (.lst vs)) (r : Reps K bx H vs ds) : Rep K bx H (.ref a) (.lst ds) := .lst h r.len r.get
theorem Reps.nil : Reps K bx H [] [] := ⟨rfl, fun i v d h => by simp at h⟩
theorem Reps.cons (r : Rep K bx H v d) (t : Reps K bx H vs ds) : Reps K bx H (v :: vs) (d :: ds) := ⟨by simp [t.len], fun i x y h h' => by
  cases i with
  | zero => simp at h h'; subst h h'; exact r
  | succ i => exact t.get i x y (by simpa using h) (by simpa using h')⟩
theorem Reps.append (r : Reps K bx H vs ds) (t : Reps K bx H ws es) : Reps K bx H (vs ++ ws) (ds ++ es) := ⟨by simp [r.len, t.len], fun i x y h h' => by
  by_cases hi : i < vs.length
  · rw [List.getElem?_append_left hi] at h
    rw [List.getElem?_append_left (by rw [← r.len]; exact hi)] at h'
    exact r.get i x y h h'
  · rw [List.getElem?_append_right (by omega)] at h
    rw [List.getElem?_append_right (by rw [← r.len]; omega), ← r.len] at h'
    exact t.get _ x y h h'⟩
theorem Reps.one (r : Rep K bx H v d) : Reps K bx H [v] [d] := .cons r .nil
theorem Reps.cases_cons {d : D} (r : Reps K bx H vs (d :: ds)) : ∃ v ws, vs = v :: ws ∧ Rep K bx H v d ∧ Reps K bx H ws ds := by
  cases vs with
  | nil => exact absurd r.len (by simp)
  | cons v ws => exact ⟨v, ws, rfl, r.get 0 v d rfl rfl, ⟨by have := r.len; simp at this; exact this, fun i x y h h' => r.get (i + 1) x y (by simpa using h) (by simpa using h')⟩⟩
theorem Reps.cases_nil (r : Reps K bx H vs []) : vs = [] := by
  have := r.len
  cases vs with
  | nil => rfl
  | cons v ws => simp at this
theorem Reps.cases1 {d : D} (r : Reps K bx H vs [d]) : ∃ v, vs = [v] ∧ Rep K bx H v d := by
  obtain ⟨v, ws, rfl, h, t⟩ := r.cases_cons
  rw [t.cases_nil]
  exact ⟨v, rfl, h⟩
theorem Reps.cases2 {d e : D} (r : Reps K bx H vs [d, e]) : ∃ v u, vs = [v, u] ∧ Rep K bx H v d ∧ Rep K bx H u e := by
  obtain ⟨v, ws, rfl, h, t⟩ := r.cases_cons
  obtain ⟨u, rfl, h'⟩ := t.cases1
  exact ⟨v, u, rfl, h, h'⟩
/-- a child of a sequence -/
theorem Reps.at (r : Reps K bx H vs ds) {i : Nat} {d : D} (h : ds[i]? = some d) : ∃ v, vs[i]? = some v ∧ Rep K bx H v d := by
  have hi : i < ds.length := (List.getElem?_eq_some_iff.mp h).1
  have hv : i < vs.length := by rw [r.len]; exact hi
  exact ⟨vs[i], by simp [hv], r.get i _ d (by simp [hv]) h⟩
theorem Reps.atV (r : Reps K bx H vs ds) {i : Nat} {v : V} (h : vs[i]? = some v) : ∃ d, ds[i]? = some d ∧ Rep K bx H v d := by
  have hi : i < vs.length := (List.getElem?_eq_some_iff.mp h).1
  have hv : i < ds.length := by rw [← r.len]; exact hi
  exact ⟨ds[i], by simp [hv], r.get i v _ h (by simp [hv])⟩
theorem Reps.set (r : Reps K bx H vs ds) (t : Rep K bx H v d) (i : Nat) : Reps K bx H (vs.set i v) (ds.set i d) := ⟨by simp [r.len], fun j x y h h' => by
  by_cases hj : i = j
  · subst hj
    have hi : i < vs.length := by
      have := (List.getElem?_eq_some_iff.mp h).1
      simpa using this
    rw [List.getElem?_set_self hi] at h
    rw [List.getElem?_set_self (by rw [← r.len]; exact hi)] at h'
    cases h; cases h'
    exact t
  · rw [List.getElem?_set_ne hj] at h h'
    exact r.get j x y h h'⟩
theorem Reps.take (r : Reps K bx H vs ds) (n : Nat) : Reps K bx H (vs.take n) (ds.take n) := ⟨by simp [r.len], fun j x y h h' => by
  rw [List.getElem?_take] at h h'
  split at h
  · rename_i hj
    rw [if_pos hj] at h'
    exact r.get j x y h h'
  · cases h⟩
theorem Reps.drop (r : Reps K bx H vs ds) (n : Nat) : Reps K bx H (vs.drop n) (ds.drop n) := ⟨by simp [r.len], fun j x y h h' => by
  rw [List.getElem?_drop] at h h'
  exact r.get _ x y h h'⟩
theorem Reps.reverse (r : Reps K bx H vs ds) : Reps K bx H vs.reverse ds.reverse := ⟨by simp [r.len], fun j x y h h' => by
  have hj : j < vs.length := by
    have := (List.getElem?_eq_some_iff.mp h).1
    simpa using this
  rw [List.getElem?_reverse hj] at h
  rw [List.getElem?_reverse (by rw [← r.len]; exact hj), ← r.len] at h'
  exact r.get _ x y h h'⟩
theorem Reps.replicate (r : Rep K bx H v d) : ∀ n : Nat, Reps K bx H (List.replicate n v) (List.replicate n d)
  | 0 => .nil
  | n + 1 => .cons r (Reps.replicate r n)
end

/-! ### the ghost: the box's address, what its content means, the frame that stays, the wish about exceptions -/
structure G (β : Type) where
  bx : Addr
  itp : Hp → β → HO → Prop
  mono : ∀ {H H' b o}, Ex H H' → itp H b o → itp H' b o
  F : Hp
/-- an exception stands for x -/
def XRep (K : PySem.W.Frag) (mg : Str → Option Value) (bx : Addr) (H0 H : Hp) (c : Value) (dd : Option Addr) (x : Exc) : Prop :=
  mg x.cls = some c ∧ ∃ d fs, dd = some d ∧ H d = some (.xd fs) ∧ fs.map (·.1) = x.fs.map (·.1) ∧ Reps K bx H0 (fs.map (·.2)) (x.fs.map (·.2))
structure Rel0 {β : Type} (g : G β) (H0 H : Hp) (b : β) : Prop where
  sub : Ex H0 H
  frm : Ex g.F H
  dis : ∀ a o, g.F a = some o → H0 a = none
  bxn : H0 g.bx = none
  bxF : g.F g.bx = none
  it : ∃ o, H g.bx = some o ∧ g.itp H0 b o
def SlotR {β : Type} (K : PySem.W.Frag) (g : G β) (H0 H : Hp) (x : Option V) : Slot → Prop
  | .no => True
  | .v d => ∃ y, x = some y ∧ Rep K g.bx H0 y d
  | .o ds => ∃ p vs, x = some (.ref p) ∧ H p = some (.lst vs) ∧ Reps K g.bx H0 vs ds ∧ H0 p = none ∧ g.F p = none ∧ p ≠ g.bx
structure Rel {β : Type} (K : PySem.W.Frag) (g : G β) (H0 : Hp) (σ : L2.St) (H : Hp) (s : S β) : Prop where
  r0 : Rel0 g H0 H s.bx
  len : s.sl.length = σ.length
  slot : ∀ (i : Nat) (k : Slot) (x : Option V), s.sl[i]? = some k → σ[i]? = some x → SlotR K g H0 H x k
  dist : ∀ (i j : Nat) (ds es : List D) (p : Addr), s.sl[i]? = some (.o ds) → s.sl[j]? = some (.o es) → σ[i]? = some (some (.ref p)) → σ[j]? = some (some (.ref p)) → i = j
/-- a result -/
def ResR {β : Type} (K : PySem.W.Frag) (g : G β) (H0 : Hp) (H : Hp) (v : V) : RV → Prop
  | .v d => Rep K g.bx H0 v d
  | .o ds => ∃ p vs, v = .ref p ∧ H p = some (.lst vs) ∧ Reps K g.bx H0 vs ds ∧ H0 p = none ∧ g.F p = none ∧ p ≠ g.bx
/-- .. apart from the slots' own lists -/
def Apart (σ : L2.St) (sl : List Slot) (v : V) : RV → Prop
  | .v _ => True
  | .o _ => ∀ (i : Nat) (es : List D) (p : Addr), v = .ref p → sl[i]? = some (.o es) → σ[i]? ≠ some (some (.ref p))
section
variable {β : Type} {K : PySem.W.Frag} {g : G β} {H0 H H0' H' : Hp} {σ : L2.St} {s : S β} {v : V} {d : D} {vs : List V} {ds : List D} {p : Addr}
theorem SlotR.mono {x : Option V} {k : Slot} (h : SlotR K g H0 H x k) (e0 : Ex H0 H0') (e : ∀ p, H0 p = none → g.F p = none → p ≠ g.bx → ∀ o, x = some (.ref p) → H p = some o → H' p = some o ∧ H0' p = none) : SlotR K g H0' H' x k := by
  cases k with
  | no => trivial
  | v d => obtain ⟨y, e1, r⟩ := h; exact ⟨y, e1, r.mono e0⟩
  | o ds =>
    obtain ⟨p, vs, e1, e2, r, n0, nF, nb⟩ := h
    obtain ⟨k1, k2⟩ := e p n0 nF nb _ e1 e2
    exact ⟨p, vs, e1, k1, r.mono e0, k2, nF, nb⟩
/-- the heap grows: the frozen part by new objects -/
theorem Rel.grow (R : Rel K g H0 σ H s) (e0 : Ex H0 H0') (e : Ex H H') (sub : Ex H0' H') (new : ∀ a o, H0' a = some o → H0 a = some o ∨ H a = none) : Rel K g H0' σ H' s := by
  have back : ∀ a, H0 a = none → H a ≠ none → H0' a = none := fun a n h => by
    cases q : H0' a with
    | none => rfl
    | some o =>
      rcases new a o q with z | z
      · rw [z] at n; cases n
      · exact absurd z h
  obtain ⟨o, hb, ib⟩ := R.r0.it
  exact ⟨⟨sub, R.r0.frm.trans e, fun a o h => back a (R.r0.dis a o h) (by rw [R.r0.frm a o h]; simp), back _ R.r0.bxn (by rw [hb]; simp), R.r0.bxF, o, e _ _ hb, g.mono e0 ib⟩, R.len, fun i k x h1 h2 => (R.slot i k x h1 h2).mono e0 fun p n0 _ _ o _ hp => ⟨e p o hp, back p n0 (by rw [hp]; simp)⟩, R.dist⟩
/-- nothing is known of a new object -/
theorem Rel.more (R : Rel K g H0 σ H s) (e : Ex H H') : Rel K g H0 σ H' s :=
  R.grow (Ex.refl _) e (R.r0.sub.trans e) fun a o h => .inl h
end
end DL

set_option Elab.async false
set_option linter.all false
set_option maxRecDepth 100000
namespace DL
open PySem PySem.Spec L2
def Out.on {σ α : Type} (o : Out σ α) (k : α → σ → Prop) (e : Exc → σ → Prop) : Prop := match o with
  | .ok a s => k a s
  | .exc x s => e x s
  | .bad => False
theorem Out.on_imp {σ α : Type} {o : Out σ α} {k k' : α → σ → Prop} {e e' : Exc → σ → Prop} (h : o.on k e) (hk : ∀ a s, k a s → k' a s) (he : ∀ x s, e x s → e' x s) : o.on k' e' := by
  cases o with
  | ok a s => exact hk a s h
  | exc x s => exact he x s h
  | bad => exact h
theorem on_bind {β α γ : Type} {m : M β α} {f : α → M β γ} {s : S β} {k : γ → S β → Prop} {e : Exc → S β → Prop} : (mbind m f s).on k e ↔ (m s).on (fun a s' => (f a s').on k e) e := by
  unfold mbind
  cases m s <;> exact Iff.rfl
theorem on_opt {β α : Type} {o : Option α} {s : S β} {k : α → S β → Prop} {e : Exc → S β → Prop} : (opt (β := β) o s).on k e ↔ ∃ a, o = some a ∧ k a s := by
  unfold opt
  cases o with
  | none => exact ⟨fun h => False.elim h, fun ⟨_, h, _⟩ => nomatch h⟩
  | some a => exact ⟨fun h => ⟨a, rfl, h⟩, fun ⟨b, h, q⟩ => by cases h; exact q⟩

section
variable {β α γ : Type}
def Esc (K : PySem.W.Frag) (mg : Str → Option Value) (g : G β) (W : WX) (H0 : Hp) (σ : L2.St) (x : Exc) (s' : S β) : Prop :=
  ∀ c dd H0' H', Ex H0 H0' → Rel K g H0' σ H' s' → XRep K mg g.bx H0' H' c dd x → W c dd σ H'
/-- an expression by its mirror -/
def tE (K : PySem.W.Frag) (mg : Str → Option Value) (g : G β) (W : WX) (m : M β RV) : TE := fun σ H Q => ∃ H0 s, Rel K g H0 σ H s ∧ (m s).on
  (fun r s' => ∀ v H0' H', Ex H0 H0' → Rel K g H0' σ H' s' → ResR K g H0' H' v r → Apart σ s'.sl v r → Q v H') (Esc K mg g W H0 σ)
/-- .. its value frozen -/
def tD (K : PySem.W.Frag) (mg : Str → Option Value) (g : G β) (W : WX) (m : M β RV) : TE := fun σ H Q => ∃ H0 s, Rel K g H0 σ H s ∧ (m s).on
  (fun r s' => ∀ v H0' H', Ex H0 H0' → Rel K g H0' σ H' s' → Rep K g.bx H0' v r.d → Q v H') (Esc K mg g W H0 σ)
def tT' (K : PySem.W.Frag) (mg : Str → Option Value) (g : G β) (W : WX) (m : M β Bool) : TT := fun σ H Q => ∃ H0 s, Rel K g H0 σ H s ∧ (m s).on
  (fun b s' => ∀ H0' H', Ex H0 H0' → Rel K g H0' σ H' s' → Q b H') (Esc K mg g W H0 σ)
def tA' (K : PySem.W.Frag) (mg : Str → Option Value) (g : G β) (W : WX) (m : M β (List D)) : TA := fun σ H Q => ∃ H0 s, Rel K g H0 σ H s ∧ (m s).on
  (fun ds s' => ∀ vs H0' H', Ex H0 H0' → Rel K g H0' σ H' s' → Reps K g.bx H0' vs ds → Q vs H') (Esc K mg g W H0 σ)
end
abbrev PEM {β : Type} (X : Cx) (g : G β) (W : WX) (e : Expr) (m : M β RV) : Prop := PE X e (tE X.K X.mg g W m)
abbrev PDM {β : Type} (X : Cx) (g : G β) (W : WX) (e : Expr) (m : M β RV) : Prop := PE X e (tD X.K X.mg g W m)
abbrev PTM {β : Type} (X : Cx) (g : G β) (W : WX) (e : Expr) (m : M β Bool) : Prop := PT X e (tT' X.K X.mg g W m)
abbrev PWM {β : Type} (X : Cx) (g : G β) (W : WX) (e : Expr) (m : M β Bool) : Prop := PW X e (tT' X.K X.mg g W m)
abbrev PAM {β : Type} (X : Cx) (g : G β) (W : WX) (es : List Expr) (m : M β (List D)) : Prop := PA X es (tA' X.K X.mg g W m)

theorem PE.imp {X : Cx} {e : Expr} {t t' : TE} (h : PE X e t) (i : ∀ σ H Q, t' σ H Q → t σ H Q) : PE X e t' := ⟨fun pins s σ H Q I q => h.run pins s σ H Q I (i σ H Q q)⟩
theorem PT.imp {X : Cx} {e : Expr} {t t' : TT} (h : PT X e t) (i : ∀ σ H Q, t' σ H Q → t σ H Q) : PT X e t' := ⟨fun pins s σ H Q I q => h.run pins s σ H Q I (i σ H Q q)⟩
theorem PW.imp {X : Cx} {e : Expr} {t t' : TT} (h : PW X e t) (i : ∀ σ H Q, t' σ H Q → t σ H Q) : PW X e t' := ⟨fun w pins s σ H Q I q => h.run w pins s σ H Q I (i σ H Q q)⟩
theorem PA.imp {X : Cx} {es : List Expr} {t t' : TA} (h : PA X es t) (i : ∀ σ H Q, t' σ H Q → t σ H Q) : PA X es t' := ⟨fun p pins s σ H Q I q => h.run p pins s σ H Q I (i σ H Q q)⟩

section
variable {β : Type} {K : PySem.W.Frag} {mg : Str → Option Value} {g : G β} {W : WX} {H0 H H0' H' : Hp} {σ : L2.St} {s s' : S β} {v : V} {r : RV}
theorem Esc.back {x : Exc} (h : Esc K mg g W H0 σ x s) (e : Ex H0 H0') : Esc K mg g W H0' σ x s := fun c dd H1 H2 e2 R X => h c dd H1 H2 (e.trans e2) R X
/-- a list of one's own is let go: it will not change any more -/
theorem freeze (R : Rel K g H0 σ H s) (h : ResR K g H0 H v r) (ap : Apart σ s.sl v r) : ∃ H1, Ex H0 H1 ∧ Rel K g H1 σ H s ∧ Rep K g.bx H1 v r.d := by
  cases r with
  | v d => exact ⟨H0, Ex.refl _, R, h⟩
  | o ds =>
    obtain ⟨p, vs, rfl, hp, rs, n0, nF, nb⟩ := h
    have ex : Ex H0 (upd H0 p (.lst vs)) := Ex.new n0
    have other : ∀ a, a ≠ p → upd H0 p (.lst vs) a = H0 a := fun a h => upd_ne h
    obtain ⟨o, hb, ib⟩ := R.r0.it
    refine ⟨upd H0 p (.lst vs), ex, ⟨⟨fun a u e => ?_, R.r0.frm, fun a u e => ?_, ?_, R.r0.bxF, o, hb, g.mono ex ib⟩, R.len, fun i k x h1 h2 => ?_, R.dist⟩, .lstR upd_same (rs.mono ex)⟩
    · by_cases ha : a = p
      · subst ha; rw [upd_same] at e; cases e; exact hp
      · rw [other a ha] at e; exact R.r0.sub a u e
    · have ha : a ≠ p := fun z => by subst z; rw [nF] at e; cases e
      rw [other a ha]; exact R.r0.dis a u e
    · rw [other _ (Ne.symm nb)]; exact R.r0.bxn
    · have z := R.slot i k x h1 h2
      cases k with
      | no => trivial
      | v d => obtain ⟨y, e1, rr⟩ := z; exact ⟨y, e1, rr.mono ex⟩
      | o es =>
        obtain ⟨q, ws, e1, e2, rr, m0, mF, mb⟩ := z
        refine ⟨q, ws, e1, e2, rr.mono ex, ?_, mF, mb⟩
        rw [other q fun z => ?_]
        · exact m0
        · subst z
          subst e1
          exact ap i es q rfl h1 h2
theorem tE_of_tD {m : M β RV} {Q : VK} (h : tD K mg g W m σ H Q) : tE K mg g W m σ H Q := by
  obtain ⟨H0, s, R, h⟩ := h
  refine ⟨H0, s, R, Out.on_imp h (fun r s' q v H1 H2 e R' rr ap => ?_) fun _ _ q => q⟩
  obtain ⟨H3, e3, R3, r3⟩ := freeze R' rr ap
  exact q v H3 H2 (e.trans e3) R3 r3
theorem PEM.d {X : Cx} {e : Expr} {m : M β RV} (h : PEM X g W e m) : PDM X g W e m := PE.imp h fun _ _ _ => tE_of_tD
end

/-! ### new values -/
structure Grow (H0 H H0' H' : Hp) : Prop where
  e0 : Ex H0 H0'
  e : Ex H H'
  sub : Ex H0' H'
  new : ∀ a o, H0' a = some o → H0 a = some o ∨ H a = none
def NewR (K : PySem.W.Frag) (bx : Addr) (H0' H H' : Hp) (v : V) : RV → Prop
  | .v d => Rep K bx H0' v d
  | .o ds => ∃ p vs, v = .ref p ∧ H p = none ∧ H' p = some (.lst vs) ∧ Reps K bx H0' vs ds ∧ H0' p = none
def Fin (K : PySem.W.Frag) (bx : Addr) (H0 H : Hp) (r : RV) (Q : VK) : Prop := ∀ v H0' H', Grow H0 H H0' H' → NewR K bx H0' H H' v r → Q v H'
section
variable {β : Type} {K : PySem.W.Frag} {mg : Str → Option Value} {g : G β} {W : WX} {H0 H H0' H' : Hp} {σ : L2.St} {s s' : S β} {v : V} {r : RV} {bx : Addr} {Q : VK}
theorem Grow.refl (h : Ex H0 H) : Grow H0 H H0 H := ⟨Ex.refl _, Ex.refl _, h, fun _ _ h => .inl h⟩
theorem Fin.val {d : D} (f : Fin K bx H0 H (.v d) Q) (h : Ex H0 H) (rr : Rep K bx H0 v d) : Q v H := f v H0 H (Grow.refl h) rr
theorem Fin.lst {ds : List D} {vs : List V} {p : Addr} (f : Fin K bx H0 H (.o ds) Q) (h : Ex H0 H) (rr : Reps K bx H0 vs ds) (hp : H p = none) : Q (.ref p) (upd H p (.lst vs)) :=
  f _ H0 _ ⟨Ex.refl _, Ex.new hp, h.trans (Ex.new hp), fun _ _ h => .inl h⟩ ⟨p, vs, rfl, hp, upd_same, rr, h.back hp⟩
theorem Fin.tup {ds : List D} {vs : List V} {p : Addr} (f : Fin K bx H0 H (.v (.tup ds)) Q) (h : Ex H0 H) (rr : Reps K bx H0 vs ds) (hp : H p = none) : Q (.ref p) (upd H p (.tup vs)) := by
  have n0 := h.back hp
  refine f _ (upd H0 p (.tup vs)) _ ⟨Ex.new n0, Ex.new hp, fun a o e => ?_, fun a o e => ?_⟩ (.tupR (.of upd_same) (rr.mono (Ex.new n0)))
  · by_cases ha : a = p
    · subst ha; rw [upd_same] at e ⊢; exact e
    · rw [upd_ne ha] at e ⊢; exact h a o e
  · by_cases ha : a = p
    · subst ha; exact .inr hp
    · rw [upd_ne ha] at e; exact .inl e
/-- a grown state, its new value -/
theorem Rel.fin (R : Rel K g H0 σ H s) (gr : Grow H0 H H0' H') (nw : NewR K g.bx H0' H H' v r) : Rel K g H0' σ H' s ∧ ResR K g H0' H' v r ∧ Apart σ s.sl v r := by
  refine ⟨R.grow gr.e0 gr.e gr.sub gr.new, ?_, ?_⟩
  · cases r with
    | v d => exact nw
    | o ds =>
      obtain ⟨p, vs, rfl, hp, hp', rs, n0⟩ := nw
      refine ⟨p, vs, rfl, hp', rs, n0, ?_, fun z => ?_⟩
      · cases q : g.F p with
        | none => rfl
        | some o => rw [R.r0.frm _ _ q] at hp; cases hp
      · obtain ⟨o, hb, _⟩ := R.r0.it
        rw [z, hb] at hp; cases hp
  · cases r with
    | v d => trivial
    | o ds =>
      obtain ⟨p, vs, rfl, hp, hp', rs, n0⟩ := nw
      intro i es q e1 h1 h2
      cases e1
      have z := R.slot i _ _ h1 h2
      obtain ⟨q, ws, e2, e3, _⟩ := z
      cases e2
      rw [hp] at e3; cases e3
end

/-! ### the rules -/
section
variable {β : Type} {X : Cx} {g : G β} {W : WX} {a b c e : Expr} {m ma mb mc : M β RV} {pos : Pos}
/-- a value that is read -/
def rdV (i : Nat) : M β RV := fun s => match s.sl[i]? with
  | some (.v d) => .ok (.v d) s
  | some (.o ds) => .ok (.v (.lst ds)) { s with sl := s.sl.set i (.v (.lst ds)) }
  | _ => .bad
def cst (d : D) : M β RV := mret (.v d)
theorem e_c {v : V} {d : D} (h : PE X e (tC v)) (r : ∀ H0, Rep X.K g.bx H0 v d) : PEM X g W e (cst d) := PE.imp h fun σ H Q ⟨H0, s, R, q⟩ => q v H0 H (Ex.refl _) R (r H0) trivial
theorem e_int {i : Int} {j} : PEM X g W (.Constant (.int i) j pos) (cst (.int i)) := e_c pe_int fun _ => .int
theorem e_bl {k : Bool} {j} : PEM X g W (.Constant (.bool k) j pos) (cst (.bl k)) := e_c pe_bl fun _ => .bl
theorem e_non {j} : PEM X g W (.Constant .none j pos) (cst .non) := e_c pe_non fun _ => .non
theorem e_str {x j} : PEM X g W (.Constant (.str x) j pos) (cst (.str x)) := e_c pe_str fun _ => .str
theorem e_v (i : Nat) {x : Str} (hN : X.N[i]? = some x := by rfl) (hv : Vis X.env.scope x := by first | exact Or.inl rfl | exact Or.inr (Or.inl rfl) | exact Or.inr (Or.inr rfl)) (hd : (x == ("__debug__" : Str)) = false := by decide)
    (hcd : (x == ("__classdict__" : Str)) = false := by decide) : PEM X g W (.Name x pos) (rdV i) := by
  refine PE.imp (pe_var hN hv hd hcd) fun σ H Q ⟨H0, s, R, q⟩ => ?_
  unfold rdV at q
  cases hs : s.sl[i]? with
  | none => rw [hs] at q; exact q.elim
  | some k =>
    rw [hs] at q
    have hi : i < σ.length := by
      rw [← R.len]; exact (List.getElem?_eq_some_iff.mp hs).1
    have sr := R.slot i k σ[i] hs (by simp [hi])
    cases k with
    | no => exact q.elim
    | v d =>
      obtain ⟨y, e1, r⟩ := sr
      exact ⟨y, by simp [hi, e1], q y H0 H (Ex.refl _) R r trivial⟩
    | o ds =>
      obtain ⟨p, vs, e1, hp, rs, n0, nF, nb⟩ := sr
      have hx : σ[i]? = some (some (V.ref p)) := by simp [hi, e1]
      -- the slot's list is let go
      have R1 : Rel X.K g H0 σ H { s with sl := s.sl.set i .no } := ⟨R.r0, by simpa using R.len, fun j k x h1 h2 => by
        by_cases hj : i = j
        · subst hj
          rw [List.getElem?_set_self (by rw [R.len]; exact hi)] at h1
          cases h1; trivial
        · rw [List.getElem?_set_ne hj] at h1
          exact R.slot j k x h1 h2, fun j l ds es p h1 h2 => by
        by_cases hj : i = j
        · subst hj
          have h1 : (s.sl.set i Slot.no)[i]? = some (.o ds) := h1
          rw [List.getElem?_set_self (by rw [R.len]; exact hi)] at h1
          cases h1
        · by_cases hl : i = l
          · subst hl
            have h2 : (s.sl.set i Slot.no)[i]? = some (.o es) := h2
            rw [List.getElem?_set_self (by rw [R.len]; exact hi)] at h2
            cases h2
          · have h1 : (s.sl.set i Slot.no)[j]? = some (.o ds) := h1
            have h2 : (s.sl.set i Slot.no)[l]? = some (.o es) := h2
            rw [List.getElem?_set_ne hj] at h1
            rw [List.getElem?_set_ne hl] at h2
            exact R.dist j l ds es p h1 h2⟩
      have ap : Apart σ (s.sl.set i .no) (.ref p) (.o ds) := fun j es q e2 h1 h2 => by
        cases e2
        by_cases hj : i = j
        · subst hj
          rw [List.getElem?_set_self (by rw [R.len]; exact hi)] at h1
          cases h1
        · rw [List.getElem?_set_ne hj] at h1
          exact hj (R.dist i j ds es p hs h1 hx h2)
      obtain ⟨H1, e1', R2, rp⟩ := freeze (r := .o ds) (v := .ref p) R1 ⟨p, vs, rfl, hp, rs, n0, nF, nb⟩ ap
      refine ⟨.ref p, hx, q _ H1 H e1' ⟨R2.r0, by simpa using R.len, fun j k x h1 h2 => ?_, fun j l ds' es q h1 h2 h3 h4 => ?_⟩ rp trivial⟩
      · have h1 : (s.sl.set i (.v (.lst ds)))[j]? = some k := h1
        by_cases hj : i = j
        · subst hj
          rw [List.getElem?_set_self (by rw [R.len]; exact hi)] at h1
          cases h1
          rw [hx] at h2; cases h2
          exact ⟨_, rfl, rp⟩
        · rw [List.getElem?_set_ne hj] at h1
          exact R2.slot j k x (by show (s.sl.set i Slot.no)[j]? = some k; rw [List.getElem?_set_ne hj]; exact h1) h2
      · have h1 : (s.sl.set i (.v (.lst ds)))[j]? = some (.o ds') := h1
        have h2 : (s.sl.set i (.v (.lst ds)))[l]? = some (.o es) := h2
        by_cases hj : i = j
        · subst hj
          rw [List.getElem?_set_self (by rw [R.len]; exact hi)] at h1
          cases h1
        · by_cases hl : i = l
          · subst hl
            rw [List.getElem?_set_self (by rw [R.len]; exact hi)] at h2
            cases h2
          · rw [List.getElem?_set_ne hj] at h1
            rw [List.getElem?_set_ne hl] at h2
            exact R.dist j l ds' es q h1 h2 h3 h4
end
end DL

set_option Elab.async false
set_option linter.all false
set_option maxRecDepth 100000
namespace DL
open PySem PySem.Spec L2
/-! ### operations on data -/
def asB : D → Option Bool
  | .bl b => some b
  | _ => none
theorem asB_eq {d : D} {b : Bool} (h : asB d = some b) : d = .bl b := by
  unfold asB at h
  split at h
  · cases h; rfl
  · cases h
def mIte {β α : Type} (b : Bool) (x y : M β α) : M β α := fun s => match b with
  | true => x s
  | false => y s
def mulOk (i j : Int) : Bool := decide (i.natAbs.log2 + j.natAbs.log2 < 1000000)
def addD : D → D → Option RV
  | .int i, .int j => some (.v (.int (i + j)))
  | .str x, .str y => if x.length + y.length ≤ sizeLine then some (.v (.str (x ++ y))) else none
  | .tup xs, .tup ys => if xs.length + ys.length ≤ sizeLine then some (.v (.tup (xs ++ ys))) else none
  | .lst xs, .lst ys => if xs.length + ys.length ≤ sizeLine then some (.o (xs ++ ys)) else none
  | _, _ => none
def subD : D → D → Option RV
  | .int i, .int j => some (.v (.int (i - j)))
  | _, _ => none
def mulD : D → D → Option RV
  | .int i, .int j => if mulOk i j then some (.v (.int (i * j))) else none
  | .lst xs, .int k => if -(2 ^ 63) ≤ k ∧ k < 2 ^ 63 ∧ xs.length * k.toNat ≤ sizeLine then some (.o (List.replicate k.toNat xs).flatten) else none
  | _, _ => none
def fdivD : D → D → Option RV
  | .int i, .int j => if 0 < j ∧ j.natAbs.log2 < 9000 then some (.v (.int (i / j))) else none
  | _, _ => none
def modD : D → D → Option RV
  | .int i, .int j => if 0 < j then some (.v (.int (i % j))) else none
  | _, _ => none
def powD : D → D → Option RV
  | .int i, .int j => if 0 ≤ j ∧ j ≤ 1000000 ∧ i.natAbs < 2 ^ 64 then some (.v (.int (i ^ j.toNat))) else none
  | _, _ => none
def negD : D → Option RV
  | .int i => some (.v (.int (-i)))
  | _ => none
def cmpD (p : Int → Int → Bool) : D → D → Option RV
  | .int i, .int j => some (.v (.bl (p i j)))
  | _, _ => none
def ltD := cmpD fun i j => decide (i < j)
def leD := cmpD fun i j => decide (i ≤ j)
def gtD := cmpD fun i j => decide (j < i)
def geD := cmpD fun i j => decide (j ≤ i)
mutual
def toPy : D → Option PyData
  | .non => some .none
  | .bl b => some (.bool b)
  | .int i => some (.int i)
  | .str x => some (.str x)
  | .tup xs => (toPys xs).map .tuple
  | .lst xs => (toPys xs).map .list
  | .box => none
def toPys : List D → Option (List PyData)
  | [] => some []
  | d :: ds => match toPy d, toPys ds with
    | some p, some ps => some (p :: ps)
    | _, _ => none
end
def eqD (d e : D) : Option RV := match toPy d, toPy e with
  | some a, some b => if SeqAt.shaped a ∧ SeqAt.shaped b then some (.v (.bl (PyData.eqv a b))) else none
  | _, _ => none
def neD (d e : D) : Option RV := match toPy d, toPy e with
  | some a, some b => if SeqAt.shaped a ∧ SeqAt.shaped b then some (.v (.bl (!PyData.eqv a b))) else none
  | _, _ => none
def isND : D → Option RV
  | .non => some (.v (.bl true))
  | _ => some (.v (.bl false))
def notND : D → Option RV
  | .non => some (.v (.bl false))
  | _ => some (.v (.bl true))
def ixD : D → D → Option RV
  | .lst ds, .int i => (atI ds i).map .v
  | .tup ds, .int i => (atI ds i).map .v
  | .str z, .int i => if z.length ≤ sizeLine then (atI z.cps.toList i).map fun c => .v (.str ⟨#[c]⟩) else none
  | _, _ => none
section
variable {K : PySem.W.Frag} {bx : Addr} {H0 H : Hp} {v : V} {d : D}
theorem dpAll : ∀ {vs : List V} {ds : List D} {ps : List PyData}, (∀ (i : Nat) (v : V) (d : D), vs[i]? = some v → ds[i]? = some d → ∀ p, toPy d = some p → Dp K H v p) → vs.length = ds.length → toPys ds = some ps → DpAll K H vs ps
  | [], [], ps, _, _, h => by
    unfold toPys at h; cases h; exact .nil
  | v :: vs, d :: ds, ps, hi, hl, h => by
    unfold toPys at h
    cases e1 : toPy d with
    | none => rw [e1] at h; cases h
    | some p =>
      cases e2 : toPys ds with
      | none => rw [e1, e2] at h; cases h
      | some qs =>
        rw [e1, e2] at h; cases h
        exact .cons (hi 0 v d rfl rfl p e1) (dpAll (fun i w e h1 h2 => hi (i + 1) w e (by simpa using h1) (by simpa using h2)) (by simpa using hl) e2)
  | [], _ :: _, _, _, hl, _ => by simp at hl
  | _ :: _, [], _, _, hl, _ => by simp at hl
theorem Rep.dp (r : Rep K bx H v d) : ∀ p, toPy d = some p → Dp K H v p := by
  induction r with
  | non => intro p h; unfold toPy at h; cases h; exact .non
  | bl => intro p h; unfold toPy at h; cases h; exact .bl _
  | int => intro p h; unfold toPy at h; cases h; exact .int _
  | str => intro p h; unfold toPy at h; cases h; exact .str _
  | tup h l _ ih =>
    intro p hp
    unfold toPy at hp
    simp only [Option.map_eq_some_iff] at hp
    obtain ⟨ps, e, rfl⟩ := hp
    exact .tup h (dpAll ih l e)
  | lst h l _ ih =>
    intro p hp
    unfold toPy at hp
    simp only [Option.map_eq_some_iff] at hp
    obtain ⟨ps, e, rfl⟩ := hp
    exact .lst (.of h) (dpAll ih l e)
  | box => intro p h; unfold toPy at h; cases h
end
def OpOk (K : PySem.W.Frag) (r : R2) (f : D → D → Option RV) : Prop := ∀ bx H0 H x y dx dy rz Q, Ex H0 H → Rep K bx H0 x dx → Rep K bx H0 y dy → f dx dy = some rz → Fin K bx H0 H rz Q → r x y H Q
def UnOk (K : PySem.W.Frag) (r : V → Hp → VK → Prop) (f : D → Option RV) : Prop := ∀ bx H0 H x dx rz Q, Ex H0 H → Rep K bx H0 x dx → f dx = some rz → Fin K bx H0 H rz Q → r x H Q
def CallOk (K : PySem.W.Frag) (r : List V → Hp → VK → Prop) (f : List D → Option RV) : Prop := ∀ bx H0 H xs dxs rz Q, Ex H0 H → Reps K bx H0 xs dxs → f dxs = some rz → Fin K bx H0 H rz Q → r xs H Q
section
variable {β : Type} {K : PySem.W.Frag} {mg : Str → Option Value} {g : G β} {W : WX} {H : Hp} {σ : L2.St} {Q : VK}
def eBin (f : D → D → Option RV) (ma mb : M β RV) : M β RV := mbind ma fun x => mbind mb fun y => opt (f x.d y.d)
def eUn (f : D → Option RV) (ma : M β RV) : M β RV := mbind ma fun x => opt (f x.d)
def eApp (f : List D → Option RV) (ma : M β (List D)) : M β RV := mbind ma fun x => opt (f x)
theorem fin_of2 {H0' H' : Hp} {s : S β} {r : RV} {Q : VK} (R : Rel K g H0' σ H' s) (h : ∀ v H1 H2, Ex H0' H1 → Rel K g H1 σ H2 s → ResR K g H1 H2 v r → Apart σ s.sl v r → Q v H2) : Fin K g.bx H0' H' r Q := fun v H1 H2 gr nw => by
  obtain ⟨R2, rr, ap⟩ := R.fin gr nw
  exact h v H1 H2 gr.e0 R2 rr ap
theorem fin_of {H0 H0' H' : Hp} {s : S β} {r : RV} {Q : VK} (R : Rel K g H0' σ H' s) (e0 : Ex H0 H0') (h : ∀ v H1 H2, Ex H0 H1 → Rel K g H1 σ H2 s → ResR K g H1 H2 v r → Apart σ s.sl v r → Q v H2) : Fin K g.bx H0' H' r Q :=
  fin_of2 R fun v H1 H2 e R2 rr ap => h v H1 H2 (e0.trans e) R2 rr ap
theorem bin_tE {r : R2} {f : D → D → Option RV} {ma mb : M β RV} (ok : OpOk K r f) (h : tE K mg g W (eBin f ma mb) σ H Q) : tOp r (tD K mg g W ma) (tD K mg g W mb) σ H Q := by
  obtain ⟨H0, s, R, h⟩ := h
  unfold eBin at h
  rw [on_bind] at h
  refine ⟨H0, s, R, Out.on_imp h (fun x s1 h v H1 Hr1 e1 R1 r1 => ?_) fun _ _ q => q⟩
  rw [on_bind] at h
  refine ⟨H1, s1, R1, Out.on_imp h (fun y s2 h u H2 Hr2 e2 R2 r2 => ?_) fun _ _ q => q.back e1⟩
  rw [on_opt] at h
  obtain ⟨rz, ez, h⟩ := h
  exact ok g.bx H2 Hr2 v u x.d y.d rz Q R2.r0.sub (r1.mono e2) r2 ez (fin_of R2 (e1.trans e2) h)
theorem un_tE {r : V → Hp → VK → Prop} {f : D → Option RV} {ma : M β RV} (ok : UnOk K r f) (h : tE K mg g W (eUn f ma) σ H Q) : tUn r (tD K mg g W ma) σ H Q := by
  obtain ⟨H0, s, R, h⟩ := h
  unfold eUn at h
  rw [on_bind] at h
  refine ⟨H0, s, R, Out.on_imp h (fun x s1 h v H1 Hr1 e1 R1 r1 => ?_) fun _ _ q => q⟩
  rw [on_opt] at h
  obtain ⟨rz, ez, h⟩ := h
  exact ok g.bx H1 Hr1 v x.d rz Q R1.r0.sub r1 ez (fin_of R1 e1 h)
theorem app_tE {r : List V → Hp → VK → Prop} {f : List D → Option RV} {ma : M β (List D)} (ok : CallOk K r f) (h : tE K mg g W (eApp f ma) σ H Q) : tCB r (tA' K mg g W ma) σ H Q := by
  obtain ⟨H0, s, R, h⟩ := h
  unfold eApp at h
  rw [on_bind] at h
  refine ⟨H0, s, R, Out.on_imp h (fun x s1 h v H1 Hr1 e1 R1 r1 => ?_) fun _ _ q => q⟩
  rw [on_opt] at h
  obtain ⟨rz, ez, h⟩ := h
  exact ok g.bx H1 Hr1 v x rz Q R1.r0.sub r1 ez (fin_of R1 e1 h)
end
section
variable {K : PySem.W.Frag}
theorem OpOk.int {C : Int → Int → Prop} {h : Int → Int → V} {f : D → D → Option RV} (hf : ∀ dx dy rz, f dx dy = some rz → ∃ i j, dx = .int i ∧ dy = .int j ∧ C i j ∧ ∃ d, rz = .v d ∧ ∀ bx H, Rep K bx H (h i j) d) : OpOk K (rI C h) f := fun bx H0 H x y dx dy rz Q sub rx ry e k => by
  obtain ⟨i, j, rfl, rfl, c, d, rfl, rr⟩ := hf dx dy rz e
  cases rx; cases ry
  exact ⟨i, j, rfl, rfl, c, k.val sub (rr _ _)⟩
theorem OpOk.int0 {h : Int → Int → V} {f : D → D → Option RV} (hf : ∀ dx dy rz, f dx dy = some rz → ∃ i j, dx = .int i ∧ dy = .int j ∧ ∃ d, rz = .v d ∧ ∀ bx H, Rep K bx H (h i j) d) : OpOk K (rI0 h) f := fun bx H0 H x y dx dy rz Q sub rx ry e k => by
  obtain ⟨i, j, rfl, rfl, d, rfl, rr⟩ := hf dx dy rz e
  cases rx; cases ry
  exact ⟨i, j, rfl, rfl, k.val sub (rr _ _)⟩
theorem ok_sub : OpOk K (rI0 fun i j => .int (i - j)) subD := .int0 fun dx dy rz e => by
  unfold subD at e
  split at e
  · cases e; exact ⟨_, _, rfl, rfl, _, rfl, fun _ _ => .int⟩
  · cases e
theorem ok_fdiv : OpOk K (rI CDivW fun i j => .int (i / j)) fdivD := .int fun dx dy rz e => by
  unfold fdivD at e
  split at e
  · split at e
    · rename_i h; cases e; exact ⟨_, _, rfl, rfl, h, _, rfl, fun _ _ => .int⟩
    · cases e
  · cases e
theorem ok_mod : OpOk K (rI (fun _ j => 0 < j) fun i j => .int (i % j)) modD := .int fun dx dy rz e => by
  unfold modD at e
  split at e
  · split at e
    · rename_i h; cases e; exact ⟨_, _, rfl, rfl, h, _, rfl, fun _ _ => .int⟩
    · cases e
  · cases e
theorem ok_pow : OpOk K (rI CPow fun i j => .int (i ^ j.toNat)) powD := .int fun dx dy rz e => by
  unfold powD at e
  split at e
  · split at e
    · rename_i h; cases e; exact ⟨_, _, rfl, rfl, h, _, rfl, fun _ _ => .int⟩
    · cases e
  · cases e
theorem ok_cmp {p : Int → Int → Bool} : OpOk K (rI0 fun i j => .bl (p i j)) (cmpD p) := .int0 fun dx dy rz e => by
  unfold cmpD at e
  split at e
  · cases e; exact ⟨_, _, rfl, rfl, _, rfl, fun _ _ => .bl⟩
  · cases e
theorem ok_eq : OpOk K (rEqD K) eqD := fun bx H0 H x y dx dy rz Q sub rx ry e k => by
  unfold eqD at e
  split at e
  · rename_i a b ea eb
    split at e
    · rename_i hs
      cases e
      exact ⟨a, b, (rx.mono sub).dp a ea, (ry.mono sub).dp b eb, hs.1, hs.2, k.val sub .bl⟩
    · cases e
  · cases e
theorem ok_ne : OpOk K (rNeD K) neD := fun bx H0 H x y dx dy rz Q sub rx ry e k => by
  unfold neD at e
  split at e
  · rename_i a b ea eb
    split at e
    · rename_i hs
      cases e
      exact ⟨a, b, (rx.mono sub).dp a ea, (ry.mono sub).dp b eb, hs.1, hs.2, k.val sub .bl⟩
    · cases e
  · cases e
def rAddU (K : PySem.W.Frag) : R2 := fun x y H Q => rI0 (fun i j => .int (i + j)) x y H Q ∨ (∃ i j, x = .str i ∧ y = .str j ∧ i.length + j.length ≤ sizeLine ∧ Q (.str (i ++ j)) H) ∨ rCatA K x y H Q ∨ rCat x y H Q
theorem op_addU {X : Cx} : OpR X (binaryOp .Add) (rAddU X.K) := op_add.or (op_add_str.or (op_catA.or op_cat))
theorem ok_add : OpOk K (rAddU K) addD := fun bx H0 H x y dx dy rz Q sub rx ry e k => by
  unfold addD at e
  split at e
  · cases e; cases rx; cases ry; exact .inl ⟨_, _, rfl, rfl, k.val sub .int⟩
  · split at e
    · rename_i h; cases e; cases rx; cases ry; exact .inr (.inl ⟨_, _, rfl, rfl, h, k.val sub .str⟩)
    · cases e
  · split at e
    · rename_i xs ys h
      cases e
      cases rx with
      | tup hx lx gx =>
        cases ry with
        | tup hy ly gy =>
          have rx' : Reps K bx H0 _ xs := ⟨lx, gx⟩
          have ry' : Reps K bx H0 _ ys := ⟨ly, gy⟩
          refine .inr (.inr (.inl ⟨_, _, _, _, rfl, rfl, sub.t hx, sub.t hy, by rw [lx, ly]; exact h, fun e => ?_, fun _ e => ?_, fun _ _ p hp => k.tup sub (rx'.append ry') hp⟩))
          · subst e
            have : xs = [] := List.eq_nil_of_length_eq_zero (by rw [← lx]; rfl)
            subst this
            exact k.val sub (.tup hy ly gy)
          · subst e
            have : ys = [] := List.eq_nil_of_length_eq_zero (by rw [← ly]; rfl)
            subst this
            rw [List.append_nil] at k
            exact k.val sub (.tup hx lx gx)
    · cases e
  · split at e
    · rename_i xs ys h
      cases e
      cases rx with
      | lst hx lx gx =>
        cases ry with
        | lst hy ly gy =>
          have rx' : Reps K bx H0 _ xs := ⟨lx, gx⟩
          have ry' : Reps K bx H0 _ ys := ⟨ly, gy⟩
          exact .inr (.inr (.inr ⟨_, _, _, _, rfl, rfl, sub _ _ hx, sub _ _ hy, by rw [lx, ly]; exact h, fun p hp => k.lst sub (rx'.append ry') hp⟩))
    · cases e
  · cases e
def rMulU (K : PySem.W.Frag) : R2 := fun x y H Q => rI CMulW (fun i j => .int (i * j)) x y H Q ∨ rRep x y H Q
theorem op_mulU {X : Cx} : OpR X (binaryOp .Mult) (rMulU X.K) := op_mulW.or op_rep
theorem reps_flat {bx : Addr} {H : Hp} {vs : List V} {ds : List D} (r : Reps K bx H vs ds) : ∀ n : Nat, Reps K bx H (List.replicate n vs).flatten (List.replicate n ds).flatten
  | 0 => .nil
  | n + 1 => by
    rw [List.replicate_succ, List.replicate_succ, List.flatten_cons, List.flatten_cons]
    exact r.append (reps_flat r n)
theorem ok_mul : OpOk K (rMulU K) mulD := fun bx H0 H x y dx dy rz Q sub rx ry e k => by
  unfold mulD at e
  split at e
  · split at e
    · rename_i h; cases e; cases rx; cases ry; exact .inl ⟨_, _, rfl, rfl, (show _ < 1000000 from of_decide_eq_true h), k.val sub .int⟩
    · cases e
  · split at e
    · rename_i xs kk h
      cases e; cases ry
      cases rx with
      | lst hx lx gx =>
        refine .inr ⟨_, _, _, rfl, rfl, sub _ _ hx, h.1, h.2.1, by rw [lx]; exact h.2.2, fun p hp => ?_⟩
        first
          | exact k.lst sub (reps_flat ⟨lx, gx⟩ _) hp
          | skip
    · cases e
  · cases e
end
end DL

set_option Elab.async false
set_option linter.all false
set_option maxRecDepth 100000
namespace DL
open PySem PySem.Spec L2
theorem ok_mul' {K : PySem.W.Frag} : OpOk K (rMulU K) mulD := ok_mul
/-! ### operators -/
section
variable {β : Type} {X : Cx} {g : G β} {W : WX} {a b c e : Expr} {m ma mb mc : M β RV} {pos : Pos} {op : CmpOp} {op2 : Operator} {r r' : R2} {f f' : D → D → Option RV}
theorem e_bin (ho : OpR X (binaryOp op2) r) (ok : OpOk X.K r f) (ha : PEM X g W a ma) (hb : PEM X g W b mb) : PEM X g W (.BinOp a op2 b pos) (eBin f ma mb) := PE.imp (pe_op ho ha.d hb.d) fun _ _ _ => bin_tE ok
theorem e_add (ha : PEM X g W a ma) (hb : PEM X g W b mb) : PEM X g W (.BinOp a .Add b pos) (eBin addD ma mb) := e_bin op_addU ok_add ha hb
theorem e_sub (ha : PEM X g W a ma) (hb : PEM X g W b mb) : PEM X g W (.BinOp a .Sub b pos) (eBin subD ma mb) := e_bin op_sub ok_sub ha hb
theorem e_mul (ha : PEM X g W a ma) (hb : PEM X g W b mb) : PEM X g W (.BinOp a .Mult b pos) (eBin mulD ma mb) := e_bin op_mulU ok_mul ha hb
theorem e_fdiv (ha : PEM X g W a ma) (hb : PEM X g W b mb) : PEM X g W (.BinOp a .FloorDiv b pos) (eBin fdivD ma mb) := e_bin op_fdivW ok_fdiv ha hb
theorem e_mod (ha : PEM X g W a ma) (hb : PEM X g W b mb) : PEM X g W (.BinOp a .Mod b pos) (eBin modD ma mb) := e_bin op_mod ok_mod ha hb
theorem e_pow (ha : PEM X g W a ma) (hb : PEM X g W b mb) : PEM X g W (.BinOp a .Pow b pos) (eBin powD ma mb) := e_bin op_pow ok_pow ha hb
theorem ok_neg {K : PySem.W.Frag} : UnOk K (rU fun i => .int (-i)) negD := fun bx H0 H x dx rz Q sub rx e k => by
  unfold negD at e
  split at e
  · cases e; cases rx; exact ⟨_, rfl, k.val sub .int⟩
  · cases e
theorem e_neg (ha : PEM X g W a ma) : PEM X g W (.UnaryOp .USub a pos) (eUn negD ma) := PE.imp (pe_un un_neg ha.d) fun _ _ _ => un_tE ok_neg

/-! ### comparisons -/
structure Cmp (X : Cx) (op : CmpOp) (f : D → D → Option RV) : Prop where
  ex : ∃ r, OpR X (compareOp op) r ∧ OpOk X.K r f
theorem c_lt : Cmp X .Lt ltD := ⟨_, op_lt, ok_cmp⟩
theorem c_le : Cmp X .LtE leD := ⟨_, op_le, ok_cmp⟩
theorem c_gt : Cmp X .Gt gtD := ⟨_, op_gt, ok_cmp⟩
theorem c_ge : Cmp X .GtE geD := ⟨_, op_ge, ok_cmp⟩
theorem c_eq (hu : X.A.units + 64 < cLine) : Cmp X .Eq eqD := ⟨_, op_eqD hu, ok_eq⟩
theorem c_ne (hu : X.A.units + 64 < cLine) : Cmp X .NotEq neD := ⟨_, op_neD hu, ok_ne⟩
def tstB (m : M β RV) : M β Bool := mbind m fun r => opt (asB r.d)
theorem res_bl {K : PySem.W.Frag} {g : G β} {H0 H : Hp} {v : V} {r : RV} {b : Bool} (h : ResR K g H0 H v r) (e : r.d = .bl b) : v = .bl b := by
  cases r with
  | v d =>
    have e : d = .bl b := e
    subst e
    cases h; rfl
  | o ds => cases e
theorem tst_tE {K : PySem.W.Frag} {mg : Str → Option Value} {H : Hp} {σ : L2.St} {Q : Bool → Hp → Prop} (h : tT' K mg g W (tstB m) σ H Q) : tE K mg g W m σ H fun x H' => ∃ k, x = .bl k ∧ Q k H' := by
  obtain ⟨H0, s, R, h⟩ := h
  unfold tstB at h
  rw [on_bind] at h
  refine ⟨H0, s, R, Out.on_imp h (fun r s1 h v H1 H2 e R1 rr ap => ?_) fun _ _ q => q⟩
  rw [on_opt] at h
  obtain ⟨b, eb, h⟩ := h
  exact ⟨b, res_bl rr (asB_eq eb), h H1 H2 e R1⟩
theorem e_cmp (hc : Cmp X op f) (ha : PEM X g W a ma) (hb : PEM X g W b mb) (hm : behindInMarks op b = false := by first | exact nomark _ | rfl) : PEM X g W (.Compare a [op] [b] pos) (eBin f ma mb) := by
  obtain ⟨r, ho, ok⟩ := hc.ex
  exact PE.imp (pe_cmpR ho ha.d hb.d hm) fun _ _ _ => bin_tE ok
theorem t_cmp (hc : Cmp X op f) (ha : PEM X g W a ma) (hb : PEM X g W b mb) (hm : behindInMarks op b = false := by first | exact nomark _ | rfl) : PTM X g W (.Compare a [op] [b] pos) (tstB (eBin f ma mb)) := by
  obtain ⟨r, ho, ok⟩ := hc.ex
  exact PT.imp (pt_cmpR ho ha.d hb.d hm) fun _ _ _ h => bin_tE ok (tst_tE h)
theorem is_tE {K : PySem.W.Frag} {mg : Str → Option Value} {H : Hp} {σ : L2.St} {Q : VK} {p : Bool → Bool} {f : D → Option RV} (hf : ∀ d rz, f d = some rz → ∀ (v : V) (bx : Addr) (H : Hp), Rep K bx H v d → rz = .v (.bl (p (decide (v = .non))))) (h : tE K mg g W (eUn f m) σ H Q) : tD K mg g W m σ H fun x H1 => Q (.bl (p (decide (x = .non)))) H1 := by
  obtain ⟨H0, s, R, h⟩ := h
  unfold eUn at h
  rw [on_bind] at h
  refine ⟨H0, s, R, Out.on_imp h (fun r s1 h v H1 H2 e R1 rr => ?_) fun _ _ q => q⟩
  rw [on_opt] at h
  obtain ⟨rz, ez, h⟩ := h
  have := hf _ _ ez v _ _ rr
  subst this
  exact h _ H1 H2 e R1 .bl trivial
theorem isN_ok {K : PySem.W.Frag} (d : D) (rz : RV) (h : isND d = some rz) (v : V) (bx : Addr) (H : Hp) (r : Rep K bx H v d) : rz = .v (.bl (id (decide (v = .non)))) := by
  cases r <;> (unfold isND at h; cases h; simp)
theorem notN_ok {K : PySem.W.Frag} (d : D) (rz : RV) (h : notND d = some rz) (v : V) (bx : Addr) (H : Hp) (r : Rep K bx H v d) : rz = .v (.bl (!(decide (v = .non)))) := by
  cases r <;> (unfold notND at h; cases h; simp)
theorem e_isN {j pos'} (ha : PEM X g W a ma) : PEM X g W (.Compare a [.Is] [.Constant .none j pos'] pos) (eUn isND ma) := PE.imp (pe_cmp (pc_isN ha.d)) fun _ _ _ h => is_tE (p := id) isN_ok h
theorem e_notN {j pos'} (ha : PEM X g W a ma) : PEM X g W (.Compare a [.IsNot] [.Constant .none j pos'] pos) (eUn notND ma) := PE.imp (pe_cmp (pc_notN ha.d)) fun _ _ _ h => is_tE (p := not) notN_ok h
theorem t_isN {j pos'} (ha : PEM X g W a ma) : PTM X g W (.Compare a [.Is] [.Constant .none j pos'] pos) (tstB (eUn isND ma)) := PT.imp (pt_cmp (pc_isN ha.d)) fun _ _ _ h => is_tE (p := id) isN_ok (tst_tE h)
theorem t_notN {j pos'} (ha : PEM X g W a ma) : PTM X g W (.Compare a [.IsNot] [.Constant .none j pos'] pos) (tstB (eUn notND ma)) := PT.imp (pt_cmp (pc_notN ha.d)) fun _ _ _ h => is_tE (p := not) notN_ok (tst_tE h)
/-- a op b op' c -/
def eChain (f f' : D → D → Option RV) (ma mb mc : M β RV) : M β RV := mbind ma fun x => mbind mb fun y => mbind (opt (f x.d y.d)) fun z => mbind (opt (asB z.d)) fun k => mIte k (mbind mc fun w => opt (f' y.d w.d)) (mret (.v (.bl false)))
theorem chain_tE {K : PySem.W.Frag} {mg : Str → Option Value} {H : Hp} {σ : L2.St} {Q : VK} (ok : OpOk K r f) (ok' : OpOk K r' f') (h : tE K mg g W (eChain f f' ma mb mc) σ H Q) : tChain r r' (tD K mg g W ma) (tD K mg g W mb) (tD K mg g W mc) σ H Q := by
  obtain ⟨H0, s, R, h⟩ := h
  unfold eChain at h
  rw [on_bind] at h
  refine ⟨H0, s, R, Out.on_imp h (fun x s1 h v H1 Hr1 e1 R1 r1 => ?_) fun _ _ q => q⟩
  rw [on_bind] at h
  refine ⟨H1, s1, R1, Out.on_imp h (fun y s2 h u H2 Hr2 e2 R2 r2 => ?_) fun _ _ q => q.back e1⟩
  rw [on_bind, on_opt] at h
  obtain ⟨rz, ez, h⟩ := h
  rw [on_bind, on_opt] at h
  obtain ⟨k, ek, h⟩ := h
  refine ok g.bx H2 Hr2 v u x.d y.d rz _ R2.r0.sub (r1.mono e2) r2 ez (fin_of2 R2 fun z H3 Hr3 e3 R3 rr ap => ⟨k, res_bl rr (asB_eq ek), ?_⟩)
  cases k with
  | true =>
    rw [if_pos rfl]
    have h : (mbind mc (fun w => opt (f' y.d w.d)) s2).on _ _ := h
    rw [on_bind] at h
    refine ⟨H3, s2, R3, Out.on_imp h (fun w s3 h w' H4 Hr4 e4 R4 r4 => ?_) fun _ _ q => q.back ((e1.trans e2).trans e3)⟩
    rw [on_opt] at h
    obtain ⟨rz', ez', h⟩ := h
    exact ok' g.bx H4 Hr4 u w' y.d w.d rz' _ R4.r0.sub (r2.mono (e3.trans e4)) r4 ez' (fin_of R4 (((e1.trans e2).trans e3).trans e4) h)
  | false =>
    rw [if_neg Bool.false_ne_true]
    exact h _ H3 Hr3 ((e1.trans e2).trans e3) R3 .bl trivial
theorem e_chain {op op' : CmpOp} (h1 : Cmp X op f) (h2 : Cmp X op' f') (ha : PEM X g W a ma) (hb : PEM X g W b mb) (hc : PEM X g W c mc) (hm : lastMarks [op, op'] [b, c] = false := by with_unfolding_all rfl) : PEM X g W (.Compare a [op, op'] [b, c] pos) (eChain f f' ma mb mc) := by
  obtain ⟨r, ho, ok⟩ := h1.ex
  obtain ⟨r', ho', ok'⟩ := h2.ex
  exact PE.imp (pe_chain ho ho' ha.d hb.d hc.d hm) fun _ _ _ => chain_tE ok ok'
theorem t_chain {op op' : CmpOp} (h1 : Cmp X op f) (h2 : Cmp X op' f') (ha : PEM X g W a ma) (hb : PEM X g W b mb) (hc : PEM X g W c mc) (hm : lastMarks [op, op'] [b, c] = false := by with_unfolding_all rfl) : PTM X g W (.Compare a [op, op'] [b, c] pos) (tstB (eChain f f' ma mb mc)) := by
  obtain ⟨r, ho, ok⟩ := h1.ex
  obtain ⟨r', ho', ok'⟩ := h2.ex
  exact PT.imp (pt_chain ho ho' ha.d hb.d hc.d hm) fun _ _ _ h => chain_tE ok ok' (tst_tE h)
end
end DL

set_option Elab.async false
set_option linter.all false
set_option maxRecDepth 100000
namespace DL
open PySem PySem.Spec L2
/-! ### operands: frozen values, or a name's list looked at -/
inductive Arg where
  | v (d : D) | b (i : Nat)
def slotC : Slot → Option D
  | .no => none
  | .v d => some d
  | .o ds => some (.lst ds)
def resL (sl : List Slot) : List Arg → Option (List D)
  | [] => some []
  | .v d :: as => (resL sl as).map (d :: ·)
  | .b i :: as => match (sl[i]?).bind slotC, resL sl as with
    | some d, some ds => some (d :: ds)
    | _, _ => none
def isV : Arg → Bool
  | .v _ => true
  | .b _ => false
def noB (as : List Arg) : Bool := as.all isV
def scalD : D → Bool
  | .non | .bl _ | .int _ | .str _ => true
  | _ => false
def scalR : RV → Bool
  | .v d => scalD d
  | .o _ => false
def okR (as : List Arg) (r : RV) : Bool := noB as || scalR r
section
variable {β : Type}
def rsl (as : List Arg) : M β (List D) := fun s => match resL s.sl as with
  | some ds => .ok ds s
  | none => .bad
def argV (m : M β RV) : M β Arg := mbind m fun r => mret (.v r.d)
def argN (i : Nat) : M β Arg := fun s => match (s.sl[i]?).bind slotC with
  | some _ => .ok (.b i) s
  | none => .bad
def argC (m : M β Arg) (ms : M β (List Arg)) : M β (List Arg) := mbind m fun a => mbind ms fun as => mret (a :: as)
def lstC (m : M β RV) (ms : M β (List D)) : M β (List D) := mbind m fun r => mbind ms fun ds => mret (r.d :: ds)
theorem on_rsl {as : List Arg} {s : S β} {k : List D → S β → Prop} {e : Exc → S β → Prop} : (rsl as s).on k e ↔ ∃ ds, resL s.sl as = some ds ∧ k ds s := by
  unfold rsl
  cases resL s.sl as with
  | none => exact ⟨fun h => False.elim h, fun ⟨_, h, _⟩ => nomatch h⟩
  | some a => exact ⟨fun h => ⟨a, rfl, h⟩, fun ⟨b, h, q⟩ => by cases h; exact q⟩
end
def ArgR {β : Type} (K : PySem.W.Frag) (g : G β) (H0 : Hp) (σ : L2.St) (v : V) : Arg → Prop
  | .v d => Rep K g.bx H0 v d
  | .b i => σ[i]? = some (some v)
inductive ArgsR {β : Type} (K : PySem.W.Frag) (g : G β) (H0 : Hp) (σ : L2.St) : List V → List Arg → Prop
  | nil : ArgsR K g H0 σ [] []
  | cons {v a vs as} : ArgR K g H0 σ v a → ArgsR K g H0 σ vs as → ArgsR K g H0 σ (v :: vs) (a :: as)
def tB' {β : Type} (K : PySem.W.Frag) (mg : Str → Option Value) (g : G β) (W : WX) (m : M β Arg) : TE := fun σ H Q => ∃ H0 s, Rel K g H0 σ H s ∧ (m s).on
  (fun a s' => ∀ v H0' H', Ex H0 H0' → Rel K g H0' σ H' s' → ArgR K g H0' σ v a → Q v H') (Esc K mg g W H0 σ)
def tAB {β : Type} (K : PySem.W.Frag) (mg : Str → Option Value) (g : G β) (W : WX) (m : M β (List Arg)) : TA := fun σ H Q => ∃ H0 s, Rel K g H0 σ H s ∧ (m s).on
  (fun as s' => ∀ vs H0' H', Ex H0 H0' → Rel K g H0' σ H' s' → ArgsR K g H0' σ vs as → Q vs H') (Esc K mg g W H0 σ)
abbrev PBM {β : Type} (X : Cx) (g : G β) (W : WX) (e : Expr) (m : M β Arg) : Prop := PE X e (tB' X.K X.mg g W m)
abbrev PABM {β : Type} (X : Cx) (g : G β) (W : WX) (es : List Expr) (m : M β (List Arg)) : Prop := PA X es (tAB X.K X.mg g W m)
section
variable {β : Type} {K : PySem.W.Frag} {g : G β} {H0 H H0' H' : Hp} {σ : L2.St} {s : S β} {v : V} {vs : List V} {a : Arg} {as : List Arg}
theorem ArgR.mono (h : ArgR K g H0 σ v a) (e : Ex H0 H0') : ArgR K g H0' σ v a := by
  cases a with
  | v d => exact Rep.mono h e
  | b i => exact h
theorem ArgsR.mono (h : ArgsR K g H0 σ vs as) (e : Ex H0 H0') : ArgsR K g H0' σ vs as := by
  induction h with
  | nil => exact .nil
  | cons r _ ih => exact .cons (r.mono e) ih
def Owned (σ : L2.St) (sl : List Slot) (a : Addr) : Prop := ∃ (i : Nat) (ds : List D), sl[i]? = some (.o ds) ∧ σ[i]? = some (some (.ref a))
open Classical in
/-- the frozen heap and the slots' own lists -/
noncomputable def view (σ : L2.St) (sl : List Slot) (H0 H : Hp) : Hp := fun a => if Owned σ sl a then H a else H0 a
theorem view_own {a : Addr} (h : Owned σ s.sl a) : view σ s.sl H0 H a = H a := by unfold view; rw [if_pos h]
theorem view_not {a : Addr} (h : ¬ Owned σ s.sl a) : view σ s.sl H0 H a = H0 a := by unfold view; rw [if_neg h]
theorem Rel.own (R : Rel K g H0 σ H s) {a : Addr} (h : Owned σ s.sl a) : ∃ vs, H a = some (.lst vs) ∧ H0 a = none ∧ g.F a = none ∧ a ≠ g.bx := by
  obtain ⟨i, ds, h1, h2⟩ := h
  obtain ⟨p, vs, e1, e2, _, n0, nF, nb⟩ := R.slot i _ _ h1 h2
  cases e1
  exact ⟨vs, e2, n0, nF, nb⟩
theorem Rel.view_ex (R : Rel K g H0 σ H s) : Ex H0 (view σ s.sl H0 H) := fun a o e => by
  by_cases h : Owned σ s.sl a
  · obtain ⟨vs, _, n0, _⟩ := R.own h
    rw [n0] at e; cases e
  · rw [view_not h]; exact e
theorem Rel.view_sub (R : Rel K g H0 σ H s) : Ex (view σ s.sl H0 H) H := fun a o e => by
  by_cases h : Owned σ s.sl a
  · rw [view_own h] at e; exact e
  · rw [view_not h] at e; exact R.r0.sub a o e
theorem Rel.slotC_view (R : Rel K g H0 σ H s) {i : Nat} {d : D} (h : (s.sl[i]?).bind slotC = some d) (hv : σ[i]? = some (some v)) : Rep K g.bx (view σ s.sl H0 H) v d := by
  cases hs : s.sl[i]? with
  | none => rw [hs] at h; cases h
  | some k =>
    rw [hs] at h
    have sr := R.slot i k _ hs hv
    cases k with
    | no => cases h
    | v d' =>
      obtain ⟨y, e1, r⟩ := sr
      cases e1; cases h
      exact r.mono R.view_ex
    | o ds =>
      obtain ⟨p, vs, e1, e2, rs, _⟩ := sr
      cases e1; cases h
      exact .lstR (by rw [view_own ⟨i, ds, hs, hv⟩]; exact e2) (rs.mono R.view_ex)
theorem Rel.slot_at (R : Rel K g H0 σ H s) {i : Nat} {d : D} (h : (s.sl[i]?).bind slotC = some d) : ∃ v, σ[i]? = some (some v) := by
  cases hs : s.sl[i]? with
  | none => rw [hs] at h; cases h
  | some k =>
    rw [hs] at h
    have hi : i < σ.length := by
      rw [← R.len]; exact (List.getElem?_eq_some_iff.mp hs).1
    have sr := R.slot i k σ[i] hs (by simp [hi])
    cases k with
    | no => cases h
    | v d' => obtain ⟨y, e1, r⟩ := sr; exact ⟨y, by simp [hi, e1]⟩
    | o ds => obtain ⟨p, vs, e1, _⟩ := sr; exact ⟨_, by simp [hi, e1]; rfl⟩
theorem Rel.res_view (R : Rel K g H0 σ H s) (h : ArgsR K g H0 σ vs as) : ∀ {ds : List D}, resL s.sl as = some ds → Reps K g.bx (view σ s.sl H0 H) vs ds := by
  induction h with
  | nil => intro ds e; cases e; exact .nil
  | @cons v a vs as r _ ih =>
    intro ds e
    cases a with
    | v d =>
      simp only [resL, Option.map_eq_some_iff] at e
      obtain ⟨es, e1, rfl⟩ := e
      exact .cons (Rep.mono r R.view_ex) (ih e1)
    | b i =>
      simp only [resL] at e
      cases h1 : (s.sl[i]?).bind slotC with
      | none => rw [h1] at e; cases e
      | some d =>
        cases h2 : resL s.sl as with
        | none => rw [h1, h2] at e; cases e
        | some es =>
          rw [h1, h2] at e; cases e
          exact .cons (R.slotC_view h1 r) (ih h2)
theorem res_plain (h : ArgsR K g H0 σ vs as) : ∀ {ds : List D} {sl : List Slot}, noB as = true → resL sl as = some ds → Reps K g.bx H0 vs ds := by
  induction h with
  | nil => intro ds sl _ e; cases e; exact .nil
  | @cons v a vs as r _ ih =>
    intro ds sl hb e
    cases a with
    | v d =>
      simp only [resL, Option.map_eq_some_iff] at e
      obtain ⟨es, e1, rfl⟩ := e
      exact .cons r (ih (by simpa [noB, isV] using hb) e1)
    | b i => simp [noB, isV] at hb
theorem scal_rep {K : PySem.W.Frag} {bx : Addr} {H H' : Hp} {v : V} {d : D} (h : scalD d = true) (r : Rep K bx H v d) : Rep K bx H' v d := by
  cases r <;> first | exact .non | exact .bl | exact .int | exact .str | (simp [scalD] at h)
theorem Fin.scal {bx : Addr} {Q : VK} {r : RV} (f : Fin K bx H0 H r Q) (hr : scalR r = true) (h0 : Ex H0 H) : Fin K bx H0' H r Q := fun v H1 H2 gr nw => by
  cases r with
  | o ds => cases hr
  | v d => exact f v H0 H2 ⟨Ex.refl _, gr.e, h0.trans gr.e, fun a o e => .inl e⟩ (scal_rep hr nw)
/-- an operation on what the operands show -/
theorem Rel.use {r : RV} {Q : VK} {P : Prop} (R : Rel K g H0 σ H s) (h : ArgsR K g H0 σ vs as) {ds : List D} (e : resL s.sl as = some ds) (ok : okR as r = true) (f : Fin K g.bx H0 H r Q)
    (go : ∀ Hv, Ex Hv H → Reps K g.bx Hv vs ds → Fin K g.bx Hv H r Q → P) : P := by
  cases hb : noB as with
  | true => exact go H0 R.r0.sub (res_plain h hb e) f
  | false =>
    have hs : scalR r = true := by
      unfold okR at ok
      rw [hb] at ok
      exact ok
    exact go _ R.view_sub (R.res_view h e) (f.scal hs R.r0.sub)
end
section
variable {β : Type} {X : Cx} {g : G β} {W : WX} {a b c e : Expr} {es : List Expr} {m : M β RV} {ma mb : M β Arg} {ms : M β (List Arg)} {ls : M β (List D)} {pos : Pos} {op : CmpOp} {r r' : R2} {f f' : D → D → Option RV}
theorem b_e (h : PEM X g W a m) : PBM X g W a (argV m) := PE.imp h.d fun σ H Q ⟨H0, s, R, q⟩ => by
  unfold argV at q
  rw [on_bind] at q
  exact ⟨H0, s, R, Out.on_imp q (fun r s1 q v H1 H2 e R1 rr => q v H1 H2 e R1 rr) fun _ _ q => q⟩
theorem b_n (i : Nat) {x : Str} (hN : X.N[i]? = some x := by rfl) (hv : Vis X.env.scope x := by first | exact Or.inl rfl | exact Or.inr (Or.inl rfl) | exact Or.inr (Or.inr rfl)) (hd : (x == ("__debug__" : Str)) = false := by decide)
    (hcd : (x == ("__classdict__" : Str)) = false := by decide) : PBM X g W (.Name x pos) (argN i) := PE.imp (pe_var hN hv hd hcd) fun σ H Q ⟨H0, s, R, q⟩ => by
  unfold argN at q
  cases h : (s.sl[i]?).bind slotC with
  | none => rw [h] at q; exact q.elim
  | some d =>
    rw [h] at q
    obtain ⟨v, hv⟩ := R.slot_at h
    exact ⟨v, hv, q v H0 H (Ex.refl _) R hv⟩
theorem a_nil : PABM X g W [] (mret []) := PA.imp pa_nil fun σ H Q ⟨H0, s, R, q⟩ => q [] H0 H (Ex.refl _) R .nil
theorem a_cons (ha : PBM X g W e ma) (hr : PABM X g W es ms) (hs : starEach (e :: es) X.env = (false, eval e X.env) :: starEach es X.env := by rfl) : PABM X g W (e :: es) (argC ma ms) := PA.imp (pa_cons ha hr hs) fun σ H Q ⟨H0, s, R, q⟩ => by
  unfold argC at q
  rw [on_bind] at q
  refine ⟨H0, s, R, Out.on_imp q (fun a s1 q v H1 H2 e1 R1 rr => ?_) fun _ _ q => q⟩
  rw [on_bind] at q
  exact ⟨H1, s1, R1, Out.on_imp q (fun as s2 q vs H3 H4 e2 R2 rs => q (v :: vs) H3 H4 (e1.trans e2) R2 (.cons (rr.mono e2) rs)) fun _ _ q => q.back e1⟩
theorem l_nil : PAM X g W [] (mret []) := PA.imp pa_nil fun σ H Q ⟨H0, s, R, q⟩ => q [] H0 H (Ex.refl _) R .nil
theorem l_cons (ha : PEM X g W e m) (hr : PAM X g W es ls) (hs : starEach (e :: es) X.env = (false, eval e X.env) :: starEach es X.env := by rfl) : PAM X g W (e :: es) (lstC m ls) := PA.imp (pa_cons ha.d hr hs) fun σ H Q ⟨H0, s, R, q⟩ => by
  unfold lstC at q
  rw [on_bind] at q
  refine ⟨H0, s, R, Out.on_imp q (fun a s1 q v H1 H2 e1 R1 rr => ?_) fun _ _ q => q⟩
  rw [on_bind] at q
  exact ⟨H1, s1, R1, Out.on_imp q (fun as s2 q vs H3 H4 e2 R2 rs => q (v :: vs) H3 H4 (e1.trans e2) R2 (.cons (rr.mono e2) rs)) fun _ _ q => q.back e1⟩
/-! ### displays -/
def tupD (ds : List D) : Option RV := if ds.length ≤ sizeLine then some (.v (.tup ds)) else none
def lstD (ds : List D) : Option RV := if ds.length ≤ sizeLine then some (.o ds) else none
theorem ok_tup {K : PySem.W.Frag} : CallOk K (fun xs H Q => xs.length ≤ sizeLine ∧ ∀ p, H p = none → Q (.ref p) (upd H p (.tup xs))) tupD := fun bx H0 H xs dxs rz Q sub rs e k => by
  unfold tupD at e
  split at e
  · rename_i h
    cases e
    exact ⟨by rw [rs.len]; exact h, fun p hp => k.tup sub rs hp⟩
  · cases e
theorem ok_lst {K : PySem.W.Frag} : CallOk K (fun xs H Q => xs.length ≤ sizeLine ∧ ∀ p, H p = none → Q (.ref p) (upd H p (.lst xs))) lstD := fun bx H0 H xs dxs rz Q sub rs e k => by
  unfold lstD at e
  split at e
  · rename_i h
    cases e
    exact ⟨by rw [rs.len]; exact h, fun p hp => k.lst sub rs hp⟩
  · cases e
theorem e_tup {x1} (h : PAM X g W es ls) : PEM X g W (.Tuple es x1 pos) (eApp tupD ls) := PE.imp (pe_tup h) fun _ _ _ => app_tE ok_tup
theorem e_lst (h : PAM X g W es ls) : PEM X g W (.List es pos) (eApp lstD ls) := PE.imp (pe_lst h) fun _ _ _ => app_tE ok_lst
/-! ### comparisons of operands -/
def ap2 (f : D → D → Option RV) : List D → Option RV
  | [d, e] => f d e
  | _ => none
def ap1 (f : D → Option RV) : List D → Option RV
  | [d] => f d
  | _ => none
def eBinB (f : D → D → Option RV) (ma mb : M β Arg) : M β RV := mbind ma fun x => mbind mb fun y => mbind (rsl [x, y]) fun ds => opt ((ap2 f ds).filter (okR [x, y]))
def eAppB (f : List D → Option RV) (ms : M β (List Arg)) : M β RV := mbind ms fun as => mbind (rsl as) fun ds => opt ((f ds).filter (okR as))
theorem binB_tE {K : PySem.W.Frag} {mg : Str → Option Value} {H : Hp} {σ : L2.St} {Q : VK} (ok : OpOk K r f) (h : tE K mg g W (eBinB f ma mb) σ H Q) : tOp r (tB' K mg g W ma) (tB' K mg g W mb) σ H Q := by
  obtain ⟨H0, s, R, h⟩ := h
  unfold eBinB at h
  rw [on_bind] at h
  refine ⟨H0, s, R, Out.on_imp h (fun x s1 h v H1 Hr1 e1 R1 r1 => ?_) fun _ _ q => q⟩
  rw [on_bind] at h
  refine ⟨H1, s1, R1, Out.on_imp h (fun y s2 h u H2 Hr2 e2 R2 r2 => ?_) fun _ _ q => q.back e1⟩
  rw [on_bind, on_rsl] at h
  obtain ⟨ds, eds, h⟩ := h
  rw [on_opt] at h
  obtain ⟨rz, ez, h⟩ := h
  rw [Option.filter_eq_some_iff] at ez
  obtain ⟨ez, ho⟩ := ez
  refine R2.use (.cons (r1.mono e2) (.cons r2 .nil)) eds ho (fin_of R2 (e1.trans e2) h) fun Hv sub rs k => ?_
  match ds, rs, ez with
  | [d, e], rs, ez =>
    obtain ⟨v', u', eq, rv, ru⟩ := rs.cases2
    cases eq
    exact ok g.bx Hv Hr2 v u d e rz Q sub rv ru ez k
  | [], _, ez => cases ez
  | [_], _, ez => cases ez
  | _ :: _ :: _ :: _, _, ez => cases ez
theorem appB_tE {K : PySem.W.Frag} {mg : Str → Option Value} {H : Hp} {σ : L2.St} {Q : VK} {r : List V → Hp → VK → Prop} {f : List D → Option RV} (ok : CallOk K r f) (h : tE K mg g W (eAppB f ms) σ H Q) : tCB r (tAB K mg g W ms) σ H Q := by
  obtain ⟨H0, s, R, h⟩ := h
  unfold eAppB at h
  rw [on_bind] at h
  refine ⟨H0, s, R, Out.on_imp h (fun x s1 h vs H1 Hr1 e1 R1 r1 => ?_) fun _ _ q => q⟩
  rw [on_bind, on_rsl] at h
  obtain ⟨ds, eds, h⟩ := h
  rw [on_opt] at h
  obtain ⟨rz, ez, h⟩ := h
  rw [Option.filter_eq_some_iff] at ez
  obtain ⟨ez, ho⟩ := ez
  exact R1.use r1 eds ho (fin_of R1 e1 h) fun Hv sub rs k => ok g.bx Hv Hr1 vs ds rz Q sub rs ez k
theorem e_cmpB (hc : Cmp X op f) (ha : PBM X g W a ma) (hb : PBM X g W b mb) (hm : behindInMarks op b = false := by first | exact nomark _ | rfl) : PEM X g W (.Compare a [op] [b] pos) (eBinB f ma mb) := by
  obtain ⟨r, ho, ok⟩ := hc.ex
  exact PE.imp (pe_cmpR ho ha hb hm) fun _ _ _ => binB_tE ok
theorem t_cmpB (hc : Cmp X op f) (ha : PBM X g W a ma) (hb : PBM X g W b mb) (hm : behindInMarks op b = false := by first | exact nomark _ | rfl) : PTM X g W (.Compare a [op] [b] pos) (tstB (eBinB f ma mb)) := by
  obtain ⟨r, ho, ok⟩ := hc.ex
  exact PT.imp (pt_cmpR ho ha hb hm) fun _ _ _ h => binB_tE ok (tst_tE h)
/-! ### truth -/
def truD : D → Option Bool
  | .non => some false
  | .bl b => some b
  | .int i => some (i != 0)
  | .str y => if y.length ≤ sizeLine then some ((y.length : Int) != 0) else none
  | .tup xs => some !xs.isEmpty
  | .lst xs => some !xs.isEmpty
  | .box => none
theorem isEmpty_len {α γ : Type} {xs : List α} {ys : List γ} (h : xs.length = ys.length) : xs.isEmpty = ys.isEmpty := by
  cases xs <;> cases ys <;> simp_all
theorem tru_ok' {K : PySem.W.Frag} {bx : Addr} {Hv H : Hp} {v : V} {d : D} {k : Bool} (r : Rep K bx Hv v d) (sub : Ex Hv H) (h : truD d = some k) : TruV K v H k := by
  cases r with
  | non => cases h; rfl
  | bl => cases h; rfl
  | int => cases h; rfl
  | str =>
    rename_i z
    have h : (if z.length ≤ sizeLine then some ((z.length : Int) != 0) else none) = some k := h
    split at h
    · rename_i hl; cases h; exact ⟨hl, rfl⟩
    · cases h
  | tup hx l _ => cases h; exact .inr (.inl ⟨_, sub.t hx, by rw [isEmpty_len l]⟩)
  | lst hx l _ => cases h; exact .inl ⟨_, .of (sub _ _ hx), by rw [isEmpty_len l]⟩
  | box => cases h
def truM (ma : M β Arg) : M β Bool := mbind ma fun x => mbind (rsl [x]) fun ds => opt (match ds with | [d] => truD d | _ => none)
theorem t_tru (ha : PBM X g W a ma) (he : ∀ whole, isTrue a X.env whole = (do let v ← whole; standAt a.pos; holding [v] (truthy v)) := by intro _; rfl) : PTM X g W a (truM ma) := PT.imp (pt_truth ha he) fun σ H Q ⟨H0, s, R, q⟩ => by
  unfold truM at q
  rw [on_bind] at q
  refine ⟨H0, s, R, Out.on_imp q (fun x s1 h v H1 H2 e R1 rr => ?_) fun _ _ q => q⟩
  rw [on_bind, on_rsl] at h
  obtain ⟨ds, eds, h⟩ := h
  rw [on_opt] at h
  obtain ⟨k, ek, h⟩ := h
  have rs := R1.res_view (.cons rr .nil) eds
  match ds, rs, ek with
  | [d], rs, ek =>
    obtain ⟨v', eq, rv⟩ := rs.cases1
    cases eq
    exact ⟨k, tru_ok' rv R1.view_sub ek, h H1 H2 e R1⟩
  | [], _, ek => cases ek
  | _ :: _ :: _, _, ek => cases ek
/-! ### and, or, not, if -/
variable {m1 m2 : M β RV} {c1 c2 : M β Bool} {rest : List Expr}
def tAndM (c1 c2 : M β Bool) : M β Bool := mbind c1 fun k => mIte k c2 (mret false)
def tOrM (c1 c2 : M β Bool) : M β Bool := mbind c1 fun k => mIte k (mret true) c2
def tNotM (c1 : M β Bool) : M β Bool := mbind c1 fun k => mret (!k)
def eAndM (m1 m2 : M β RV) : M β RV := mbind m1 fun r => mbind (opt (asB r.d)) fun k => mIte k m2 (mret (.v (.bl false)))
def eOrM (m1 m2 : M β RV) : M β RV := mbind m1 fun r => mbind (opt (asB r.d)) fun k => mIte k (mret (.v (.bl true))) m2
def eNotM (m1 : M β RV) : M β RV := mbind m1 fun r => mbind (opt (asB r.d)) fun k => mret (.v (.bl (!k)))
def eIfM (c : M β Bool) (m1 m2 : M β RV) : M β RV := mbind c fun k => mIte k m1 m2
theorem w_and1 (ha : PTM X g W a c1) : PWM X g W (.BoolOp .And [a] pos) c1 := pw_and1 ha
theorem w_or1 (ha : PTM X g W a c1) : PWM X g W (.BoolOp .Or [a] pos) c1 := pw_or1 ha
theorem w_and (ha : PTM X g W a c1) (hb : PWM X g W (.BoolOp .And (b :: rest) pos) c2) : PWM X g W (.BoolOp .And (a :: b :: rest) pos) (tAndM c1 c2) := PW.imp (pw_and ha hb) fun σ H Q ⟨H0, s, R, q⟩ => by
  unfold tAndM at q
  rw [on_bind] at q
  refine ⟨H0, s, R, Out.on_imp q (fun k s1 h H1 H2 e R1 => ?_) fun _ _ q => q⟩
  cases k with
  | true =>
    rw [if_pos rfl]
    exact ⟨H1, s1, R1, Out.on_imp (show (c2 s1).on _ _ from h) (fun k s2 h H3 H4 e2 R2 => h H3 H4 (e.trans e2) R2) fun _ _ q => q.back e⟩
  | false =>
    rw [if_neg Bool.false_ne_true]
    exact h H1 H2 e R1
theorem w_or (ha : PTM X g W a c1) (hb : PWM X g W (.BoolOp .Or (b :: rest) pos) c2) : PWM X g W (.BoolOp .Or (a :: b :: rest) pos) (tOrM c1 c2) := PW.imp (pw_or ha hb) fun σ H Q ⟨H0, s, R, q⟩ => by
  unfold tOrM at q
  rw [on_bind] at q
  refine ⟨H0, s, R, Out.on_imp q (fun k s1 h H1 H2 e R1 => ?_) fun _ _ q => q⟩
  cases k with
  | false =>
    rw [if_neg Bool.false_ne_true]
    exact ⟨H1, s1, R1, Out.on_imp (show (c2 s1).on _ _ from h) (fun k s2 h H3 H4 e2 R2 => h H3 H4 (e.trans e2) R2) fun _ _ q => q.back e⟩
  | true =>
    rw [if_pos rfl]
    exact h H1 H2 e R1
theorem t_w (h : PWM X g W a c1) : PTM X g W a c1 := PW.pt h
theorem t_not (ha : PTM X g W a c1) : PTM X g W (.UnaryOp .Not a pos) (tNotM c1) := PT.imp (pt_not ha) fun σ H Q ⟨H0, s, R, q⟩ => by
  unfold tNotM at q
  rw [on_bind] at q
  exact ⟨H0, s, R, q⟩
theorem e_one {op} (h : PEM X g W a m1) : PEM X g W (.BoolOp op [a] pos) m1 := pe_one h
theorem e_and (ha : PEM X g W a m1) (hb : PEM X g W (.BoolOp .And (b :: rest) pos) m2) : PEM X g W (.BoolOp .And (a :: b :: rest) pos) (eAndM m1 m2) := PE.imp (pe_and ha hb) fun σ H Q ⟨H0, s, R, q⟩ => by
  unfold eAndM at q
  rw [on_bind] at q
  refine ⟨H0, s, R, Out.on_imp q (fun r s1 h v H1 H2 e R1 rr ap => ?_) fun _ _ q => q⟩
  rw [on_bind, on_opt] at h
  obtain ⟨k, ek, h⟩ := h
  refine ⟨k, res_bl rr (asB_eq ek), ?_⟩
  cases k with
  | true =>
    rw [if_pos rfl]
    exact ⟨H1, s1, R1, Out.on_imp (show (m2 s1).on _ _ from h) (fun k s2 h v H3 H4 e2 R2 => h v H3 H4 (e.trans e2) R2) fun _ _ q => q.back e⟩
  | false =>
    rw [if_neg Bool.false_ne_true]
    exact h _ H1 H2 e R1 .bl trivial
theorem e_or (ha : PEM X g W a m1) (hb : PEM X g W (.BoolOp .Or (b :: rest) pos) m2) : PEM X g W (.BoolOp .Or (a :: b :: rest) pos) (eOrM m1 m2) := PE.imp (pe_or ha hb) fun σ H Q ⟨H0, s, R, q⟩ => by
  unfold eOrM at q
  rw [on_bind] at q
  refine ⟨H0, s, R, Out.on_imp q (fun r s1 h v H1 H2 e R1 rr ap => ?_) fun _ _ q => q⟩
  rw [on_bind, on_opt] at h
  obtain ⟨k, ek, h⟩ := h
  refine ⟨k, res_bl rr (asB_eq ek), ?_⟩
  cases k with
  | false =>
    rw [if_neg Bool.false_ne_true]
    exact ⟨H1, s1, R1, Out.on_imp (show (m2 s1).on _ _ from h) (fun k s2 h v H3 H4 e2 R2 => h v H3 H4 (e.trans e2) R2) fun _ _ q => q.back e⟩
  | true =>
    rw [if_pos rfl]
    exact h _ H1 H2 e R1 .bl trivial
theorem e_not (ha : PEM X g W a m1) : PEM X g W (.UnaryOp .Not a pos) (eNotM m1) := PE.imp (pe_not ha) fun σ H Q ⟨H0, s, R, q⟩ => by
  unfold eNotM at q
  rw [on_bind] at q
  refine ⟨H0, s, R, Out.on_imp q (fun r s1 h v H1 H2 e R1 rr ap => ?_) fun _ _ q => q⟩
  rw [on_bind, on_opt] at h
  obtain ⟨k, ek, h⟩ := h
  exact ⟨k, res_bl rr (asB_eq ek), h _ H1 H2 e R1 .bl trivial⟩
theorem e_if (hc : PTM X g W c c1) (ha : PEM X g W a m1) (hb : PEM X g W b m2) : PEM X g W (.IfExp c a b pos) (eIfM c1 m1 m2) := PE.imp (pe_ifExp hc ha hb) fun σ H Q ⟨H0, s, R, q⟩ => by
  unfold eIfM at q
  rw [on_bind] at q
  refine ⟨H0, s, R, Out.on_imp q (fun k s1 h H1 H2 e R1 => ?_) fun _ _ q => q⟩
  cases k with
  | true =>
    rw [if_pos rfl]
    exact ⟨H1, s1, R1, Out.on_imp (show (m1 s1).on _ _ from h) (fun k s2 h v H3 H4 e2 R2 => h v H3 H4 (e.trans e2) R2) fun _ _ q => q.back e⟩
  | false =>
    rw [if_neg Bool.false_ne_true]
    exact ⟨H1, s1, R1, Out.on_imp (show (m2 s1).on _ _ from h) (fun k s2 h v H3 H4 e2 R2 => h v H3 H4 (e.trans e2) R2) fun _ _ q => q.back e⟩
end
end DL

set_option Elab.async false
set_option linter.all false
set_option maxRecDepth 100000
namespace DL
open PySem PySem.Spec L2
/-! ### what an operand shows now -/
def Cont (K : PySem.W.Frag) (bx : Addr) (H0 H : Hp) (v : V) : D → Prop
  | .lst ds => ∃ p vs, v = .ref p ∧ H p = some (.lst vs) ∧ Reps K bx H0 vs ds
  | d => Rep K bx H0 v d
theorem Rep.cont {K : PySem.W.Frag} {bx : Addr} {H0 H : Hp} {v : V} {d : D} (r : Rep K bx H0 v d) (sub : Ex H0 H) : Cont K bx H0 H v d := by
  cases r with
  | non => exact .non
  | bl => exact .bl
  | int => exact .int
  | str => exact .str
  | tup h l q => exact .tup h l q
  | lst h l q => exact ⟨_, _, rfl, sub _ _ h, l, q⟩
  | box => exact .box
section
variable {β : Type} {K : PySem.W.Frag} {g : G β} {H0 H : Hp} {σ : L2.St} {s : S β} {v : V} {a : Arg} {d : D}
theorem Rel.cont_b (R : Rel K g H0 σ H s) {i : Nat} (h : (s.sl[i]?).bind slotC = some d) (hv : σ[i]? = some (some v)) : Cont K g.bx H0 H v d := by
  cases hs : s.sl[i]? with
  | none => rw [hs] at h; cases h
  | some k =>
    rw [hs] at h
    have sr := R.slot i k _ hs hv
    cases k with
    | no => cases h
    | v d' =>
      obtain ⟨y, e1, r⟩ := sr
      cases e1; cases h
      exact r.cont R.r0.sub
    | o ds =>
      obtain ⟨p, vs, e1, e2, rs, _⟩ := sr
      cases e1; cases h
      exact ⟨p, vs, rfl, e2, rs⟩
theorem Rel.cont (R : Rel K g H0 σ H s) (r : ArgR K g H0 σ v a) {ds : List D} (h : resL s.sl [a] = some ds) : ∃ d, ds = [d] ∧ Cont K g.bx H0 H v d := by
  cases a with
  | v d => cases h; exact ⟨d, rfl, Rep.cont r R.r0.sub⟩
  | b i =>
    simp only [resL] at h
    cases h1 : (s.sl[i]?).bind slotC with
    | none => rw [h1] at h; cases h
    | some d =>
      rw [h1] at h; cases h
      exact ⟨d, rfl, R.cont_b h1 r⟩
end
section
variable {β : Type} {X : Cx} {g : G β} {W : WX} {a b c e : Expr} {es : List Expr} {m m1 m2 : M β RV} {ma : M β Arg} {ms : M β (List Arg)} {ls : M β (List D)} {pos p2 : Pos}
def eIx (ma : M β Arg) (m : M β RV) : M β RV := mbind ma fun x => mbind m fun y => mbind (rsl [x]) fun ds => opt (match ds with | [d] => ixD d y.d | _ => none)
theorem at_rep {K : PySem.W.Frag} {bx : Addr} {H : Hp} {vs : List V} {ds : List D} {i : Int} {d : D} (rs : Reps K bx H vs ds) (h : atI ds i = some d) : ∃ v, atI vs i = some v ∧ Rep K bx H v d := by
  unfold atI at h ⊢
  rw [← rs.len] at h
  cases e : ixN vs.length i with
  | none => rw [e] at h; cases h
  | some j =>
    rw [e] at h
    exact rs.at (i := j) h
theorem ix_ok {K : PySem.W.Frag} {g : G β} {H0 H : Hp} {v u : V} {d e : D} {rz : RV} {Q : VK} (sub : Ex H0 H) (hc : Cont K g.bx H0 H v d) (re : Rep K g.bx H0 u e) (h : ixD d e = some rz) (k : Fin K g.bx H0 H rz Q) : rIx K v u H Q := by
  unfold ixD at h
  split at h
  · rename_i ds i
    obtain ⟨p, vs, rfl, hp, rs⟩ := hc
    cases re
    rw [Option.map_eq_some_iff] at h
    obtain ⟨d, h, rfl⟩ := h
    obtain ⟨v, hv, rv⟩ := at_rep rs h
    exact .inl ⟨p, vs, i, v, rfl, rfl, .of hp, hv, k.val sub rv⟩
  · rename_i ds i
    cases re
    rw [Option.map_eq_some_iff] at h
    obtain ⟨d, h, rfl⟩ := h
    cases (show Rep K g.bx H0 v (.tup ds) from hc) with
    | tup ht l q =>
      obtain ⟨v, hv, rv⟩ := at_rep ⟨l, q⟩ h
      exact .inr (.inl ⟨_, _, i, v, rfl, rfl, sub.t ht, hv, k.val sub rv⟩)
  · rename_i z i
    cases re
    split at h
    · rename_i hl
      rw [Option.map_eq_some_iff] at h
      obtain ⟨c, h, rfl⟩ := h
      cases (show Rep K g.bx H0 v (.str z) from hc)
      exact .inr (.inr ⟨z, i, c, rfl, rfl, hl, h, k.val sub .str⟩)
    · cases h
  · cases h
theorem e_ix (ha : PBM X g W a ma) (hb : PEM X g W b m) (hs : PlainIx b := by intro _ _; rfl) : PEM X g W (.Subscript a b pos) (eIx ma m) := PE.imp (pe_ix ix_seq ha hb.d hs) fun σ H Q ⟨H0, s, R, h⟩ => by
  unfold eIx at h
  rw [on_bind] at h
  refine ⟨H0, s, R, Out.on_imp h (fun x s1 h v H1 Hr1 e1 R1 r1 => ?_) fun _ _ q => q⟩
  rw [on_bind] at h
  refine ⟨H1, s1, R1, Out.on_imp h (fun y s2 h u H2 Hr2 e2 R2 r2 => ?_) fun _ _ q => q.back e1⟩
  rw [on_bind, on_rsl] at h
  obtain ⟨ds, eds, h⟩ := h
  rw [on_opt] at h
  obtain ⟨rz, ez, h⟩ := h
  obtain ⟨d, rfl, hc⟩ := R2.cont (r1.mono e2) eds
  exact ix_ok R2.r0.sub hc r2 ez (fin_of R2 (e1.trans e2) h)
/-! ### slices -/
def cutL {α : Type} (xs : List α) (lo hi : Option Int) : List α := (xs.drop (HT.sIx xs.length 0 lo)).take (HT.sIx xs.length xs.length hi - HT.sIx xs.length 0 lo)
theorem cut_reps {K : PySem.W.Frag} {bx : Addr} {H : Hp} {vs : List V} {ds : List D} (rs : Reps K bx H vs ds) (lo hi : Option Int) : Reps K bx H (cutV vs lo hi) (cutL ds lo hi) := by
  unfold cutV cutL
  rw [← rs.len]
  exact (rs.drop _).take _
def slD : D → Option Int → Option Int → Option RV
  | .lst ds, lo, hi => some (.o (cutL ds lo hi))
  | .tup ds, lo, hi => some (.v (.tup (cutL ds lo hi)))
  | .str z, lo, hi => if z.length ≤ sizeLine then some (.v (.str (cutS z lo hi))) else none
  | _, _, _ => none
def asI : D → Option Int
  | .int i => some i
  | _ => none
theorem asI_eq {d : D} {i : Int} (h : asI d = some i) : d = .int i := by
  unfold asI at h
  split at h
  · cases h; rfl
  · cases h
def tP (K : PySem.W.Frag) (mg : Str → Option Value) (g : G β) (W : WX) (m : M β (Option Int)) : TO := fun σ H Q => ∃ H0 s, Rel K g H0 σ H s ∧ (m s).on
  (fun o s' => ∀ H0' H', Ex H0 H0' → Rel K g H0' σ H' s' → Q o H') (Esc K mg g W H0 σ)
abbrev PPM (X : Cx) (g : G β) (W : WX) (e : Option Expr) (m : M β (Option Int)) : Prop := PO X e (tP X.K X.mg g W m)
def partM (m : M β RV) : M β (Option Int) := mbind m fun r => mbind (opt (asI r.d)) fun i => mret (some i)
theorem PO.imp {X : Cx} {e : Option Expr} {t t' : TO} (h : PO X e t) (i : ∀ σ H Q, t' σ H Q → t σ H Q) : PO X e t' := ⟨fun pins s σ H Q I q => h.run pins s σ H Q I (i σ H Q q)⟩
theorem p_none : PPM X g W none (mret none) := PO.imp po_none fun σ H Q ⟨H0, s, R, q⟩ => q H0 H (Ex.refl _) R
theorem p_some (h : PEM X g W e m) : PPM X g W (some e) (partM m) := PO.imp (po_some h.d) fun σ H Q ⟨H0, s, R, q⟩ => by
  unfold partM at q
  rw [on_bind] at q
  refine ⟨H0, s, R, Out.on_imp q (fun r s1 q v H1 H2 e1 R1 rr => ?_) fun _ _ q => q⟩
  rw [on_bind, on_opt] at q
  obtain ⟨i, ei, q⟩ := q
  rw [asI_eq ei] at rr
  cases rr
  exact ⟨i, rfl, q H1 H2 e1 R1⟩
def rSlU (K : PySem.W.Frag) : V → Option Int → Option Int → Hp → VK → Prop := fun x lo hi H Q => rSlL K x lo hi H Q ∨ rSlA K x lo hi H Q ∨ rSlS x lo hi H Q
theorem sl_U : SlR X (rSlU X.K) := sl_list.or (sl_tupA.or sl_str)
theorem cut_whole {α : Type} {xs : List α} {lo hi : Option Int} (h : HT.sIx xs.length 0 lo = 0 ∧ HT.sIx xs.length xs.length hi = xs.length) : cutL xs lo hi = xs := by
  unfold cutL
  rw [h.1, h.2]
  simp
def eSl (ma : M β Arg) (lo hi : M β (Option Int)) : M β RV := mbind ma fun x => mbind lo fun l => mbind hi fun h => mbind (rsl [x]) fun ds => opt (match ds with | [d] => slD d l h | _ => none)
theorem sl_ok {K : PySem.W.Frag} {g : G β} {H0 H : Hp} {v : V} {d : D} {lo hi : Option Int} {rz : RV} {Q : VK} (sub : Ex H0 H) (hc : Cont K g.bx H0 H v d) (h : slD d lo hi = some rz) (k : Fin K g.bx H0 H rz Q) : rSlU K v lo hi H Q := by
  cases d with
  | lst ds =>
    cases h
    obtain ⟨p, vs, rfl, hp, rs⟩ := hc
    exact .inl ⟨p, vs, rfl, .of hp, fun q hq => k.lst sub (cut_reps rs _ _) hq⟩
  | tup ds =>
    cases h
    cases (show Rep K g.bx H0 v (.tup ds) from hc) with
    | tup ht l q =>
      have rs : Reps K g.bx H0 _ ds := ⟨l, q⟩
      refine .inr (.inl ⟨_, _, rfl, sub.t ht, fun hw => ?_, fun _ p hp => k.tup sub (cut_reps rs _ _) hp⟩)
      rw [cut_whole (by rw [← l]; exact hw)] at k
      exact k.val sub (.tup ht l q)
  | str z =>
    have h : (if z.length ≤ sizeLine then some (.v (.str (cutS z lo hi))) else none) = some rz := h
    split at h
    · rename_i hl
      cases h
      cases (show Rep K g.bx H0 v (.str z) from hc)
      exact .inr (.inr ⟨z, rfl, hl, k.val sub .str⟩)
    · cases h
  | _ => cases h
theorem e_sl {lo hi : Option Expr} {l h : M β (Option Int)} (ha : PBM X g W a ma) (hl : PPM X g W lo l) (hh : PPM X g W hi h) : PEM X g W (.Subscript a (.Slice lo hi none p2) pos) (eSl ma l h) := PE.imp (pe_slice sl_U ha hl hh) fun σ H Q ⟨H0, s, R, q⟩ => by
  unfold eSl at q
  rw [on_bind] at q
  refine ⟨H0, s, R, Out.on_imp q (fun x s1 q v H1 Hr1 e1 R1 r1 => ?_) fun _ _ q => q⟩
  rw [on_bind] at q
  refine ⟨H1, s1, R1, Out.on_imp q (fun l s2 q H2 Hr2 e2 R2 => ?_) fun _ _ q => q.back e1⟩
  rw [on_bind] at q
  refine ⟨H2, s2, R2, Out.on_imp q (fun u s3 q H3 Hr3 e3 R3 => ?_) fun _ _ q => q.back (e1.trans e2)⟩
  rw [on_bind, on_rsl] at q
  obtain ⟨ds, eds, q⟩ := q
  rw [on_opt] at q
  obtain ⟨rz, ez, q⟩ := q
  obtain ⟨d, rfl, hc⟩ := R3.cont (r1.mono (e2.trans e3)) eds
  exact sl_ok R3.r0.sub hc ez (fin_of R3 ((e1.trans e2).trans e3) q)

/-! ### built-in functions by name -/
/-- f's call is r, and r serves f' -/
structure Blt (X : Cx) (f : Value) (f' : List D → Option RV) : Prop where
  ex : ∃ r, CallR X f r ∧ CallOk X.K r f'
theorem e_bltB {x : Str} {id : String} {f : List D → Option RV} {p : Pos} (hc : Blt X (.builtin id) f) (hg : Gl X x) (hm : X.mg x = none) (hv : bootBuiltins x = some (.builtin id)) (ha : PABM X g W (e :: es) ms) (hn : x ≠ "__name__" := by decide) (hdb : (x == ("__debug__" : Str)) = false := by decide)
    (he : starEach (e :: es) X.env = (false, eval e X.env) :: starEach es X.env := by rfl) (hpl : (backTo pos (starEach es X.env)).any (·.1) = false := by rfl) : PEM X g W (.Call (.Name x p) (e :: es) [] pos) (eAppB f ms) := by
  obtain ⟨r, cr, ok⟩ := hc.ex
  exact PE.imp (pe_callB cr hg hm hv ha hn hdb he hpl) fun _ _ _ => appB_tE ok
theorem e_bltT {x : Str} {T : String} {f : List D → Option RV} {p : Pos} (hc : Blt X (.type T) f) (hg : Gl X x) (hm : X.mg x = none) (hv : bootBuiltins x = some (.type T)) (ha : PABM X g W (e :: es) ms) (hn : x ≠ "__name__" := by decide) (hdb : (x == ("__debug__" : Str)) = false := by decide)
    (he : starEach (e :: es) X.env = (false, eval e X.env) :: starEach es X.env := by rfl) (hpl : (backTo pos (starEach es X.env)).any (·.1) = false := by rfl) : PEM X g W (.Call (.Name x p) (e :: es) [] pos) (eAppB f ms) := by
  obtain ⟨r, cr, ok⟩ := hc.ex
  exact PE.imp (pe_callTy cr hg hm hv ha hn hdb he hpl) fun _ _ _ => appB_tE ok

/-! ### which built-ins -/
def lenF : List D → Option RV
  | [.lst ds] => some (.v (.int ds.length))
  | [.tup ds] => some (.v (.int ds.length))
  | [.str z] => if z.length ≤ sizeLine then some (.v (.int z.length)) else none
  | _ => none
theorem b_len : Blt X (.builtin "len") lenF := ⟨_, call_len, fun bx H0 H xs dxs rz Q sub rs e k => by
  unfold lenF at e
  split at e
  · cases e
    obtain ⟨v, rfl, r⟩ := rs.cases1
    cases r with
    | lst h l q => exact ⟨_, _, rfl, .inl ⟨_, .of (sub _ _ h), rfl⟩, by rw [l]; exact k.val sub .int⟩
  · cases e
    obtain ⟨v, rfl, r⟩ := rs.cases1
    cases r with
    | tup h l q => exact ⟨_, _, rfl, .inr ⟨_, sub.t h, rfl⟩, by rw [l]; exact k.val sub .int⟩
  · split at e
    · rename_i hl
      cases e
      obtain ⟨v, rfl, r⟩ := rs.cases1
      cases r
      exact ⟨_, _, rfl, ⟨hl, rfl⟩, k.val sub .int⟩
    · cases e
  · cases e⟩
def absF : List D → Option RV
  | [.int i] => some (.v (.int (if i < 0 then -i else i)))
  | _ => none
theorem b_abs : Blt X (.builtin "abs") absF := ⟨_, call_abs, fun bx H0 H xs dxs rz Q sub rs e k => by
  unfold absF at e
  split at e
  · cases e
    obtain ⟨v, rfl, r⟩ := rs.cases1
    cases r
    exact ⟨_, rfl, k.val sub .int⟩
  · cases e⟩
def intF : List D → Option RV
  | [.int i] => some (.v (.int i))
  | [.bl k] => some (.v (.int (if k then 1 else 0)))
  | _ => none
theorem b_int : Blt X (.type "int") intF := ⟨_, call_int1, fun bx H0 H xs dxs rz Q sub rs e k => by
  unfold intF at e
  split at e
  · cases e
    obtain ⟨v, rfl, r⟩ := rs.cases1
    cases r
    exact .inl ⟨_, rfl, k.val sub .int⟩
  · cases e
    obtain ⟨v, rfl, r⟩ := rs.cases1
    cases r
    exact .inr ⟨_, rfl, k.val sub .int⟩
  · cases e⟩
def gcdF : List D → Option RV
  | [.int a, .int b] => some (.v (.int ((Nat.gcd a.natAbs b.natAbs : Nat) : Int)))
  | _ => none
theorem b_gcd : Blt X (.builtin "math.gcd") gcdF := ⟨_, cr_gcd, fun bx H0 H xs dxs rz Q sub rs e k => by
  unfold gcdF at e
  split at e
  · cases e
    obtain ⟨v, u, rfl, r, r'⟩ := rs.cases2
    cases r; cases r'
    exact ⟨_, _, rfl, k.val sub .int⟩
  · cases e⟩
def listF : List D → Option RV
  | [.lst ds] => some (.o ds)
  | [.tup ds] => some (.o ds)
  | _ => none
theorem b_list : Blt X (.type "list") listF := ⟨_, call_list_of, fun bx H0 H xs dxs rz Q sub rs e k => by
  unfold listF at e
  split at e
  · cases e
    obtain ⟨v, rfl, r⟩ := rs.cases1
    cases r with
    | lst h l q => exact ⟨_, _, rfl, .inl (.of (sub _ _ h)), fun p hp => k.lst sub ⟨l, q⟩ hp⟩
  · cases e
    obtain ⟨v, rfl, r⟩ := rs.cases1
    cases r with
    | tup h l q => exact ⟨_, _, rfl, .inr (sub.t h), fun p hp => k.lst sub ⟨l, q⟩ hp⟩
  · cases e⟩
def tupleF : List D → Option RV
  | [.lst ds] => some (.v (.tup ds))
  | [.tup ds] => some (.v (.tup ds))
  | _ => none
theorem b_tuple : Blt X (.type "tuple") tupleF := ⟨_, call_tuple_of, fun bx H0 H xs dxs rz Q sub rs e k => by
  unfold tupleF at e
  split at e
  · cases e
    obtain ⟨v, rfl, r⟩ := rs.cases1
    cases r with
    | lst h l q => exact ⟨_, _, rfl, .inl ⟨.of (sub _ _ h), fun p hp => k.tup sub ⟨l, q⟩ hp⟩⟩
  · cases e
    obtain ⟨v, rfl, r⟩ := rs.cases1
    cases r with
    | tup h l q => exact ⟨_, _, rfl, .inr ⟨sub.t h, k.val sub (.tup h l q)⟩⟩
  · cases e⟩
theorem e_bltG {x : Str} {id : String} {f : List D → Option RV} {p : Pos} (hc : Blt X (.builtin id) f) (hg : Gl X x) (hm : X.mg x = some (.builtin id)) (ha : PABM X g W (e :: es) ms) (hdb : (x == ("__debug__" : Str)) = false := by decide)
    (he : starEach (e :: es) X.env = (false, eval e X.env) :: starEach es X.env := by rfl) (hpl : (backTo pos (starEach es X.env)).any (·.1) = false := by rfl) : PEM X g W (.Call (.Name x p) (e :: es) [] pos) (eAppB f ms) := by
  obtain ⟨r, cr, ok⟩ := hc.ex
  exact PE.imp (pe_callBfun cr hg hm ha hdb he hpl) fun _ _ _ => appB_tE ok
end
end DL

set_option Elab.async false
set_option linter.all false
set_option maxRecDepth 100000
namespace DL
open PySem PySem.Spec L2
section
variable {β : Type} {K : PySem.W.Frag} {mg : Str → Option Value} {g : G β} {W : WX} {H0 H H0' H' : Hp} {σ : L2.St} {s s' : S β} {v : V} {r : RV}
def FlP (K : PySem.W.Frag) (g : G β) (D' : Ends) (H0 : Hp) : Fl → S β → Prop
  | .nx, s' => ∀ σ' H0' H', Ex H0 H0' → Rel K g H0' σ' H' s' → D'.nx σ' H'
  | .bk, s' => ∀ σ' H0' H', Ex H0 H0' → Rel K g H0' σ' H' s' → D'.bk σ' H'
  | .ct, s' => ∀ σ' H0' H', Ex H0 H0' → Rel K g H0' σ' H' s' → D'.ct σ' H'
  | .rt r, s' => ∀ v σ' H0' H', Ex H0 H0' → Rel K g H0' σ' H' s' → ResR K g H0' H' v r → D'.rt v H'
def EscS (K : PySem.W.Frag) (mg : Str → Option Value) (g : G β) (W : WX) (H0 : Hp) (x : Exc) (s' : S β) : Prop :=
  ∀ c dd σ' H0' H', Ex H0 H0' → Rel K g H0' σ' H' s' → XRep K mg g.bx H0' H' c dd x → W c dd σ' H'
/-- a statement, a block by its mirror -/
def tS (K : PySem.W.Frag) (mg : Str → Option Value) (g : G β) (W : WX) (m : M β Fl) : TS := fun D' σ H => ∃ H0 s, Rel K g H0 σ H s ∧ (m s).on (FlP K g D' H0) (EscS K mg g W H0)
/-- only the slots of tgt differ -/
def But (tgt : List Nat) (σ σ' : L2.St) : Prop := σ'.length = σ.length ∧ ∀ j : Nat, j ∉ tgt → σ'[j]? = σ[j]?
theorem But.refl {tgt : List Nat} {σ : L2.St} : But tgt σ σ := ⟨rfl, fun _ _ => rfl⟩
def tG (K : PySem.W.Frag) (g : G β) (tgt : List Nat) (t : D → M β Unit) : TG := fun v σ H Q => ∃ H0 s d, Rel K g H0 σ H s ∧ Rep K g.bx H0 v d ∧ (t d s).on (fun _ s' => ∀ σ' H0' H', But tgt σ σ' → Ex H0 H0' → Rel K g H0' σ' H' s' → Q σ' H') (fun _ _ => False)
def tGs (K : PySem.W.Frag) (g : G β) (tgt : List Nat) (t : List D → M β Unit) : TGs := fun vs σ H Q => ∃ H0 s ds, Rel K g H0 σ H s ∧ Reps K g.bx H0 vs ds ∧ (t ds s).on (fun _ s' => ∀ σ' H0' H', But tgt σ σ' → Ex H0 H0' → Rel K g H0' σ' H' s' → Q σ' H') (fun _ _ => False)
theorem FlP.back {D' : Ends} {f : Fl} (h : FlP K g D' H0 f s) (e : Ex H0 H0') : FlP K g D' H0' f s := by
  cases f with
  | nx => exact fun σ' H1 H2 e2 R => h σ' H1 H2 (e.trans e2) R
  | bk => exact fun σ' H1 H2 e2 R => h σ' H1 H2 (e.trans e2) R
  | ct => exact fun σ' H1 H2 e2 R => h σ' H1 H2 (e.trans e2) R
  | rt r => exact fun v σ' H1 H2 e2 R rr => h v σ' H1 H2 (e.trans e2) R rr
theorem EscS.back {x : Exc} (h : EscS K mg g W H0 x s) (e : Ex H0 H0') : EscS K mg g W H0' x s := fun c dd σ' H1 H2 e2 R X => h c dd σ' H1 H2 (e.trans e2) R X
theorem EscS.e {x : Exc} (h : EscS K mg g W H0 x s) : Esc K mg g W H0 σ x s := fun c dd H1 H2 e R X => h c dd σ H1 H2 e R X
theorem on_back {m : Out (S β) Fl} {D' : Ends} (h : m.on (FlP K g D' H0) (EscS K mg g W H0)) (e : Ex H0 H0') : m.on (FlP K g D' H0') (EscS K mg g W H0') := Out.on_imp h (fun _ _ q => q.back e) fun _ _ q => q.back e
/-- a step that raises nothing -/
def noX {α : Type} (m : M β α) : M β α := fun s => match m s with
  | .ok a s => .ok a s
  | _ => .bad
theorem on_noX {α : Type} {m : M β α} {k : α → S β → Prop} {e e' : Exc → S β → Prop} (h : (noX m s).on k e) : (m s).on k e' := by
  unfold noX at h
  revert h
  cases m s <;> exact fun h => by first | exact h | exact h.elim
/-- a slot stored -/
def sv : RV → Slot
  | .v d => .v d
  | .o ds => .o ds
def stV (i : Nat) (r : RV) : M β Unit := fun s => match s.sl[i]? with
  | some _ => .ok () { s with sl := s.sl.set i (sv r) }
  | none => .bad
theorem Rel.set (R : Rel K g H0 σ H s) {i : Nat} (hi : i < σ.length) (rr : ResR K g H0 H v r) (ap : Apart σ s.sl v r) : Rel K g H0 (σ.set i (some v)) H { s with sl := s.sl.set i (sv r) } := by
  have hl : i < s.sl.length := by rw [R.len]; exact hi
  refine ⟨R.r0, by simpa using R.len, fun j k x h1 h2 => ?_, fun j l ds es p h1 h2 h3 h4 => ?_⟩
  · have h1 : (s.sl.set i (sv r))[j]? = some k := h1
    by_cases hj : i = j
    · subst hj
      rw [List.getElem?_set_self hl] at h1
      rw [List.getElem?_set_self hi] at h2
      cases h1; cases h2
      cases r with
      | v d => exact ⟨v, rfl, rr⟩
      | o ds => obtain ⟨p, vs, rfl, q⟩ := rr; exact ⟨p, vs, rfl, q⟩
    · rw [List.getElem?_set_ne hj] at h1 h2
      exact R.slot j k x h1 h2
  · have h1 : (s.sl.set i (sv r))[j]? = some (.o ds) := h1
    have h2 : (s.sl.set i (sv r))[l]? = some (.o es) := h2
    have one : ∀ {j l : Nat} {ds es : List D} {p : Addr}, i = j → i ≠ l → (s.sl.set i (sv r))[j]? = some (.o ds) → (s.sl.set i (sv r))[l]? = some (.o es) → (σ.set i (some v))[j]? = some (some (.ref p)) → (σ.set i (some v))[l]? = some (some (.ref p)) → False := by
      intro j' l' ds' es' p' hj hl' k1 k2 k3 k4
      subst hj
      rw [List.getElem?_set_self hl] at k1
      rw [List.getElem?_set_self hi] at k3
      rw [List.getElem?_set_ne hl'] at k2
      rw [List.getElem?_set_ne hl'] at k4
      cases r with
      | v d => cases k1
      | o ds' => exact ap _ _ p' (Option.some.inj (Option.some.inj k3)) k2 k4
    by_cases hj : i = j
    · by_cases hl' : i = l
      · exact hj.symm.trans hl'
      · exact (one hj hl' h1 h2 h3 h4).elim
    · by_cases hl' : i = l
      · exact (one hl' hj h2 h1 h4 h3).elim
      · rw [List.getElem?_set_ne hj] at h1 h3
        rw [List.getElem?_set_ne hl'] at h2 h4
        exact R.dist j l ds es p h1 h2 h3 h4
theorem on_stV {i : Nat} {k : Unit → S β → Prop} {e : Exc → S β → Prop} (h : (stV i r s).on k e) : i < s.sl.length ∧ k () { s with sl := s.sl.set i (sv r) } := by
  unfold stV at h
  cases q : s.sl[i]? with
  | none => rw [q] at h; exact h.elim
  | some _ => rw [q] at h; exact ⟨(List.getElem?_eq_some_iff.mp q).1, h⟩
end
section
variable {β : Type} {X : Cx} {g : G β} {W : WX} {a b c e tg : Expr} {es : List Expr} {st : Stmt} {rest body orelse : List Stmt} {m m' me mi : M β RV} {f f' : M β Fl} {t : D → M β Unit} {ts : List D → M β Unit} {cm : M β Bool} {pos : Pos} {tgt tgt' : List Nat}
abbrev PSM (X : Cx) (g : G β) (W : WX) (st : Stmt) (m : M β Fl) : Prop := PS X st (tS X.K X.mg g W m)
abbrev PSSM (X : Cx) (g : G β) (W : WX) (st : List Stmt) (m : M β Fl) : Prop := PSs X st (tS X.K X.mg g W m)
abbrev PGM (X : Cx) (g : G β) (tgt : List Nat) (tg : Expr) (t : D → M β Unit) : Prop := PG X tg (tG X.K g tgt t)
abbrev PGsM (X : Cx) (g : G β) (tgt : List Nat) (ts : List Expr) (t : List D → M β Unit) : Prop := PGs X ts (tGs X.K g tgt t)
theorem PS.imp {X : Cx} {st : Stmt} {t t' : TS} (h : PS X st t) (i : ∀ D σ H, t' D σ H → t D σ H) : PS X st t' := ⟨fun pins s σ H D I q => h.run pins s σ H D I (i D σ H q)⟩
theorem PSs.imp {X : Cx} {st : List Stmt} {t t' : TS} (h : PSs X st t) (i : ∀ D σ H, t' D σ H → t D σ H) : PSs X st t' := ⟨fun pins s σ H D I q => h.run pins s σ H D I (i D σ H q)⟩
theorem PG.imp {X : Cx} {e : Expr} {t t' : TG} (h : PG X e t) (i : ∀ v σ H Q, t' v σ H Q → t v σ H Q) : PG X e t' := ⟨fun pins s σ H v u Q I r q => h.run pins s σ H v u Q I r (i v σ H Q q)⟩
theorem PGs.imp {X : Cx} {e : List Expr} {t t' : TGs} (h : PGs X e t) (i : ∀ v σ H Q, t' v σ H Q → t v σ H Q) : PGs X e t' := ⟨fun pins s σ H v u Q I r q => h.run pins s σ H v u Q I r (i v σ H Q q)⟩
/-! ### blocks -/
def thenM (m2 : M β Fl) : Fl → M β Fl
  | .nx => m2
  | f => mret f
def seqM (m1 m2 : M β Fl) : M β Fl := mbind m1 (thenM m2)
theorem ss_nil : PSSM X g W [] (mret .nx) := PSs.imp pss_nil fun D σ H ⟨H0, s, R, q⟩ => q σ H0 H (Ex.refl _) R
theorem ss_cons (h1 : PSM X g W st f) (h2 : PSSM X g W rest f') : PSSM X g W (st :: rest) (seqM f f') := PSs.imp (pss_cons h1 h2) fun D σ H ⟨H0, s, R, q⟩ => by
  unfold seqM at q
  rw [on_bind] at q
  refine ⟨H0, s, R, Out.on_imp q (fun fl s1 q => ?_) fun _ _ q => q⟩
  cases fl with
  | nx => exact fun σ' H1 H2 e R' => ⟨H1, s1, R', on_back q e⟩
  | bk => exact q
  | ct => exact q
  | rt r => exact q
theorem ss_one (h1 : PSM X g W st f) : PSSM X g W [st] f := pss_one h1
/-! ### small statements -/
def dropM (m : M β RV) : M β Fl := mbind m fun _ => mret .nx
def retM (m : M β RV) : M β Fl := mbind m fun r => mret (.rt r)
def retN (i : Nat) : M β Fl := fun s => match s.sl[i]? with
  | some (.v d) => .ok (.rt (.v d)) s
  | some (.o ds) => .ok (.rt (.o ds)) s
  | _ => .bad
def asgM (i : Nat) (m : M β RV) : M β Fl := mbind m fun r => mbind (stV i r) fun _ => mret .nx
def asgT (m : M β RV) (t : D → M β Unit) : M β Fl := mbind m fun r => mbind (noX (t r.d)) fun _ => mret .nx
def ifM (c : M β Bool) (m1 m2 : M β Fl) : M β Fl := mbind c fun k => mIte k m1 m2
theorem s_pass : PSM X g W (.Pass pos) (mret .nx) := PS.imp ps_pass fun D σ H ⟨H0, s, R, q⟩ => q σ H0 H (Ex.refl _) R
theorem s_break : PSM X g W (.Break pos) (mret .bk) := PS.imp ps_break fun D σ H ⟨H0, s, R, q⟩ => q σ H0 H (Ex.refl _) R
theorem s_continue : PSM X g W (.Continue pos) (mret .ct) := PS.imp ps_continue fun D σ H ⟨H0, s, R, q⟩ => q σ H0 H (Ex.refl _) R
theorem s_expr (h : PEM X g W e m) (hs : swapsWith e none pos.line X.env = pure false := by rfl) : PSM X g W (.Expr e pos) (dropM m) := PS.imp (ps_expr h hs) fun D σ H ⟨H0, s, R, q⟩ => by
  unfold dropM at q
  rw [on_bind] at q
  exact ⟨H0, s, R, Out.on_imp q (fun r s1 q v H1 H2 e R1 _ _ => q σ H1 H2 e R1) fun _ _ q => q.e⟩
theorem s_ret (h : PEM X g W e m) : PSM X g W (.Return (some e) pos) (retM m) := PS.imp (ps_ret h) fun D σ H ⟨H0, s, R, q⟩ => by
  unfold retM at q
  rw [on_bind] at q
  exact ⟨H0, s, R, Out.on_imp q (fun r s1 q v H1 H2 e R1 rr _ => q v σ H1 H2 e R1 rr) fun _ _ q => q.e⟩
theorem s_retN : PSM X g W (.Return none pos) (mret (.rt (.v .non))) := PS.imp ps_retN fun D σ H ⟨H0, s, R, q⟩ => q .non σ H0 H (Ex.refl _) R .non
theorem s_retV (i : Nat) {x : Str} {p : Pos} (hN : X.N[i]? = some x := by rfl) (hv : Vis X.env.scope x := by first | exact Or.inl rfl | exact Or.inr (Or.inl rfl) | exact Or.inr (Or.inr rfl)) (hd : (x == ("__debug__" : Str)) = false := by decide)
    (hcd : (x == ("__classdict__" : Str)) = false := by decide) : PSM X g W (.Return (some (.Name x p)) pos) (retN i) := PS.imp (ps_ret (pe_var hN hv hd hcd)) fun D σ H ⟨H0, s, R, q⟩ => by
  unfold retN at q
  cases hs : s.sl[i]? with
  | none => rw [hs] at q; exact q.elim
  | some k =>
    rw [hs] at q
    have hi : i < σ.length := by
      rw [← R.len]; exact (List.getElem?_eq_some_iff.mp hs).1
    have sr := R.slot i k σ[i] hs (by simp [hi])
    cases k with
    | no => exact q.elim
    | v d =>
      obtain ⟨y, e1, r⟩ := sr
      exact ⟨y, by simp [hi, e1], q y σ H0 H (Ex.refl _) R r⟩
    | o ds =>
      obtain ⟨p, vs, e1, z⟩ := sr
      exact ⟨.ref p, by simp [hi, e1], q _ σ H0 H (Ex.refl _) R ⟨p, vs, rfl, z⟩⟩
theorem s_if (hc : PTM X g W c cm) (ha : PSSM X g W body f) (hb : PSSM X g W orelse f') : PSM X g W (.If c body orelse pos) (ifM cm f f') := PS.imp (ps_if hc ha hb) fun D σ H ⟨H0, s, R, q⟩ => by
  unfold ifM at q
  rw [on_bind] at q
  refine ⟨H0, s, R, Out.on_imp q (fun k s1 q H1 H2 e R1 => ?_) fun _ _ q => q.e⟩
  cases k with
  | true => rw [if_pos rfl]; exact ⟨H1, s1, R1, on_back (show (f s1).on _ _ from q) e⟩
  | false => rw [if_neg Bool.false_ne_true]; exact ⟨H1, s1, R1, on_back (show (f' s1).on _ _ from q) e⟩
theorem s_asg (i : Nat) {x : Str} {p : Pos} (hN : X.N.Nodup) (h : PEM X g W e m) (hi : X.N[i]? = some x := by rfl) (hx : Loc X.env.scope x := by first | exact Or.inl rfl | exact Or.inr rfl) (hs : swapsWith e (some (.Name x p)) pos.line X.env = pure false := by rfl) (hf : X.fn x = true ∨ X.env.scope.names.lookup x = some .local := by first | exact .inl rfl | exact .inr rfl | assumption) :
    PSM X g W (.Assign [.Name x p] e pos) (asgM i m) := PS.imp (ps_set hN hi hx h hs hf) fun D σ H ⟨H0, s, R, q⟩ => by
  unfold asgM at q
  rw [on_bind] at q
  refine ⟨H0, s, R, Out.on_imp q (fun r s1 q v H1 H2 e R1 rr ap => ?_) fun _ _ q => q.e⟩
  rw [on_bind] at q
  obtain ⟨hl, q⟩ := on_stV q
  exact q _ H1 H2 e (R1.set (by rw [← R1.len]; exact hl) rr ap)
theorem g_name (i : Nat) {x : Str} (hN : X.N.Nodup) (hi : X.N[i]? = some x := by rfl) (hx : Loc X.env.scope x := by first | exact Or.inl rfl | exact Or.inr rfl) (hf : X.fn x = true ∨ X.env.scope.names.lookup x = some .local := by first | exact .inl rfl | exact .inr rfl | assumption) : PGM X g [i] (.Name x pos) (fun d => stV i (.v d)) := PG.imp (pg_name hN hi hx hf) fun v σ H Q ⟨H0, s, d, R, r, q⟩ => by
  obtain ⟨hl, q⟩ := on_stV q
  exact q _ H0 H ⟨by simp, fun j hj => List.getElem?_set_ne (fun e => hj (by simp [e]))⟩ (Ex.refl _) (R.set (r := .v d) (by rw [← R.len]; exact hl) r trivial)
theorem gs_nil : PGsM X g [] [] (fun ds => match ds with | [] => mret () | _ => mbad) := PGs.imp pgs_nil fun vs σ H Q ⟨H0, s, ds, R, r, q⟩ => by
  cases ds with
  | nil => exact ⟨r.cases_nil, q σ H0 H .refl (Ex.refl _) R⟩
  | cons d ds => exact q.elim
def gsC (t : D → M β Unit) (ts : List D → M β Unit) : List D → M β Unit
  | d :: ds => mbind (t d) fun _ => ts ds
  | [] => mbad
theorem gs_cons (h1 : PGM X g tgt e t) (h2 : PGsM X g tgt' es ts) (hs : (assignEach (e :: es) X.env).map (·.2) = assign e X.env :: (assignEach es X.env).map (·.2) := by rfl) : PGsM X g (tgt ++ tgt') (e :: es) (gsC t ts) := PGs.imp (pgs_cons h1 h2 hs) fun vs σ H Q ⟨H0, s, ds, R, r, q⟩ => by
  cases ds with
  | nil => exact q.elim
  | cons d ds =>
    obtain ⟨v, ws, rfl, rv, rs⟩ := r.cases_cons
    unfold gsC at q
    rw [on_bind] at q
    refine ⟨v, ws, rfl, H0, s, d, R, rv, Out.on_imp q (fun _ s1 q σ' H1 H2 b1 e R1 => ?_) fun _ _ q => q⟩
    exact ⟨H1, s1, ds, R1, rs.mono e, Out.on_imp q (fun _ s2 q σ2 H3 H4 b2 e2 R2 => q σ2 H3 H4 ⟨b2.1.trans b1.1, fun j hj => (b2.2 j fun h => hj (List.mem_append_right _ h)).trans (b1.2 j fun h => hj (List.mem_append_left _ h))⟩ (e.trans e2) R2) fun _ _ q => q⟩
def gtM (n : Nat) (ts : List D → M β Unit) : D → M β Unit
  | .tup ds => if ds.length = n then ts ds else mbad
  | _ => mbad
theorem g_tup {k n : Nat} (hc : X.calm = true) (h : PGsM X g tgt es ts) (hn : (assignEach es X.env).length = n := by rfl) (hst : (assignEach es X.env).findIdx? (·.1) = none := by rfl) : PGM X g tgt (.Tuple es k pos) (gtM n ts) := PG.imp (pg_tup hc h hn hst) fun v σ H Q ⟨H0, s, d, R, r, q⟩ => by
  unfold gtM at q
  split at q
  · rename_i ds
    split at q
    · rename_i hl
      cases r with
      | tup ht l z => exact ⟨_, _, rfl, R.r0.sub.t ht, by rw [l]; exact hl, H0, s, ds, R, ⟨l, z⟩, q⟩
    · exact q.elim
  · exact q.elim
theorem s_asgT (he : PEM X g W e m) (hg : PGM X g tgt tg t) (hs : swapsWithSole [tg] e pos.line X.env = pure false := by rfl) (hw : swappedStores [tg] e X.env = pure none := by rfl)
    (h1 : (assignEach [tg] X.env).map (·.2) = [assign tg X.env] := by rfl) : PSM X g W (.Assign [tg] e pos) (asgT m t) := PS.imp (ps_asg he.d hg hs hw h1) fun D σ H ⟨H0, s, R, q⟩ => by
  unfold asgT at q
  rw [on_bind] at q
  refine ⟨H0, s, R, Out.on_imp q (fun r s1 q v H1 H2 e R1 rr => ?_) fun _ _ q => q.e⟩
  rw [on_bind] at q
  exact ⟨H1, s1, r.d, R1, rr, Out.on_imp (on_noX q) (fun _ s2 q σ' H3 H4 _ e2 R2 => q σ' H3 H4 (e.trans e2) R2) fun _ _ q => q⟩
end
end DL

set_option Elab.async false
set_option linter.all false
set_option maxRecDepth 100000
namespace DL
open PySem PySem.Spec L2
section
variable {β : Type} {X : Cx} {g : G β} {W : WX} {a b c e tg iter : Expr} {es : List Expr} {st : Stmt} {rest body orelse : List Stmt} {m m' me mi : M β RV} {ls : M β (List D)} {f f' : M β Fl} {t : D → M β Unit} {ts : List D → M β Unit} {cm : M β Bool} {pos : Pos} {tgt tgt' : List Nat}
/-! ### a, b = x, y -/
def parM (is : List Nat) (ms : M β (List D)) : M β Fl := mbind ms fun ds => match is, ds with
  | [i, j], [d, e] => mbind (stV i (.v d)) fun _ => mbind (stV j (.v e)) fun _ => mret .nx
  | [i, j, k], [d, e, h] => mbind (stV i (.v d)) fun _ => mbind (stV j (.v e)) fun _ => mbind (stV k (.v h)) fun _ => mret .nx
  | _, _ => mbad
theorem Rel.setv {K : PySem.W.Frag} {g : G β} {H0 H : Hp} {σ : L2.St} {s : S β} {v : V} {d : D} (R : Rel K g H0 σ H s) {i : Nat} (hi : i < s.sl.length) (rr : Rep K g.bx H0 v d) : Rel K g H0 (σ.set i (some v)) H { s with sl := s.sl.set i (.v d) } := R.set (r := .v d) (by rw [← R.len]; exact hi) rr trivial
theorem s_par {i j : Nat} {x y : Str} {px py pt : Pos} {kt k2 pt2} (hN : X.N.Nodup) (ha : PAM X g W [a, b] ls) (hc : X.calm = true := by rfl) (hi : X.N[i]? = some x := by rfl) (hj : X.N[j]? = some y := by rfl) (hij : i ≠ j := by decide)
    (hx : X.env.scope.names.lookup x = some .local := by rfl) (hy : X.env.scope.names.lookup y = some .local := by rfl)
    (hw : swappedStores [.Tuple [.Name x px, .Name y py] kt pt] (.Tuple [a, b] k2 pt2) X.env = pure (some [x, y]) := by rfl)
    (hs : swapsWithSole [.Tuple [.Name x px, .Name y py] kt pt] (.Tuple [a, b] k2 pt2) pos.line X.env = pure false := by rfl) : PSM X g W (.Assign [.Tuple [.Name x px, .Name y py] kt pt] (.Tuple [a, b] k2 pt2) pos) (parM [i, j] ls) := PS.imp (ps_par hc hN hi hj hij hx hy ha hw hs) fun D σ H ⟨H0, s, R, q⟩ => by
  unfold parM at q
  rw [on_bind] at q
  refine ⟨H0, s, R, Out.on_imp q (fun ds s1 q vs H1 H2 e R1 rs => ?_) fun _ _ q => q.e⟩
  match ds, rs, q with
  | [d1, d2], rs, q =>
    obtain ⟨v, w, rfl, r1, r2⟩ := rs.cases2
    have q : (mbind (stV i (.v d1)) (fun _ => mbind (stV j (.v d2)) fun _ => mret Fl.nx) s1).on _ _ := q
    rw [on_bind] at q
    obtain ⟨l1, q⟩ := on_stV q
    rw [on_bind] at q
    obtain ⟨l2, q⟩ := on_stV q
    exact ⟨v, w, rfl, q _ H1 H2 e ((R1.setv l1 r1).setv l2 r2)⟩
  | [], _, q => exact q.elim
  | [_], _, q => exact q.elim
  | _ :: _ :: _ :: _, _, q => exact q.elim
theorem s_par3 {i j l : Nat} {x y z : Str} {px py pz pt : Pos} {kt k2 pt2} (hN : X.N.Nodup) (ha : PAM X g W [a, b, c] ls) (hc : X.calm = true := by rfl) (hi : X.N[i]? = some x := by rfl) (hj : X.N[j]? = some y := by rfl) (hl : X.N[l]? = some z := by rfl) (hij : i ≠ j := by decide) (hil : i ≠ l := by decide) (hjl : j ≠ l := by decide)
    (hx : X.env.scope.names.lookup x = some .local := by rfl) (hy : X.env.scope.names.lookup y = some .local := by rfl) (hz : X.env.scope.names.lookup z = some .local := by rfl)
    (hw : swappedStores [.Tuple [.Name x px, .Name y py, .Name z pz] kt pt] (.Tuple [a, b, c] k2 pt2) X.env = pure (some [x, y, z]) := by rfl)
    (hs : swapsWithSole [.Tuple [.Name x px, .Name y py, .Name z pz] kt pt] (.Tuple [a, b, c] k2 pt2) pos.line X.env = pure false := by rfl) : PSM X g W (.Assign [.Tuple [.Name x px, .Name y py, .Name z pz] kt pt] (.Tuple [a, b, c] k2 pt2) pos) (parM [i, j, l] ls) := PS.imp (ps_par3 hc hN hi hj hl hij hil hjl hx hy hz ha hw hs) fun D σ H ⟨H0, s, R, q⟩ => by
  unfold parM at q
  rw [on_bind] at q
  refine ⟨H0, s, R, Out.on_imp q (fun ds s1 q vs H1 H2 e R1 rs => ?_) fun _ _ q => q.e⟩
  match ds, rs, q with
  | [d1, d2, d3], rs, q =>
    obtain ⟨v, ws, rfl, r1, rs⟩ := rs.cases_cons
    obtain ⟨w, u, rfl, r2, r3⟩ := rs.cases2
    have q : (mbind (stV i (.v d1)) (fun _ => mbind (stV j (.v d2)) fun _ => mbind (stV l (.v d3)) fun _ => mret Fl.nx) s1).on _ _ := q
    rw [on_bind] at q
    obtain ⟨l1, q⟩ := on_stV q
    rw [on_bind] at q
    obtain ⟨l2, q⟩ := on_stV q
    rw [on_bind] at q
    obtain ⟨l3, q⟩ := on_stV q
    exact ⟨v, w, u, rfl, q _ H1 H2 e (((R1.setv l1 r1).setv l2 r2).setv l3 r3)⟩
  | [], _, q => exact q.elim
  | [_], _, q => exact q.elim
  | [_, _], _, q => exact q.elim
  | _ :: _ :: _ :: _ :: _, _, q => exact q.elim
/-! ### x op= e -/
def augM (i : Nat) (fo : D → D → Option RV) (m : M β RV) : M β Fl := fun s => match s.sl[i]? with
  | some (.v d) => mbind m (fun y => mbind (opt (fo d y.d)) fun r => mbind (stV i r) fun _ => mret .nx) s
  | _ => .bad
structure Aug (X : Cx) (op : Operator) (fo : D → D → Option RV) : Prop where
  ex : ∃ r, OpR X (inplaceOp op) r ∧ OpOk X.K r fo
def iaddD : D → D → Option RV
  | .int i, .int j => some (.v (.int (i + j)))
  | .str x, .str y => if x.length + y.length ≤ sizeLine then some (.v (.str (x ++ y))) else none
  | _, _ => none
theorem ok_iadd {K : PySem.W.Frag} : OpOk K (fun x y H Q => rI0 (fun i j => .int (i + j)) x y H Q ∨ (∃ i j, x = .str i ∧ y = .str j ∧ i.length + j.length ≤ sizeLine ∧ Q (.str (i ++ j)) H)) iaddD := fun bx H0 H x y dx dy rz Q sub rx ry e k => by
  unfold iaddD at e
  split at e
  · cases e; cases rx; cases ry; exact .inl ⟨_, _, rfl, rfl, k.val sub .int⟩
  · split at e
    · rename_i h; cases e; cases rx; cases ry; exact .inr ⟨_, _, rfl, rfl, h, k.val sub .str⟩
    · cases e
  · cases e
theorem i_add : Aug X .Add iaddD := ⟨_, iop_add.or iop_add_str, ok_iadd⟩
theorem i_sub : Aug X .Sub subD := ⟨_, iop_sub, ok_sub⟩
theorem s_aug (i : Nat) {x : Str} {op : Operator} {fo : D → D → Option RV} {p : Pos} (ha : Aug X op fo) (hN : X.N.Nodup) (h : PEM X g W e m) (hi : X.N[i]? = some x := by rfl) (hx : Loc X.env.scope x := by first | exact Or.inl rfl | exact Or.inr rfl) (hf : X.fn x = true ∨ X.env.scope.names.lookup x = some .local := by first | exact .inl rfl | exact .inr rfl | assumption) :
    PSM X g W (.AugAssign (.Name x p) op e pos) (augM i fo m) := by
  obtain ⟨r, ho, ok⟩ := ha.ex
  refine PS.imp (ps_aug hN hi hx h.d (show PIp X op r from ho) hf) fun D σ H ⟨H0, s, R, q⟩ => ?_
  unfold augM at q
  cases hs : s.sl[i]? with
  | none => rw [hs] at q; exact q.elim
  | some k =>
    rw [hs] at q
    have hl : i < s.sl.length := (List.getElem?_eq_some_iff.mp hs).1
    have hi' : i < σ.length := by rw [← R.len]; exact hl
    have sr := R.slot i k σ[i] hs (by simp [hi'])
    cases k with
    | no => exact q.elim
    | o ds => exact q.elim
    | v d =>
      obtain ⟨v, e1, rv⟩ := sr
      have q : (mbind m (fun y => mbind (opt (fo d y.d)) fun r => mbind (stV i r) fun _ => mret Fl.nx) s).on _ _ := q
      rw [on_bind] at q
      refine ⟨v, by simp [hi', e1], H0, s, R, Out.on_imp q (fun y s1 q u H1 H2 e2 R1 ru => ?_) fun _ _ q => q.e⟩
      rw [on_bind, on_opt] at q
      obtain ⟨rz, ez, q⟩ := q
      refine ok g.bx H1 H2 v u d y.d rz _ R1.r0.sub (rv.mono e2) ru ez (fin_of2 R1 fun z H3 H4 e3 R3 rr ap => ?_)
      rw [on_bind] at q
      obtain ⟨l1, q⟩ := on_stV q
      exact q _ H3 H4 (e2.trans e3) (R3.set (by rw [← R3.len]; exact l1) rr ap)
/-! ### while -/
def loopK (k : M β Fl) : Fl → M β Fl
  | .nx => k
  | .ct => k
  | .bk => mret .nx
  | .rt r => mret (.rt r)
def whM : Nat → M β Bool → M β Fl → M β Fl
  | 0, _, _ => mbad
  | n + 1, c, b => mbind c fun k => mIte k (mbind b (loopK (whM n c b))) (mret .nx)
theorem s_while (n : Nat) (hp : PassesOwn (model X.prog X.w) X.A X.env X.xe) (hc : PTM X g W c cm) (hb : PSSM X g W body f) : PSM X g W (.While c body [] pos) (whM n cm f) := PS.imp (ps_while hp hc hb) fun D σ H ⟨H0, s, R, q⟩ => by
  refine ⟨fun n σ H => ∃ H1 s, Ex H0 H1 ∧ Rel X.K g H1 σ H s ∧ (whM n cm f s).on (FlP X.K g D H1) (EscS X.K X.mg g W H1), ⟨n, H0, s, Ex.refl _, R, q⟩, ?_⟩
  rintro n σ H ⟨H1, s, e1, R, q⟩
  cases n with
  | zero => exact q.elim
  | succ n =>
    have q : (mbind cm (fun k => mIte k (mbind f (loopK (whM n cm f))) (mret Fl.nx)) s).on _ _ := q
    rw [on_bind] at q
    refine ⟨H1, s, R, Out.on_imp q (fun k s1 q H2 H3 e2 R1 => ?_) fun _ _ q => q.e⟩
    cases k with
    | false => rw [if_neg Bool.false_ne_true]; exact q σ H2 H3 e2 R1
    | true =>
      rw [if_pos rfl]
      have q : (mbind f (loopK (whM n cm f)) s1).on _ _ := q
      rw [on_bind] at q
      refine ⟨fun σ' H' => ∃ H4 s, Ex H0 H4 ∧ Rel X.K g H4 σ' H' s ∧ (whM n cm f s).on (FlP X.K g D H4) (EscS X.K X.mg g W H4), fun σ' H' h => ⟨n, Nat.lt_succ_self _, h⟩, H2, s1, R1, Out.on_imp q (fun fl s2 q => ?_) fun _ _ q => q.back e2⟩
      cases fl with
      | nx => exact fun σ' H4 H5 e4 R4 => ⟨H4, s2, (e1.trans e2).trans e4, R4, on_back q (e2.trans e4)⟩
      | ct => exact fun σ' H4 H5 e4 R4 => ⟨H4, s2, (e1.trans e2).trans e4, R4, on_back q (e2.trans e4)⟩
      | bk => exact fun σ' H4 H5 e4 R4 => q σ' H4 H5 (e2.trans e4) R4
      | rt r => exact fun v σ' H4 H5 e4 R4 rr => q v σ' H4 H5 (e2.trans e4) R4 rr
/-! ### for -/
structure Walks (K : PySem.W.Frag) (bx : Addr) (J : It) (H0 : Hp) (ds : List D) : Prop where
  stop : ∀ H, Ex H0 H → J.stop ds.length H
  go : ∀ H (i : Nat) (d : D), Ex H0 H → ds[i]? = some d → J.go i H
  yld : ∀ Ht H (i : Nat) (d : D) (x : V) H', Ex H0 Ht → Ex Ht H → ds[i]? = some d → J.yld i H x H' → ∃ H0', Grow Ht H H0' H' ∧ Rep K bx H0' x d
def tI (K : PySem.W.Frag) (mg : Str → Option Value) (g : G β) (W : WX) (mi : M β (List D)) : TI := fun σ H R' => ∃ H0 s, Rel K g H0 σ H s ∧ (mi s).on (fun ds s' => ∀ J H0' H', Ex H0 H0' → Rel K g H0' σ H' s' → Walks K g.bx J H0' ds → R' J H') (Esc K mg g W H0 σ)
abbrev PIM (X : Cx) (g : G β) (W : WX) (tg iter : Expr) (mi : M β (List D)) : Prop := PI X tg iter (tI X.K X.mg g W mi)
theorem PI.imp {X : Cx} {tg e : Expr} {t t' : TI} (h : PI X tg e t) (i : ∀ σ H Q, t' σ H Q → t σ H Q) : PI X tg e t' := ⟨fun pins s σ H Q I q => h.run pins s σ H Q I (i σ H Q q)⟩
def frM (t : D → M β Unit) (b : M β Fl) : List D → M β Fl
  | [] => mret .nx
  | d :: ds => mbind (noX (t d)) fun _ => mbind b (loopK (frM t b ds))
def forM (mi : M β (List D)) (t : D → M β Unit) (b : M β Fl) : M β Fl := mbind mi (frM t b)
theorem s_for {mi : M β (List D)} (hp : PassesOwn (model X.prog X.w) X.A X.env X.xe) (hc : X.calm = true) (hi : PIM X g W tg iter mi) (hg : PGM X g tgt tg t) (hb : PSSM X g W body f) (hs : ∀ x, foldedSetIterable iter X.env x = pure x := by intro _; rfl) : PSM X g W (.For tg iter body [] pos) (forM mi t f) := PS.imp (ps_for hp hc hi hg hb hs) fun D σ H ⟨H0, s, R, q⟩ => by
  unfold forM at q
  rw [on_bind] at q
  refine ⟨H0, s, R, Out.on_imp q (fun ds s1 q J H1 H2 e1 R1 wk => ?_) fun _ _ q => q.e⟩
  refine ⟨fun i k σ H => i + k = ds.length ∧ ∃ H3 s, Ex H1 H3 ∧ Rel X.K g H3 σ H s ∧ (frM t f (ds.drop i) s).on (FlP X.K g D H3) (EscS X.K X.mg g W H3), ⟨ds.length, by simp, H1, s1, Ex.refl _, R1, on_back q e1⟩, ?_⟩
  rintro i k σ H ⟨hk, H3, s, e3, R3, q⟩
  by_cases hlt : i < ds.length
  · refine .inr ⟨wk.go H i ds[i] (e3.trans R3.r0.sub) (by simp [hlt]), fun σ' H' => ∃ H3 s, Ex H1 H3 ∧ Rel X.K g H3 σ' H' s ∧ (frM t f (ds.drop (i + 1)) s).on (FlP X.K g D H3) (EscS X.K X.mg g W H3), fun σ' H' h => ⟨k - 1, by omega, by omega, h⟩, fun x H' y => ?_⟩
    obtain ⟨H4, gr, rx⟩ := wk.yld H3 H i ds[i] x H' e3 R3.r0.sub (by simp [hlt]) y
    have R4 := R3.grow gr.e0 gr.e gr.sub gr.new
    rw [show ds.drop i = ds[i] :: ds.drop (i + 1) from List.drop_eq_getElem_cons hlt] at q
    have q : (mbind (noX (t ds[i])) (fun _ => mbind f (loopK (frM t f (ds.drop (i + 1))))) s).on _ _ := q
    rw [on_bind] at q
    refine ⟨H4, s, ds[i], R4, rx, Out.on_imp (on_noX q) (fun _ s5 q σ5 H5 H6 _ e5 R5 => ?_) fun _ _ q => q⟩
    rw [on_bind] at q
    have e35 : Ex H3 H5 := gr.e0.trans e5
    refine ⟨H5, s5, R5, Out.on_imp q (fun fl s6 q => ?_) fun _ _ q => q.back e35⟩
    cases fl with
    | nx => exact fun σ' H7 H8 e7 R7 => ⟨H7, s6, (e3.trans e35).trans e7, R7, on_back q (e35.trans e7)⟩
    | ct => exact fun σ' H7 H8 e7 R7 => ⟨H7, s6, (e3.trans e35).trans e7, R7, on_back q (e35.trans e7)⟩
    | bk => exact fun σ' H7 H8 e7 R7 => q σ' H7 H8 (e35.trans e7) R7
    | rt r => exact fun v σ' H7 H8 e7 R7 rr => q v σ' H7 H8 (e35.trans e7) R7 rr
  · have ei : i = ds.length := by omega
    subst ei
    rw [List.drop_length] at q
    exact .inl ⟨wk.stop H (e3.trans R3.r0.sub), q σ H3 H (Ex.refl _) R3⟩
/-! ### what is walked -/
def itD : D → Option (List D)
  | .lst ds => some ds
  | .tup ds => some ds
  | _ => none
def itM (m : M β RV) : M β (List D) := mbind m fun r => opt (itD r.d)
theorem walks_l {K : PySem.W.Frag} {bx : Addr} {H0 : Hp} {a : Addr} {vs : List V} {ds : List D} (h : H0 a = some (.lst vs)) (rs : Reps K bx H0 vs ds) : Walks K bx (Itl K a) H0 ds := by
  refine ⟨fun H e => ⟨vs, .of (e _ _ h), by rw [rs.len]; exact Nat.le_refl _⟩, fun H i d e hd => ?_, fun Ht H i d x H' e0 e hd y => ?_⟩
  · obtain ⟨v, hv, _⟩ := rs.at hd
    exact ⟨vs, v, .of (e _ _ h), hv⟩
  · obtain ⟨rfl, y⟩ := y
    have hx := y vs (.of (e _ _ (e0 _ _ h)))
    obtain ⟨d', hd', r⟩ := rs.atV hx
    rw [hd] at hd'; cases hd'
    exact ⟨Ht, Grow.refl e, r.mono e0⟩
theorem walks_t {K : PySem.W.Frag} {bx : Addr} {H0 : Hp} {a : Addr} {vs : List V} {ds : List D} (h : SqT K H0 a vs) (rs : Reps K bx H0 vs ds) : Walks K bx (Itt K a) H0 ds := by
  refine ⟨fun H e => ⟨vs, e.t h, by rw [rs.len]; exact Nat.le_refl _⟩, fun H i d e hd => ?_, fun Ht H i d x H' e0 e hd y => ?_⟩
  · obtain ⟨v, hv, _⟩ := rs.at hd
    exact ⟨vs, v, e.t h, hv⟩
  · obtain ⟨rfl, y⟩ := y
    have hx := y vs (e.t (e0.t h))
    obtain ⟨d', hd', r⟩ := rs.atV hx
    rw [hd] at hd'; cases hd'
    exact ⟨Ht, Grow.refl e, r.mono e0⟩
theorem PI.or {tg e : Expr} {t t' : TI} (h : PI X tg e t) (h' : PI X tg e t') : PI X tg e (fun σ H R => t σ H R ∨ t' σ H R) := ⟨fun pins s σ H R I q => by
  rcases q with q | q
  · exact h.run pins s σ H R I q
  · exact h'.run pins s σ H R I q⟩
/-- a list or a tuple that is walked: which one is known before it is looked at -/
theorem pi_seq {e : Expr} {te : TE} (he : PE X e te) : PI X tg e (fun σ H R => te σ H fun x H1 => ∃ a, x = .ref a ∧ (((∃ xs, SqL X.K H1 a xs) ∧ R (Itl X.K a) H1) ∨ ((∃ xs, SqT X.K H1 a xs) ∧ R (Itt X.K a) H1))) := by
  refine ⟨fun pins s σ H R I h => ?_⟩
  refine thn (he.run pins s σ H _ I h) fun v s1 ⟨x, H1, I1, r1, a, ea, q⟩ => ?_
  subst ea
  cases r1
  rcases q with ⟨⟨xs, hq⟩, q⟩ | ⟨⟨xs, hq⟩, q⟩
  · obtain ⟨its, rv, p, hz⟩ := I1.list hq
    refine wpAny_pyIter_list p.isList ?_
    refine ⟨s1.heap.objs.size, [s1.heap.objs.size], _, _, H1, rfl, I1.kept (t' := s1.toks) fun b o e => Heap.get?_push_of_some _ e, turn_list a _, ⟨_, Heap.get?_push_size _ rfl, rfl, rfl⟩, fun b hb => ?_, q⟩
    have e : b = s1.heap.objs.size := by simpa using hb
    subst e
    exact I1.fpOk (Nat.le_refl _) (I1.hok.fresh (Nat.le_refl _))
  · obtain ⟨its, rv, p, hz⟩ := I1.tuple hq
    refine wpAny_pyIter_tuple (show s1.heap.IsTuple a its.toArray from p) ?_
    refine ⟨s1.heap.objs.size, [s1.heap.objs.size], _, _, H1, rfl, I1.kept (t' := s1.toks) fun b o e => Heap.get?_push_of_some _ e, turn_tuple a _, ⟨_, Heap.get?_push_size _ rfl, rfl, rfl⟩, fun b hb => ?_, q⟩
    have e : b = s1.heap.objs.size := by simpa using hb
    subst e
    exact I1.fpOk (Nat.le_refl _) (I1.hok.fresh (Nat.le_refl _))
theorem i_seq (he : PEM X g W e m) : PIM X g W tg e (itM m) := PI.imp (pi_seq he.d) fun σ H Q ⟨H0, s, R, q⟩ => by
  unfold itM at q
  rw [on_bind] at q
  refine ⟨H0, s, R, Out.on_imp q (fun r s1 q v H1 H2 e1 R1 rr => ?_) fun _ _ q => q⟩
  rw [on_opt] at q
  obtain ⟨ds, ed, q⟩ := q
  cases hd : r.d with
  | lst ds' =>
    rw [hd] at ed rr
    cases ed
    cases rr with
    | lst h l z => exact ⟨_, rfl, .inl ⟨⟨_, .of (R1.r0.sub _ _ h)⟩, q _ H1 H2 e1 R1 (walks_l h ⟨l, z⟩)⟩⟩
  | tup ds' =>
    rw [hd] at ed rr
    cases ed
    cases rr with
    | tup h l z => exact ⟨_, rfl, .inr ⟨⟨_, R1.r0.sub.t h⟩, q _ H1 H2 e1 R1 (walks_t h ⟨l, z⟩)⟩⟩
  | _ => rw [hd] at ed; cases ed
def rgL (lo hi : Int) : List D := (List.range (hi - lo).toNat).map fun i : Nat => D.int (lo + (i : Int))
theorem rgL_length (lo hi : Int) : (rgL lo hi).length = (hi - lo).toNat := by unfold rgL; simp
def rngD1 : List D → Option (List D)
  | [.int j] => if -(2 ^ 62) ≤ j ∧ j < 2 ^ 62 then some (rgL 0 j) else none
  | _ => none
def rngD2 : List D → Option (List D)
  | [.int i, .int j] => if -(2 ^ 62) ≤ i ∧ i < 2 ^ 62 ∧ -(2 ^ 62) ≤ j ∧ j < 2 ^ 62 then some (rgL i j) else none
  | _ => none
def rngM1 (ls : M β (List D)) : M β (List D) := mbind ls fun ds => opt (rngD1 ds)
def rngM2 (ls : M β (List D)) : M β (List D) := mbind ls fun ds => opt (rngD2 ds)
theorem walks_r {K : PySem.W.Frag} {bx : Addr} {H0 : Hp} {lo hi : Int} : Walks K bx (Itr lo (hi - lo).toNat) H0 (rgL lo hi) := by
  refine ⟨fun H e => by show (hi - lo).toNat ≤ (rgL lo hi).length; rw [rgL_length]; exact Nat.le_refl _, fun H i d e hd => ?_, fun Ht H i d x H' e0 e hd y => ?_⟩
  · have := (List.getElem?_eq_some_iff.mp hd).1
    rw [rgL_length] at this
    exact this
  · obtain ⟨rfl, rfl⟩ := y
    have hi' := (List.getElem?_eq_some_iff.mp hd).1
    rw [rgL_length] at hi'
    unfold rgL at hd
    rw [List.getElem?_map, List.getElem?_range hi'] at hd
    cases hd
    exact ⟨Ht, Grow.refl e, .int⟩
theorem i_range1 {p : Pos} (hm : X.mg "range" = none) (ha : PAM X g W [a] ls) (hg : Gl X "range" := by rfl) (hs : starEach [a] X.env = [(false, eval a X.env)] := by rfl) : PIM X g W tg (.Call (.Name "range" p) [a] [] pos) (rngM1 ls) := PI.imp (pi_range1 hg hm ha hs) fun σ H Q ⟨H0, s, R, q⟩ => by
  unfold rngM1 at q
  rw [on_bind] at q
  refine ⟨H0, s, R, Out.on_imp q (fun r s1 q v H1 H2 e1 R1 rr => ?_) fun _ _ q => q⟩
  rw [on_opt] at q
  obtain ⟨ds, ed, q⟩ := q
  unfold rngD1 at ed
  split at ed
  · rename_i j
    split at ed
    · rename_i hj
      cases ed
      obtain ⟨v, rfl, r⟩ := rr.cases1
      cases r
      refine ⟨j, rfl, hj.1, hj.2, q _ H1 H2 e1 R1 ?_⟩
      have := walks_r (K := X.K) (bx := g.bx) (H0 := H1) (lo := 0) (hi := j)
      simpa using this
    · cases ed
  · cases ed
theorem i_range2 {p : Pos} (hm : X.mg "range" = none) (ha : PAM X g W [a, b] ls) (hg : Gl X "range" := by rfl) (hs : starEach [a, b] X.env = [(false, eval a X.env), (false, eval b X.env)] := by rfl) (hs2 : starEach [b] X.env = [(false, eval b X.env)] := by rfl) : PIM X g W tg (.Call (.Name "range" p) [a, b] [] pos) (rngM2 ls) := PI.imp (pi_range2 hg hm ha hs hs2) fun σ H Q ⟨H0, s, R, q⟩ => by
  unfold rngM2 at q
  rw [on_bind] at q
  refine ⟨H0, s, R, Out.on_imp q (fun r s1 q v H1 H2 e1 R1 rr => ?_) fun _ _ q => q⟩
  rw [on_opt] at q
  obtain ⟨ds, ed, q⟩ := q
  unfold rngD2 at ed
  split at ed
  · rename_i i j
    split at ed
    · rename_i hj
      cases ed
      obtain ⟨v, u, rfl, r, r'⟩ := rr.cases2
      cases r; cases r'
      exact ⟨i, j, rfl, hj, q _ H1 H2 e1 R1 walks_r⟩
    · cases ed
  · cases ed
end
end DL

set_option Elab.async false
set_option linter.all false
set_option maxRecDepth 100000
namespace DL
open PySem PySem.Spec L2
/-! ### a list of one's own is changed -/
section
variable {β : Type} {K : PySem.W.Frag} {mg : Str → Option Value} {g : G β} {W : WX} {H0 H H0' H' : Hp} {σ : L2.St} {s s' : S β} {v : V} {r : RV}
theorem Rel.setO (R : Rel K g H0 σ H s) {i : Nat} {ds ds' : List D} {p : Addr} {vs' : List V} (hs : s.sl[i]? = some (.o ds)) (hσ : σ[i]? = some (some (.ref p))) (rs : Reps K g.bx H0 vs' ds') : Rel K g H0 σ (upd H p (.lst vs')) { s with sl := s.sl.set i (.o ds') } := by
  obtain ⟨p', vs, e1, hp, _, n0, nF, nb⟩ := R.slot i _ _ hs hσ
  cases e1
  have hl : i < s.sl.length := (List.getElem?_eq_some_iff.mp hs).1
  obtain ⟨o, hb, ib⟩ := R.r0.it
  refine ⟨⟨fun a u e => ?_, fun a u e => ?_, R.r0.dis, R.r0.bxn, R.r0.bxF, o, ?_, ib⟩, by simpa using R.len, fun j k x h1 h2 => ?_, fun j l es es' q h1 h2 h3 h4 => ?_⟩
  · rw [upd_ne fun z => ?_]
    · exact R.r0.sub a u e
    · subst z; rw [n0] at e; cases e
  · rw [upd_ne fun z => ?_]
    · exact R.r0.frm a u e
    · subst z; rw [nF] at e; cases e
  · rw [upd_ne (Ne.symm nb)]; exact hb
  · have h1 : (s.sl.set i (.o ds'))[j]? = some k := h1
    by_cases hj : i = j
    · subst hj
      rw [List.getElem?_set_self hl] at h1
      rw [hσ] at h2
      cases h1; cases h2
      exact ⟨p, vs', rfl, upd_same, rs, n0, nF, nb⟩
    · rw [List.getElem?_set_ne hj] at h1
      have sr := R.slot j k x h1 h2
      cases k with
      | no => trivial
      | v d => exact sr
      | o es =>
        obtain ⟨q, ws, e2, hq, rest⟩ := sr
        refine ⟨q, ws, e2, ?_, rest⟩
        rw [upd_ne fun z => ?_]
        · exact hq
        · subst z; subst e2
          exact hj (R.dist i j ds es q hs h1 hσ h2)
  · have fix : ∀ {j : Nat} {es : List D}, (s.sl.set i (.o ds'))[j]? = some (.o es) → ∃ es', s.sl[j]? = some (.o es') := fun {j es} h => by
      by_cases hj : i = j
      · subst hj; exact ⟨ds, hs⟩
      · rw [List.getElem?_set_ne hj] at h; exact ⟨es, h⟩
    obtain ⟨a1, q1⟩ := fix h1
    obtain ⟨a2, q2⟩ := fix h2
    exact R.dist j l a1 a2 q q1 q2 h3 h4
theorem Rel.own_at (R : Rel K g H0 σ H s) {i : Nat} {ds : List D} (hs : s.sl[i]? = some (.o ds)) : ∃ p, σ[i]? = some (some (.ref p)) ∧ ∃ vs, H p = some (.lst vs) ∧ Reps K g.bx H0 vs ds ∧ H0 p = none := by
  have hi : i < σ.length := by rw [← R.len]; exact (List.getElem?_eq_some_iff.mp hs).1
  obtain ⟨p, vs, e1, hp, rs, n0, _⟩ := R.slot i _ σ[i] hs (by simp [hi])
  exact ⟨p, by simp [hi, e1], vs, hp, rs, n0⟩
def ownAt (i : Nat) : M β (List D) := fun s => match s.sl[i]? with
  | some (.o ds) => .ok ds s
  | _ => .bad
def putO (i : Nat) (ds : List D) : M β Unit := fun s => .ok () { s with sl := s.sl.set i (.o ds) }
theorem on_ownAt {i : Nat} {k : List D → S β → Prop} {e : Exc → S β → Prop} (h : (ownAt i s).on k e) : ∃ ds, s.sl[i]? = some (.o ds) ∧ k ds s := by
  unfold ownAt at h
  revert h
  split
  · rename_i ds q; exact fun h => ⟨ds, q, h⟩
  · exact fun h => h.elim
/-- o.m(..): f tells what comes back, and the list behind it -/
def metM (i : Nat) (f : List D → List D → Option (D × List D)) (ls : M β (List D)) : M β RV := mbind (ownAt i) fun _ => mbind ls fun as => mbind (ownAt i) fun ds => mbind (opt (f ds as)) fun q => mbind (putO i q.2) fun _ => mret (.v q.1)
def MetOk (K : PySem.W.Frag) (r : V → List V → Hp → VK → Prop) (f : List D → List D → Option (D × List D)) : Prop := ∀ bx H0 H l vs ds avs as d ds' Q, Ex H0 H → H l = some (.lst vs) → Reps K bx H0 vs ds → Reps K bx H0 avs as → f ds as = some (d, ds') →
  (∀ v vs', Rep K bx H0 v d → Reps K bx H0 vs' ds' → Q v (upd H l (.lst vs'))) → r (.ref l) avs H Q
theorem met_tE {r : V → List V → Hp → VK → Prop} {f : List D → List D → Option (D × List D)} {ls : M β (List D)} {i : Nat} {Q : VK} (ok : MetOk K r f) (h : tE K mg g W (metM i f ls) σ H Q) : tBM K "list" r (tVar i) (tA' K mg g W ls) σ H Q := by
  obtain ⟨H0, s, R, h⟩ := h
  unfold metM at h
  rw [on_bind] at h
  obtain ⟨ds0, hs, h⟩ := on_ownAt h
  obtain ⟨p, hσ, vs0, hp, _⟩ := R.own_at hs
  refine ⟨.ref p, hσ, .inl ⟨rfl, _, .of hp⟩, H0, s, R, ?_⟩
  rw [on_bind] at h
  refine Out.on_imp h (fun as s1 h avs H1 H2 e1 R1 ra => ?_) fun _ _ q => q
  rw [on_bind] at h
  obtain ⟨ds, hs1, h⟩ := on_ownAt h
  rw [on_bind, on_opt] at h
  obtain ⟨⟨d, ds'⟩, ef, h⟩ := h
  obtain ⟨p', hσ', vs, hp', rs, _⟩ := R1.own_at hs1
  rw [hσ] at hσ'; cases hσ'
  exact ok g.bx H1 H2 p vs ds avs as d ds' Q R1.r0.sub hp' rs ra ef fun v vs' rv rs' => h v H1 _ e1 (R1.setO hs1 hσ rs') rv trivial
theorem met0_tE {r : V → List V → Hp → VK → Prop} {f : List D → List D → Option (D × List D)} {i : Nat} {Q : VK} (ok : MetOk K r f) (h : tE K mg g W (metM i f (mret [])) σ H Q) : tBM0 K "list" r (tVar i) σ H Q := by
  obtain ⟨x, hx, ty, q⟩ := met_tE (mg := mg) (W := W) ok h
  refine ⟨x, hx, ty, ?_⟩
  obtain ⟨H0, s, R, q⟩ := q
  exact q [] H0 H (Ex.refl _) R .nil
end
section
variable {K : PySem.W.Frag}
def appendF : List D → List D → Option (D × List D)
  | ds, [d] => if ds.length < sizeLine then some (.non, ds ++ [d]) else none
  | _, _ => none
theorem ok_append : MetOk K rAppend appendF := fun bx H0 H l vs ds avs as d ds' Q sub hl rs ra e k => by
  unfold appendF at e
  split at e
  · split at e
    · rename_i hz
      cases e
      obtain ⟨v, rfl, r⟩ := ra.cases1
      exact ⟨l, vs, v, rfl, rfl, hl, by rw [rs.len]; exact hz, k _ _ .non (rs.append (.one r))⟩
    · cases e
  · cases e
def popF : List D → List D → Option (D × List D)
  | ds, [] => (ds[ds.length - 1]?).map fun d => (d, ds.dropLast)
  | _, _ => none
theorem ok_pop : MetOk K rPop popF := fun bx H0 H l vs ds avs as d ds' Q sub hl rs ra e k => by
  unfold popF at e
  split at e
  · rw [Option.map_eq_some_iff] at e
    obtain ⟨d', hd, e⟩ := e
    cases e
    obtain ⟨v, hv, rv⟩ := rs.at hd
    have := ra.cases_nil
    subst this
    refine ⟨l, vs, v, rfl, rfl, hl, by rw [rs.len]; exact hv, k v _ rv ?_⟩
    rw [List.dropLast_eq_take, List.dropLast_eq_take, ← rs.len]
    exact rs.take _
  · cases e
def popAtF : List D → List D → Option (D × List D)
  | ds, [.int i] => if -(2 ^ 63) ≤ i ∧ i < 2 ^ 63 then (seqIndex? i ds.length).bind fun k => (ds[k]?).map fun d => (d, ds.eraseIdx k) else none
  | _, _ => none
theorem Reps.erase {bx : Addr} {H : Hp} {vs : List V} {ds : List D} (rs : Reps K bx H vs ds) (k : Nat) : Reps K bx H (vs.eraseIdx k) (ds.eraseIdx k) := by
  rw [List.eraseIdx_eq_take_drop_succ, List.eraseIdx_eq_take_drop_succ]
  exact (rs.take _).append (rs.drop _)
theorem ok_popAt : MetOk K rPopAt popAtF := fun bx H0 H l vs ds avs as d ds' Q sub hl rs ra e k => by
  unfold popAtF at e
  split at e
  · rename_i i
    split at e
    · rename_i hi
      rw [Option.bind_eq_some_iff] at e
      obtain ⟨j, hj, e⟩ := e
      rw [Option.map_eq_some_iff] at e
      obtain ⟨d', hd, e⟩ := e
      cases e
      obtain ⟨v, hv, rv⟩ := rs.at hd
      obtain ⟨u, rfl, ru⟩ := ra.cases1
      cases ru
      exact ⟨l, vs, i, j, v, rfl, rfl, hl, hi.1, hi.2, by rw [rs.len]; exact hj, hv, k v _ rv (rs.erase j)⟩
    · cases e
  · cases e
def reverseF : List D → List D → Option (D × List D)
  | ds, [] => some (.non, ds.reverse)
  | _, _ => none
theorem ok_reverse : MetOk K rReverse reverseF := fun bx H0 H l vs ds avs as d ds' Q sub hl rs ra e k => by
  unfold reverseF at e
  split at e
  · cases e
    have := ra.cases_nil
    subst this
    exact ⟨l, vs, rfl, rfl, hl, k _ _ .non rs.reverse⟩
  · cases e
def clearF : List D → List D → Option (D × List D)
  | _, [] => some (.non, [])
  | _, _ => none
theorem ok_clear : MetOk K rClear clearF := fun bx H0 H l vs ds avs as d ds' Q sub hl rs ra e k => by
  unfold clearF at e
  split at e
  · cases e
    have := ra.cases_nil
    subst this
    exact ⟨l, vs, rfl, rfl, hl, k _ _ .non .nil⟩
  · cases e
def extendF : List D → List D → Option (D × List D)
  | ds, [.lst es] => if ds.length + es.length ≤ sizeLine then some (.non, ds ++ es) else none
  | _, _ => none
theorem ok_extend : MetOk K rExtend extendF := fun bx H0 H l vs ds avs as d ds' Q sub hl rs ra e k => by
  unfold extendF at e
  split at e
  · split at e
    · rename_i es hz
      cases e
      obtain ⟨v, rfl, r⟩ := ra.cases1
      cases r with
      | lst h l z => exact ⟨_, _, vs, _, rfl, rfl, hl, sub _ _ h, by rw [rs.len, l]; exact hz, k _ _ .non (rs.append ⟨l, z⟩)⟩
    · cases e
  · cases e
end
/-- which method of a list -/
structure Met (X : Cx) (name : Str) (f : List D → List D → Option (D × List D)) : Prop where
  ex : ∃ (id : String) (r : V → List V → Hp → VK → Prop), PySem.Slot "list" name id ∧ typeOf (.builtin id) = pure (.type "method_descriptor") ∧ MtR X id r ∧ MetOk X.K r f
section
variable {β : Type} {X : Cx} {g : G β} {W : WX} {a b c e o : Expr} {es : List Expr} {m : M β RV} {ls : M β (List D)} {pos cpos apos : Pos}
theorem m_append : Met X "append" appendF := ⟨_, _, PySem.F.slot_list_append, PySem.F.type_list_append, mt_append, ok_append⟩
theorem m_pop : Met X "pop" popF := ⟨_, _, PySem.F.slot_list_pop, PySem.F.type_list_pop, mt_pop, ok_pop⟩
theorem m_popAt : Met X "pop" popAtF := ⟨_, _, PySem.F.slot_list_pop, PySem.F.type_list_pop, mt_popAt, ok_popAt⟩
theorem m_reverse : Met X "reverse" reverseF := ⟨_, _, PySem.F.slot_list_reverse, PySem.F.type_list_reverse, mt_reverse, ok_reverse⟩
theorem m_clear : Met X "clear" clearF := ⟨_, _, PySem.F.slot_list_clear, PySem.F.type_list_clear, mt_clear, ok_clear⟩
theorem m_extend : Met X "extend" extendF := ⟨_, _, PySem.F.slot_list_extend, PySem.F.type_list_extend, mt_extend, ok_extend⟩
theorem e_met (i : Nat) {x name : Str} {p : Pos} {f : List D → List D → Option (D × List D)} (hm : Met X name f) (ha : PAM X g W (e :: es) ls) (hN : X.N[i]? = some x := by rfl) (hv : Vis X.env.scope x := by first | exact Or.inl rfl | exact Or.inr (Or.inl rfl) | exact Or.inr (Or.inr rfl)) (hd : (x == ("__debug__" : Str)) = false := by decide)
    (hcd : (x == ("__classdict__" : Str)) = false := by decide) (hbase : attributeBase (.Name x p) name X.env (eval (.Name x p) X.env) = eval (.Name x p) X.env := by rfl)
    (hfew : ((backTo cpos (starEach (e :: es) X.env)).all (fun x => !x.1) && (backToKw cpos (keywordEach [] X.env)).all (fun x => x.1.isSome)
      && decide ((e :: es).length + ([] : List Keyword).length + (if ([] : List Keyword).isEmpty then 0 else 1) < 30)) = true := by rfl)
    (hline : (apos.endLine == cpos.line) = true := by rfl) (hs : starEach (e :: es) X.env = (false, eval e X.env) :: starEach es X.env := by rfl) (hplain : (backTo cpos (starEach es X.env)).any (·.1) = false := by rfl) :
    PEM X g W (.Call (.Attribute (.Name x p) name apos) (e :: es) [] cpos) (metM i f ls) := by
  obtain ⟨id, r, sl, ty, mt, ok⟩ := hm.ex
  exact PE.imp (pe_bm PySem.F.plainAttrs_list sl ty mt (pe_var hN hv hd hcd) ha hbase hfew hline hs hplain) fun _ _ _ => met_tE ok
theorem e_met0 (i : Nat) {x name : Str} {p : Pos} {f : List D → List D → Option (D × List D)} (hm : Met X name f) (hN : X.N[i]? = some x := by rfl) (hv : Vis X.env.scope x := by first | exact Or.inl rfl | exact Or.inr (Or.inl rfl) | exact Or.inr (Or.inr rfl)) (hd : (x == ("__debug__" : Str)) = false := by decide)
    (hcd : (x == ("__classdict__" : Str)) = false := by decide) (hbase : attributeBase (.Name x p) name X.env (eval (.Name x p) X.env) = eval (.Name x p) X.env := by rfl)
    (hline : (apos.endLine == cpos.line) = true := by rfl) : PEM X g W (.Call (.Attribute (.Name x p) name apos) [] [] cpos) (metM i f (mret [])) := by
  obtain ⟨id, r, sl, ty, mt, ok⟩ := hm.ex
  exact PE.imp (pe_bm0 PySem.F.plainAttrs_list sl ty mt (pe_var hN hv hd hcd) hbase hline) fun _ _ _ => met0_tE (mg := X.mg) (W := W) ok
/-- xs[i] = e -/
def sixM (i : Nat) (me mi : M β RV) : M β Fl := mbind me fun r => mbind (ownAt i) fun _ => mbind mi fun y => mbind (ownAt i) fun ds => mbind (opt ((asI y.d).bind fun k => ixN ds.length k)) fun j => mbind (putO i (ds.set j r.d)) fun _ => mret .nx
theorem s_six (i : Nat) {x : Str} {p pos' : Pos} {me mi : M β RV} (he : PEM X g W e me) (hi : PEM X g W b mi) (hN : X.N[i]? = some x := by rfl) (hv : Vis X.env.scope x := by first | exact Or.inl rfl | exact Or.inr (Or.inl rfl) | exact Or.inr (Or.inr rfl)) (hd : (x == ("__debug__" : Str)) = false := by decide)
    (hcd : (x == ("__classdict__" : Str)) = false := by decide)
    (ha : ∀ v, assign (.Subscript (.Name x p) b pos') X.env v = (do
      let ov ← holding [v] (eval (.Name x p) X.env)
      let iv ← holding [v, ov] (eval b X.env)
      standAt pos'
      holding [v, ov, iv] (setItem ov iv v)
      release [v, ov, iv] []) := by intros; rfl)
    (hs : swapsWithSole [.Subscript (.Name x p) b pos'] e pos.line X.env = pure false := by rfl) (hw : swappedStores [.Subscript (.Name x p) b pos'] e X.env = pure none := by rfl)
    (h1 : (assignEach [.Subscript (.Name x p) b pos'] X.env).map (·.2) = [assign (.Subscript (.Name x p) b pos') X.env] := by rfl) : PSM X g W (.Assign [.Subscript (.Name x p) b pos'] e pos) (sixM i me mi) := PS.imp (ps_asg he.d (pg_sub (pe_var hN hv hd hcd) hi.d set_list ha) hs hw h1) fun D σ H ⟨H0, s, R, q⟩ => by
  unfold sixM at q
  rw [on_bind] at q
  refine ⟨H0, s, R, Out.on_imp q (fun r s1 q v H1 H2 e1 R1 rr => ?_) fun _ _ q => q.e⟩
  rw [on_bind] at q
  obtain ⟨ds0, hs1, q⟩ := on_ownAt q
  obtain ⟨p1, hσ, vs0, hp, _⟩ := R1.own_at hs1
  refine ⟨.ref p1, hσ, H1, s1, R1, ?_⟩
  rw [on_bind] at q
  refine Out.on_imp q (fun y s2 q u H3 H4 e2 R2 ru => ?_) fun _ _ q => (q.back e1).e
  rw [on_bind] at q
  obtain ⟨ds, hs2, q⟩ := on_ownAt q
  obtain ⟨p2, hσ2, vs, hp2, rs, _⟩ := R2.own_at hs2
  rw [hσ] at hσ2; cases hσ2
  rw [on_bind, on_opt] at q
  obtain ⟨j, ej, q⟩ := q
  rw [Option.bind_eq_some_iff] at ej
  obtain ⟨k, ek, ej⟩ := ej
  rw [asI_eq ek] at ru
  cases ru
  exact ⟨p1, vs, k, j, rfl, rfl, hp2, by rw [rs.len]; exact ej, q σ H3 _ (e1.trans e2) (R2.setO hs2 hσ (rs.set (rr.mono e2) j))⟩
end
end DL

set_option Elab.async false
set_option linter.all false
set_option maxRecDepth 100000
namespace DL
open PySem PySem.Spec L2
/-! ### comprehensions -/
def G.wF {β : Type} (g : G β) (F : Hp) : G β := { g with F := F }
def wipeS (sl : List Slot) : List Nat → List Slot
  | [] => sl
  | v :: vs => (wipeS sl vs).set v .no
def restS (sl0 sl1 : List Slot) : List Nat → List Slot
  | [] => sl1
  | v :: vs => (restS sl0 sl1 vs).set v (sl0.getD v .no)
def notO : Option Slot → Bool
  | some (.o _) => false
  | some _ => true
  | none => false
def wipeOk (sl : List Slot) (own : List Nat) : Bool := own.all fun i => notO sl[i]?
def W0 : WX := fun _ _ _ _ => False
section
variable {β : Type}
def lcL (own : List Nat) (t : D → M β Unit) (c : M β Bool) (e : M β RV) : List D → List D → M β (List D)
  | acc, [] => mret acc
  | acc, d :: ds => fun s => (mbind (noX (t d)) fun _ => mbind (noX c) fun k => mIte k (mbind (noX e) fun r => mIte (decide (acc.length < sizeLine)) (lcL own t c e (acc ++ [r.d]) ds) mbad) (lcL own t c e acc ds)) { s with sl := wipeS s.sl own }
def lcM (own : List Nat) (mi : M β (List D)) (t : D → M β Unit) (c : M β Bool) (e : M β RV) : M β RV := mbind mi fun ds => fun s => mIte (wipeOk s.sl own) (mbind (noX (lcL own t c e [] ds)) fun acc => fun s' => .ok (.o acc) { s' with sl := restS s.sl s'.sl own }) mbad s
end
theorem wipeS_length (sl : List Slot) : ∀ own, (wipeS sl own).length = sl.length
  | [] => rfl
  | v :: vs => by unfold wipeS; rw [List.length_set, wipeS_length sl vs]
theorem restS_length (sl0 sl1 : List Slot) : ∀ own, (restS sl0 sl1 own).length = sl1.length
  | [] => rfl
  | v :: vs => by unfold restS; rw [List.length_set, restS_length sl0 sl1 vs]
theorem wipeS_out (sl : List Slot) {j : Nat} : ∀ {own}, j ∉ own → (wipeS sl own)[j]? = sl[j]?
  | [], _ => rfl
  | v :: vs, h => by
    unfold wipeS
    rw [List.getElem?_set_ne fun e => h (by simp [e]), wipeS_out sl fun hm => h (by simp [hm])]
theorem wipeS_in (sl : List Slot) {j : Nat} (hj : j < sl.length) : ∀ {own}, j ∈ own → (wipeS sl own)[j]? = some .no
  | [], h => by simp at h
  | v :: vs, h => by
    unfold wipeS
    by_cases e : v = j
    · subst e; rw [List.getElem?_set_self (by rw [wipeS_length]; exact hj)]
    · rw [List.getElem?_set_ne e]
      exact wipeS_in sl hj (by simpa [Ne.symm e] using h)
theorem restS_out (sl0 sl1 : List Slot) {j : Nat} : ∀ {own}, j ∉ own → (restS sl0 sl1 own)[j]? = sl1[j]?
  | [], _ => rfl
  | v :: vs, h => by
    unfold restS
    rw [List.getElem?_set_ne fun e => h (by simp [e]), restS_out sl0 sl1 fun hm => h (by simp [hm])]
theorem restS_in (sl0 sl1 : List Slot) {j : Nat} (hj : j < sl1.length) : ∀ {own}, j ∈ own → (restS sl0 sl1 own)[j]? = some (sl0.getD j .no)
  | [], h => by simp at h
  | v :: vs, h => by
    unfold restS
    by_cases e : v = j
    · subst e; rw [List.getElem?_set_self (by rw [restS_length]; exact hj)]
    · rw [List.getElem?_set_ne e]
      exact restS_in sl0 sl1 hj (by simpa [Ne.symm e] using h)
theorem wipe_out (σ : L2.St) {j : Nat} : ∀ {own}, j ∉ own → (wipe σ own)[j]? = σ[j]?
  | [], _ => rfl
  | v :: vs, h => by
    unfold wipe
    rw [List.getElem?_set_ne fun e => h (by simp [e]), wipe_out σ fun hm => h (by simp [hm])]
theorem wipe_in (σ : L2.St) {j : Nat} (hj : j < σ.length) : ∀ {own}, j ∈ own → (wipe σ own)[j]? = some none
  | [], h => by simp at h
  | v :: vs, h => by
    unfold wipe
    by_cases e : v = j
    · subst e; rw [List.getElem?_set_self (by rw [wipe_length]; exact hj)]
    · rw [List.getElem?_set_ne e]
      exact wipe_in σ hj (by simpa [Ne.symm e] using h)
theorem wipe_but {σ σ' : L2.St} {own tgt : List Nat} (h : But tgt σ σ') (hs : ∀ i ∈ tgt, i ∈ own) : wipe σ' own = wipe σ own := by
  apply List.ext_getElem?
  intro j
  by_cases hj : j ∈ own
  · by_cases hl : j < σ.length
    · rw [wipe_in σ hl hj, wipe_in σ' (by rw [h.1]; exact hl) hj]
    · rw [List.getElem?_eq_none (by rw [wipe_length, h.1]; omega), List.getElem?_eq_none (by rw [wipe_length]; omega)]
  · rw [wipe_out σ hj, wipe_out σ' hj]
    exact h.2 j fun hm => hj (hs j hm)
theorem wipe_wipe (σ : L2.St) (own : List Nat) : wipe (wipe σ own) own = wipe σ own := by
  refine wipe_but (tgt := own) ⟨wipe_length _ _, fun j hj => wipe_out σ hj⟩ fun _ h => h
section
variable {β : Type} {K : PySem.W.Frag} {mg : Str → Option Value} {g : G β} {W : WX} {H0 H H0' H' : Hp} {σ σ' : L2.St} {s s' : S β} {v : V} {r : RV} {own : List Nat}
theorem Rel.wipe (R : Rel K g H0 σ H s) (own : List Nat) : Rel K g H0 (L2.wipe σ own) H { s with sl := wipeS s.sl own } := by
  have inn : ∀ {j : Nat} {k : Slot}, (wipeS s.sl own)[j]? = some k → j ∈ own → k = .no := fun {j k} h hj => by
    have hl : j < s.sl.length := by
      have := (List.getElem?_eq_some_iff.mp h).1
      rwa [wipeS_length] at this
    rw [wipeS_in s.sl hl hj] at h
    cases h; rfl
  refine ⟨R.r0, by show (wipeS s.sl own).length = _; rw [wipeS_length, L2.wipe_length]; exact R.len, fun j k x h1 h2 => ?_, fun j l ds es p h1 h2 h3 h4 => ?_⟩
  · have h1 : (wipeS s.sl own)[j]? = some k := h1
    by_cases hj : j ∈ own
    · rw [inn h1 hj]; trivial
    · rw [wipeS_out s.sl hj] at h1
      rw [wipe_out σ hj] at h2
      exact R.slot j k x h1 h2
  · have h1 : (wipeS s.sl own)[j]? = some (.o ds) := h1
    have h2 : (wipeS s.sl own)[l]? = some (.o es) := h2
    have hj : j ∉ own := fun h => by cases inn h1 h
    have hl : l ∉ own := fun h => by cases inn h2 h
    rw [wipeS_out s.sl hj] at h1
    rw [wipeS_out s.sl hl] at h2
    rw [wipe_out σ hj] at h3
    rw [wipe_out σ hl] at h4
    exact R.dist j l ds es p h1 h2 h3 h4
/-- a new list beside all is put into the frame -/
theorem Rel.hold (R : Rel K g H0 σ H s) {Dl : Addr} {vs : List V} (hD : H Dl = none) : Rel K (g.wF (upd g.F Dl (.lst vs))) H0 σ (upd H Dl (.lst vs)) s := by
  have R1 := R.more (Ex.new (o := .lst vs) hD)
  have n0 : H0 Dl = none := R.r0.sub.back hD
  have nb : Dl ≠ g.bx := fun z => by
    obtain ⟨o, hb, _⟩ := R.r0.it
    rw [z, hb] at hD; cases hD
  refine ⟨⟨R1.r0.sub, fun a o e => ?_, fun a o e => ?_, R1.r0.bxn, ?_, R1.r0.it⟩, R1.len, fun i k x h1 h2 => ?_, R1.dist⟩
  · by_cases ha : a = Dl
    · subst ha
      have e : upd g.F a (.lst vs) a = some o := e
      rw [upd_same] at e ⊢; exact e
    · have e : upd g.F Dl (.lst vs) a = some o := e
      rw [upd_ne ha] at e; exact R1.r0.frm a o e
  · by_cases ha : a = Dl
    · subst ha; exact n0
    · have e : upd g.F Dl (.lst vs) a = some o := e
      rw [upd_ne ha] at e; exact R1.r0.dis a o e
  · show upd g.F Dl (.lst vs) g.bx = none
    rw [upd_ne (Ne.symm nb)]; exact R.r0.bxF
  · have sr := R1.slot i k x h1 h2
    have sr0 := R.slot i k x h1 h2
    cases k with
    | no => trivial
    | v d => exact sr
    | o ds =>
      obtain ⟨p, ws, e1, e2, rs, m0, mF, mb⟩ := sr
      obtain ⟨q, ws', e1', e2', _⟩ := sr0
      refine ⟨p, ws, e1, e2, rs, m0, ?_, mb⟩
      show upd g.F Dl (.lst vs) p = none
      rw [upd_ne fun z => ?_]
      · exact mF
      · subst z
        rw [e1'] at e1; cases e1
        rw [hD] at e2'; cases e2'
/-- .. it grows -/
theorem Rel.bump (R : Rel K (g.wF (upd g.F Dl (.lst vs))) H0 σ H s) (ws : List V) : Rel K (g.wF (upd g.F Dl (.lst ws))) H0 σ (upd H Dl (.lst ws)) s := by
  have hF : ∀ vs, (g.wF (upd g.F Dl (.lst vs))).F = upd g.F Dl (.lst vs) := fun _ => rfl
  have n0 : H0 Dl = none := R.r0.dis Dl (.lst vs) (by rw [hF, upd_same])
  have nb : Dl ≠ g.bx := fun z => by
    have := R.r0.bxF
    rw [hF] at this
    have this : upd g.F Dl (.lst vs) g.bx = none := this
    rw [← z, upd_same] at this; cases this
  obtain ⟨o, hb, ib⟩ := R.r0.it
  refine ⟨⟨fun a u e => ?_, fun a u e => ?_, fun a u e => ?_, R.r0.bxn, ?_, o, ?_, ib⟩, R.len, fun i k x h1 h2 => ?_, R.dist⟩
  · rw [upd_ne fun z => ?_]
    · exact R.r0.sub a u e
    · subst z; rw [n0] at e; cases e
  · have e : upd g.F Dl (.lst ws) a = some u := e
    by_cases ha : a = Dl
    · subst ha; rw [upd_same] at e ⊢; exact e
    · rw [upd_ne ha] at e ⊢
      exact R.r0.frm a u (by rw [hF, upd_ne ha]; exact e)
  · have e : upd g.F Dl (.lst ws) a = some u := e
    by_cases ha : a = Dl
    · subst ha; exact n0
    · rw [upd_ne ha] at e
      exact R.r0.dis a u (by rw [hF, upd_ne ha]; exact e)
  · show upd g.F Dl (.lst ws) g.bx = none
    have := R.r0.bxF
    rw [hF] at this
    have this : upd g.F Dl (.lst vs) g.bx = none := this
    rw [upd_ne (Ne.symm nb)] at this ⊢
    exact this
  · show upd H Dl (.lst ws) g.bx = some o
    rw [upd_ne (Ne.symm nb)]; exact hb
  · have sr := R.slot i k x h1 h2
    cases k with
    | no => trivial
    | v d => exact sr
    | o ds =>
      obtain ⟨p, us, e1, e2, rs, m0, mF, mb⟩ := sr
      have np : p ≠ Dl := fun z => by
        rw [hF, z, upd_same] at mF; cases mF
      rw [hF, upd_ne np] at mF
      exact ⟨p, us, e1, by rw [upd_ne np]; exact e2, rs, m0, by show upd g.F Dl (.lst ws) p = none; rw [upd_ne np]; exact mF, mb⟩
/-- .. and is let out of the frame -/
theorem Rel.free (R : Rel K (g.wF (upd g.F Dl (.lst vs))) H0 σ H s) (nF : g.F Dl = none) : Rel K g H0 σ H s ∧ H Dl = some (.lst vs) ∧ H0 Dl = none ∧ Dl ≠ g.bx ∧ ¬ Owned σ s.sl Dl := by
  have hF : (g.wF (upd g.F Dl (.lst vs))).F = upd g.F Dl (.lst vs) := rfl
  have n0 : H0 Dl = none := R.r0.dis Dl (.lst vs) (by rw [hF, upd_same])
  have nb : Dl ≠ g.bx := fun z => by
    have := R.r0.bxF
    rw [hF] at this
    have this : upd g.F Dl (.lst vs) g.bx = none := this
    rw [← z, upd_same] at this; cases this
  have up : ∀ a o, g.F a = some o → (g.wF (upd g.F Dl (.lst vs))).F a = some o := fun a o e => by
    rw [hF, upd_ne fun z => by subst z; rw [nF] at e; cases e]; exact e
  have dn : ∀ a, (g.wF (upd g.F Dl (.lst vs))).F a = none → g.F a = none := fun a h => by
    cases q : g.F a with
    | none => rfl
    | some o => rw [up a o q] at h; cases h
  refine ⟨⟨⟨R.r0.sub, fun a o e => R.r0.frm a o (up a o e), fun a o e => R.r0.dis a o (up a o e), R.r0.bxn, dn _ R.r0.bxF, R.r0.it⟩, R.len, fun i k x h1 h2 => ?_, R.dist⟩, R.r0.frm Dl _ (by rw [hF, upd_same]), n0, nb, fun h => ?_⟩
  · have sr := R.slot i k x h1 h2
    cases k with
    | no => trivial
    | v d => exact sr
    | o ds =>
      obtain ⟨p, us, e1, e2, rs, m0, mF, mb⟩ := sr
      exact ⟨p, us, e1, e2, rs, m0, dn p mF, mb⟩
  · obtain ⟨_, _, _, mF, _⟩ := R.own h
    rw [hF, upd_same] at mF; cases mF
/-- the block's end: the own slots as they were -/
theorem Rel.rest {s0 : S β} {Ha Hb : Hp} (R : Rel K g H0 (L2.wipe σ own) H { s with sl := wipeS s.sl own }) (R0 : Rel K g Ha σ Hb s0) (e0 : Ex Ha H0) (ok : wipeOk s0.sl own = true) : Rel K g H0 σ H { s with sl := restS s0.sl s.sl own } := by
  have hok : ∀ j ∈ own, notO s0.sl[j]? = true := fun j hj => List.all_eq_true.mp ok j hj
  have hlen : s.sl.length = σ.length := by
    have := R.len
    have this : (wipeS s.sl own).length = (L2.wipe σ own).length := this
    rwa [wipeS_length, L2.wipe_length] at this
  have inn : ∀ {j : Nat} {k : Slot}, (restS s0.sl s.sl own)[j]? = some k → j ∈ own → s0.sl[j]? = some k ∧ ∀ ds, k ≠ .o ds := fun {j k} h hj => by
    have hl : j < s.sl.length := by
      have := (List.getElem?_eq_some_iff.mp h).1
      rwa [restS_length] at this
    rw [restS_in s0.sl s.sl hl hj] at h
    have h0 := hok j hj
    cases q : s0.sl[j]? with
    | none => rw [q] at h0; cases h0
    | some k0 =>
      have : s0.sl.getD j .no = k0 := by rw [List.getD_eq_getElem?_getD, q]; rfl
      rw [this] at h
      cases h
      refine ⟨rfl, fun ds z => ?_⟩
      subst z
      rw [q] at h0; cases h0
  refine ⟨R.r0, by show (restS s0.sl s.sl own).length = _; rw [restS_length]; exact hlen, fun j k x h1 h2 => ?_, fun j l ds es p h1 h2 h3 h4 => ?_⟩
  · have h1 : (restS s0.sl s.sl own)[j]? = some k := h1
    by_cases hj : j ∈ own
    · obtain ⟨h1, no⟩ := inn h1 hj
      have sr := R0.slot j k x h1 h2
      cases k with
      | no => trivial
      | v d => obtain ⟨y, e1, r⟩ := sr; exact ⟨y, e1, r.mono e0⟩
      | o ds => exact absurd rfl (no ds)
    · rw [restS_out s0.sl s.sl hj] at h1
      exact R.slot j k x (by show (wipeS s.sl own)[j]? = some k; rw [wipeS_out s.sl hj]; exact h1) (by rw [wipe_out σ hj]; exact h2)
  · have h1 : (restS s0.sl s.sl own)[j]? = some (.o ds) := h1
    have h2 : (restS s0.sl s.sl own)[l]? = some (.o es) := h2
    have hj : j ∉ own := fun h => (inn h1 h).2 ds rfl
    have hl : l ∉ own := fun h => (inn h2 h).2 es rfl
    rw [restS_out s0.sl s.sl hj] at h1
    rw [restS_out s0.sl s.sl hl] at h2
    exact R.dist j l ds es p (by show (wipeS s.sl own)[j]? = _; rw [wipeS_out s.sl hj]; exact h1) (by show (wipeS s.sl own)[l]? = _; rw [wipeS_out s.sl hl]; exact h2) (by rw [wipe_out σ hj]; exact h3) (by rw [wipe_out σ hl]; exact h4)
end
section
variable {β : Type} {K : PySem.W.Frag} {mg : Str → Option Value} {g : G β} {W : WX} {own tgt : List Nat} {mi : M β (List D)} {t : D → M β Unit} {c : M β Bool} {e : M β RV}
def tGF (K : PySem.W.Frag) (g : G β) (tgt : List Nat) (t : D → M β Unit) : TG := fun v σ H Q => ∃ F, tG K (g.wF F) tgt t v σ H Q
def tTF (K : PySem.W.Frag) (mg : Str → Option Value) (g : G β) (m : M β Bool) : TT := fun σ H Q => ∃ F, tT' K mg (g.wF F) W0 m σ H Q
def tEF (K : PySem.W.Frag) (mg : Str → Option Value) (g : G β) (m : M β RV) : TE := fun σ H Q => ∃ F, tD K mg (g.wF F) W0 m σ H Q
theorem rep_wF {bx : Addr} {F : Hp} : (g.wF F).bx = g.bx := rfl
theorem lc_tE {σ : L2.St} {H : Hp} {Q : VK} (hs : ∀ i ∈ tgt, i ∈ own) (h : tE K mg g W (lcM own mi t c e) σ H Q) : tLc (tI K mg g W mi) (tGF K g tgt t) (tTF K mg g c) (tEF K mg g e) own σ H Q := by
  obtain ⟨H0, s, R, h⟩ := h
  unfold lcM at h
  rw [on_bind] at h
  refine ⟨H0, s, R, Out.on_imp h (fun ds s1 h J H1 H2 e1 R1 wk Dl hD => ?_) fun _ _ q => q⟩
  cases ok : wipeOk s1.sl own with
  | false => rw [ok] at h; exact h.elim
  | true =>
  rw [ok] at h
  have h : (mbind (noX (lcL own t c e [] ds)) (fun acc => fun s' => Out.ok (RV.o acc) { s' with sl := restS s1.sl s'.sl own }) s1).on _ _ := h
  rw [on_bind] at h
  have h := on_noX (e' := fun _ _ => False) h
  have nF : g.F Dl = none := R1.r0.frm.back hD
  have Rw := (R1.wipe own).hold (vs := []) hD
  refine ⟨fun i k H => i + k = ds.length ∧ ∃ accD accV Ht s', Ex H1 Ht ∧ Rel K (g.wF (upd g.F Dl (.lst accV))) Ht (L2.wipe σ own) H { s' with sl := wipeS s'.sl own } ∧ Reps K g.bx Ht accV accD ∧
      (lcL own t c e accD (ds.drop i) s').on (fun acc s' => ∀ v H0' H', Ex H0 H0' → Rel K g H0' σ H' { s' with sl := restS s1.sl s'.sl own } → ResR K g H0' H' v (.o acc) → Apart σ (restS s1.sl s'.sl own) v (.o acc) → Q v H') (fun _ _ => False),
    ⟨ds.length, by simp, [], [], H1, s1, Ex.refl _, Rw, .nil, h⟩, ?_⟩
  rintro i k H ⟨hk, accD, accV, Ht, s', et, Rt, ra, h⟩
  by_cases hlt : i < ds.length
  · have sub := Rt.r0.sub
    refine .inr ⟨wk.go H i ds[i] (et.trans sub) (by simp [hlt]), fun H' => ∃ accD accV Ht s', Ex H1 Ht ∧ Rel K (g.wF (upd g.F Dl (.lst accV))) Ht (L2.wipe σ own) H' { s' with sl := wipeS s'.sl own } ∧ Reps K g.bx Ht accV accD ∧
      (lcL own t c e accD (ds.drop (i + 1)) s').on (fun acc s' => ∀ v H0' H', Ex H0 H0' → Rel K g H0' σ H' { s' with sl := restS s1.sl s'.sl own } → ResR K g H0' H' v (.o acc) → Apart σ (restS s1.sl s'.sl own) v (.o acc) → Q v H') (fun _ _ => False),
      fun H' h => ⟨k - 1, by omega, by omega, h⟩, fun x H' y => ?_⟩
    obtain ⟨H4, gr, rx⟩ := wk.yld Ht H i ds[i] x H' et sub (by simp [hlt]) y
    have R4 := Rt.grow gr.e0 gr.e gr.sub gr.new
    rw [show ds.drop i = ds[i] :: ds.drop (i + 1) from List.drop_eq_getElem_cons hlt] at h
    have h : (mbind (noX (t ds[i])) (fun _ => mbind (noX c) fun k => mIte k (mbind (noX e) fun r => mIte (decide (accD.length < sizeLine)) (lcL own t c e (accD ++ [r.d]) (ds.drop (i + 1))) mbad) (lcL own t c e accD (ds.drop (i + 1)))) { s' with sl := wipeS s'.sl own }).on _ _ := h
    rw [on_bind] at h
    refine ⟨_, H4, _, ds[i], R4, rx, Out.on_imp (on_noX h) (fun _ s5 h σ5 H5 H6 b5 e5 R5 => ?_) fun _ _ q => q⟩
    have ew : L2.wipe σ5 own = L2.wipe σ own := (wipe_but b5 hs).trans (wipe_wipe σ own)
    refine ⟨ew, ?_⟩
    rw [on_bind] at h
    refine ⟨_, H5, s5, R5, Out.on_imp (on_noX h) (fun kk s6 h H7 H8 e7 R7 => ?_) fun _ _ q => q⟩
    cases kk with
    | true =>
      rw [if_pos rfl]
      have h : (mbind (noX e) (fun r => mIte (decide (accD.length < sizeLine)) (lcL own t c e (accD ++ [r.d]) (ds.drop (i + 1))) mbad) s6).on _ _ := h
      rw [on_bind] at h
      refine ⟨_, H7, s6, R7, Out.on_imp (on_noX h) (fun r s7 h z H9 Hx e9 R9 rz => ?_) fun _ _ q => q⟩
      cases hz : decide (accD.length < sizeLine) with
      | false => rw [hz] at h; exact h.elim
      | true =>
        rw [hz] at h
        have e49 : Ex Ht H9 := ((gr.e0.trans e5).trans e7).trans e9
        refine ⟨accV, R9.r0.frm Dl _ (by show upd g.F Dl (.lst accV) Dl = _; rw [upd_same]), by rw [ra.len]; exact of_decide_eq_true hz, accD ++ [r.d], accV ++ [z], H9, s7, et.trans e49, ?_, (ra.mono e49).append (.one rz), h⟩
        have Rb := (R9.wipe own).bump (accV ++ [z])
        rw [ew] at Rb
        exact Rb
    | false =>
      rw [if_neg Bool.false_ne_true]
      have e47 : Ex Ht H7 := (gr.e0.trans e5).trans e7
      have Rb := R7.wipe own
      rw [ew] at Rb
      exact ⟨accD, accV, H7, s6, et.trans e47, Rb, ra.mono e47, h⟩
  · have ei : i = ds.length := by omega
    subst ei
    rw [List.drop_length] at h
    have h : ∀ v H0' H', Ex H0 H0' → Rel K g H0' σ H' { s' with sl := restS s1.sl s'.sl own } → ResR K g H0' H' v (.o accD) → Apart σ (restS s1.sl s'.sl own) v (.o accD) → Q v H' := h
    obtain ⟨Rf, hDl, n0, nb, no⟩ := Rt.free nF
    have Rr := Rf.rest R1 et ok
    refine .inl ⟨wk.stop H (et.trans Rt.r0.sub), h (.ref Dl) Ht H (e1.trans et) Rr ⟨Dl, accV, rfl, hDl, ra, n0, nF, nb⟩ fun j es p ep h1 h2 => ?_⟩
    cases ep
    have z := Rr.slot j _ _ h1 h2
    obtain ⟨q, ws, eq, _, _, _, _, _⟩ := z
    cases eq
    by_cases hj : j ∈ own
    · have hl : j < s'.sl.length := by
        have := (List.getElem?_eq_some_iff.mp h1).1
        rwa [restS_length] at this
      rw [restS_in s1.sl s'.sl hl hj] at h1
      have h0 : notO s1.sl[j]? = true := List.all_eq_true.mp ok j hj
      cases q : s1.sl[j]? with
      | none => rw [q] at h0; cases h0
      | some k0 =>
        have : s1.sl.getD j .no = k0 := by rw [List.getD_eq_getElem?_getD, q]; rfl
        rw [this] at h1
        cases h1
        rw [q] at h0; cases h0
    · rw [restS_out s1.sl s'.sl hj] at h1
      exact no ⟨j, es, by show (wipeS s'.sl own)[j]? = _; rw [wipeS_out s'.sl hj]; exact h1, by rw [wipe_out σ hj]; exact h2⟩
end
section
variable {β : Type} {X : Cx} {g : G β} {W : WX} {own : List (Str × Nat)} {tgt : List Nat} {elt tg iter : Expr} {ifs : List Expr} {scope : Scope} {pos : Pos} {mi : M β (List D)} {t : D → M β Unit} {c : M β Bool} {e : M β RV}
abbrev BlkG (X : Cx) (g : G β) (scope : Scope) (tgt : List Nat) (tg : Expr) (t : D → M β Unit) : Prop := ∀ (F : Hp) (s : Shared) (H : Hp) (C : Addr) (cl : List (Str × Addr)) (fp : List Addr), PGM (X.blk s H scope (compEnvC scope cl C X.env) fp) (g.wF F) tgt tg t
abbrev BlkT (X : Cx) (g : G β) (scope : Scope) (ifs : List Expr) (c : M β Bool) : Prop := ∀ (F : Hp) (s : Shared) (H : Hp) (C : Addr) (cl : List (Str × Addr)) (fp : List Addr), PTs (X.blk s H scope (compEnvC scope cl C X.env) fp) ifs (tT' X.K X.mg (g.wF F) W0 c)
abbrev BlkE (X : Cx) (g : G β) (scope : Scope) (elt : Expr) (e : M β RV) : Prop := ∀ (F : Hp) (s : Shared) (H : Hp) (C : Addr) (cl : List (Str × Addr)) (fp : List Addr), PEM (X.blk s H scope (compEnvC scope cl C X.env) fp) (g.wF F) W0 elt e
theorem pg_F {X' : Cx} {tg : Expr} (h : ∀ F, PG X' tg (tG X'.K (g.wF F) tgt t)) : PG X' tg (tGF X'.K g tgt t) := ⟨fun pins s σ H v u Q I r ⟨F, q⟩ => (h F).run pins s σ H v u Q I r q⟩
theorem pe_F {X' : Cx} {e' : Expr} (h : ∀ F, PE X' e' (tD X'.K X'.mg (g.wF F) W0 e)) : PE X' e' (tEF X'.K X'.mg g e) := ⟨fun pins s σ H Q I ⟨F, q⟩ => (h F).run pins s σ H Q I q⟩
theorem pts_F {X' : Cx} {ifs : List Expr} (h : ∀ F, PTs X' ifs (tT' X'.K X'.mg (g.wF F) W0 c)) : PTs X' ifs (tTF X'.K X'.mg g c) := ⟨fun pins s σ H Q I ⟨F, q⟩ => (h F).run pins s σ H Q I q⟩
theorem PTs.imp {X : Cx} {ifs : List Expr} {t t' : TT} (h : PTs X ifs t) (i : ∀ σ H Q, t' σ H Q → t σ H Q) : PTs X ifs t' := ⟨fun pins s σ H Q I q => h.run pins s σ H Q I (i σ H Q q)⟩
theorem bt_nil : BlkT X g scope [] (mret true) := fun F s H C cl fp => PTs.imp pts_nil fun σ H Q ⟨H0, s, R, q⟩ => q H0 H (Ex.refl _) R
theorem bt_one {a : Expr} (h : ∀ (F : Hp) (s : Shared) (H : Hp) (C : Addr) (cl : List (Str × Addr)) (fp : List Addr), PTM (X.blk s H scope (compEnvC scope cl C X.env) fp) (g.wF F) W0 a c) : BlkT X g scope [a] c := fun F s H C cl fp => pts_one (h F s H C cl fp)
theorem e_lc (own : List (Str × Nat)) (hN : X.N.Nodup) (hi : PIM X g W tg iter mi) (hg : BlkG X g scope tgt tg t) (ht : BlkT X g scope ifs c) (he : BlkE X g scope elt e) (hc : X.calm = true := by rfl) (ok : BlkOk X.N X.env.scope scope own := by exact blkOk_by (by decide +kernel)) (hs : ∀ i ∈ tgt, i ∈ own.map (·.2) := by decide) (hf : ∀ x, foldedSetIterable iter X.env x = pure x := by intro _; rfl) :
    PEM X g W (.ListComp elt [⟨tg, iter, ifs, 0⟩] scope pos) (lcM (own.map (·.2)) mi t c e) :=
  PE.imp (pe_lc hc hN hi ok (fun s H C cl fp => pg_F fun F => hg F s H C cl fp) (fun s H C cl fp => pts_F fun F => ht F s H C cl fp) (fun s H C cl fp => pe_F fun F => (he F s H C cl fp).d) hf) fun σ H Q h => lc_tE hs h
end
end DL

set_option Elab.async false
set_option linter.all false
set_option maxRecDepth 100000
namespace DL
open PySem PySem.Spec L2
/-! ### what a def promises -/
/-- what is asked of the meaning of the box's content -/
class GOk (γ : Type) where
  ok : (Hp → γ → HO → Prop) → Prop
instance : GOk Unit := ⟨fun _ => True⟩
def spOf {γ : Type} [GOk γ] (K : PySem.W.Frag) (mg : Str → Option Value) (n : Nat) (m : DefM γ) : Sp := fun vs H Q E => ∃ (g : G γ) (H0 : Hp) (b : γ) (ds : List D), GOk.ok g.itp ∧ ds.length = n ∧ Rel0 g H0 H b ∧ Reps K g.bx H0 vs ds ∧ (m ds b).on
  (fun r b' => ∀ v H0' H', Ex H0 H0' → Rel0 g H0' H' b' → ResR K g H0' H' v r → Q v H') (fun x b' => ∀ c dd H0' H', Ex H0 H0' → Rel0 g H0' H' b' → XRep K mg g.bx H0' H' c dd x → E c dd H')
theorem spOf_len {γ : Type} [GOk γ] {K : PySem.W.Frag} {mg : Str → Option Value} {n : Nat} {m : DefM γ} (vs : List V) (H : Hp) (Q : VK) (E : XK) (h : spOf K mg n m vs H Q E) : vs.length = n := by
  obtain ⟨g, H0, b, ds, _, hn, _, rs, _⟩ := h
  rw [rs.len, hn]
/-- a def's body, run on n slots -/
def runDef {γ : Type} (n : Nat) (mb : M γ Fl) : DefM γ := fun ds b => match mb ⟨ds.map Slot.v ++ List.replicate (n - ds.length) Slot.no, b⟩ with
  | .ok .nx s => .ok (.v .non) s.bx
  | .ok (.rt r) s => .ok r s.bx
  | .exc x s => .exc x s.bx
  | _ => .bad
section
variable {γ : Type} {P : Program} {w : World} {K : PySem.W.Frag} {mg : Str → Option Value} {base : Heap}
theorem start_rel {g : G γ} {H0 H : Hp} {b : γ} {N : List Str} {vs : List V} {ds : List D} (r0 : Rel0 g H0 H b) (rs : Reps K g.bx H0 vs ds) : Rel K g H0 (L2.start N vs) H ⟨ds.map Slot.v ++ List.replicate (N.length - ds.length) Slot.no, b⟩ := by
  refine ⟨r0, by unfold L2.start; simp [rs.len], fun i k x h1 h2 => ?_, fun i j es es' p h1 => ?_⟩
  · unfold L2.start at h2
    by_cases hi : i < ds.length
    · rw [List.getElem?_append_left (by simpa using hi), List.getElem?_map] at h1
      rw [List.getElem?_append_left (by rw [List.length_map, rs.len]; exact hi), List.getElem?_map] at h2
      rw [Option.map_eq_some_iff] at h1 h2
      obtain ⟨d, hd, rfl⟩ := h1
      obtain ⟨v, hv, rfl⟩ := h2
      exact ⟨v, rfl, rs.get i v d hv hd⟩
    · rw [List.getElem?_append_right (by simpa using hi)] at h1
      have : k = .no := by
        have := List.mem_of_getElem? h1
        exact (List.mem_replicate.mp this).2
      subst this; trivial
  · exfalso
    by_cases hi : i < ds.length
    · have h1 : (ds.map Slot.v ++ List.replicate (N.length - ds.length) Slot.no)[i]? = some (.o es) := h1
      rw [List.getElem?_append_left (by simpa using hi), List.getElem?_map, Option.map_eq_some_iff] at h1
      obtain ⟨d, _, e⟩ := h1
      cases e
    · have h1 : (ds.map Slot.v ++ List.replicate (N.length - ds.length) Slot.no)[i]? = some (.o es) := h1
      rw [List.getElem?_append_right (by simpa using hi)] at h1
      have := List.mem_of_getElem? h1
      cases (List.mem_replicate.mp this).2
theorem body_ok {g : G γ} {H0 H : Hp} {b : γ} {N : List Str} {vs : List V} {ds : List D} {mb : M γ Fl} {Q : VK} {E : XK} (r0 : Rel0 g H0 H b) (rs : Reps K g.bx H0 vs ds)
    (h : (runDef N.length mb ds b).on (fun r b' => ∀ v H0' H', Ex H0 H0' → Rel0 g H0' H' b' → ResR K g H0' H' v r → Q v H') (fun x b' => ∀ c dd H0' H', Ex H0 H0' → Rel0 g H0' H' b' → XRep K mg g.bx H0' H' c dd x → E c dd H')) :
    tS K mg g (fun c d _ H => E c d H) mb { nx := fun _ H' => Q .non H', rt := Q } (L2.start N vs) H := by
  refine ⟨H0, _, start_rel r0 rs, ?_⟩
  unfold runDef at h
  revert h
  cases mb ⟨ds.map Slot.v ++ List.replicate (N.length - ds.length) Slot.no, b⟩ with
  | bad => exact fun h => h
  | exc x s => exact fun h c dd σ' H0' H' e R X => h c dd H0' H' e R.r0 X
  | ok f s =>
    cases f with
    | nx => exact fun h σ' H0' H' e R => h .non H0' H' e R.r0 .non
    | rt r => exact fun h v σ' H0' H' e R rr => h v H0' H' e R.r0 rr
    | bk => exact fun h => h.elim
    | ct => exact fun h => h.elim
/-- a def as a caller knows it: its text, its place, its promise -/
structure Df [GOk γ] (P : Program) (w : World) (K : PySem.W.Frag) (mg : Str → Option Value) (base : Heap) (k : Nat) (x : Str) (st : Stmt) (ps : List Str) (dvs : List V) (kws : List (Str × V)) (f : Addr) (fd : FuncData) (m : DefM γ) : Prop where
  fn : FunD K x x (defArgs st) (defBody st) (defScope st) dvs kws f fd
  gl : mg x = some (.ref f)
  ok : FnOk P w K mg base (L2.CX P w) k f fd ps (spOf K mg ps.length m)
theorem df_mk [GOk γ] {x : Str} {st : Stmt} {ps N : List Str} {dvs : List V} {kws : List (Str × V)} {f : Addr} {fd : FuncData} {k : Nat} {mb : M γ Fl} (F : FunD K x x (defArgs st) (defBody st) (defScope st) dvs kws f fd) (gl : mg x = some (.ref f)) (S : FnScope N ps (defScope st))
    (hb : ∀ (cdv : Value) (A : Around) (outer : List Env) (s : Shared) (H : Hp) (E : XK) (g : G γ), GOk.ok g.itp → Room k (A.deeper (PyProof.Rows.envOfC x (defScope st) s.heap.objs.size f cdv)) → PSSM (cxOf (L2.CX P w) P w K mg base N x (defScope st) f cdv A outer s H E) g (fun c d _ H => E c d H) (defBody st) mb) :
    Df P w K mg base (k + 1) x st ps dvs kws f fd (runDef N.length mb) :=
  ⟨F, gl, F.ok S (fun vs H Q E h => spOf_len vs H Q E h) fun cdv A outer s H vs Q E hr ⟨g, H0, b, ds, hG, hn, r0, rs, h⟩ => ⟨_, hb cdv A outer s H E g hG hr, body_ok r0 rs h⟩⟩
theorem Df.mono [GOk γ] {x : Str} {st : Stmt} {ps : List Str} {dvs : List V} {kws : List (Str × V)} {f : Addr} {fd : FuncData} {k k' : Nat} {m : DefM γ} (d : Df P w K mg base k x st ps dvs kws f fd m) (h : k ≤ k') : Df P w K mg base k' x st ps dvs kws f fd m := ⟨d.fn, d.gl, d.ok.mono h⟩
end
/-! ### calls -/
section
variable {β : Type} {K : PySem.W.Frag} {mg : Str → Option Value} {g : G β} {W : WX} {H0 H H0' H' : Hp} {σ : L2.St} {s s' : S β} {v : V} {r : RV} {vs : List V} {as : List Arg} {ds : List D} {n : Nat} {Q : VK}
theorem Rel.step {b' : β} (R : Rel K g H0 σ H s) (e0 : Ex H0 H0') (e : ∀ a o, a ≠ g.bx → H a = some o → H' a = some o) (sub : Ex H0' H') (new : ∀ a o, H0' a = some o → H0 a = some o ∨ H a = none) (it : ∃ o, H' g.bx = some o ∧ g.itp H0' b' o) : Rel K g H0' σ H' { s with bx := b' } := by
  have back : ∀ a, H0 a = none → H a ≠ none → H0' a = none := fun a n h => by
    cases q : H0' a with
    | none => rfl
    | some o =>
      rcases new a o q with z | z
      · rw [z] at n; cases n
      · exact absurd z h
  obtain ⟨o, hb, ib⟩ := R.r0.it
  refine ⟨⟨sub, fun a o h => e a o (fun z => by rw [z, R.r0.bxF] at h; cases h) (R.r0.frm a o h), fun a o h => back a (R.r0.dis a o h) (by rw [R.r0.frm a o h]; simp), back _ R.r0.bxn (by rw [hb]; simp), R.r0.bxF, it⟩, R.len, fun i k x h1 h2 => (R.slot i k x h1 h2).mono e0 fun p n0 _ nb o _ hp => ⟨e p o nb hp, back p n0 (by rw [hp]; simp)⟩, R.dist⟩
/-- what a callee must leave as it is: all that it is not shown -/
def frameOf (bx : Addr) (Hv H : Hp) : Hp := fun a => if a = bx then none else if (Hv a).isSome = true then none else H a
theorem frameOf_sub {bx : Addr} {Hv H : Hp} : Ex (frameOf bx Hv H) H := fun a o h => by
  unfold frameOf at h
  split at h
  · cases h
  · split at h
    · cases h
    · exact h
theorem frameOf_dis {bx : Addr} {Hv H : Hp} (a : Addr) (o : HO) (h : frameOf bx Hv H a = some o) : Hv a = none := by
  unfold frameOf at h
  split at h
  · cases h
  · split at h
    · cases h
    · rename_i h2
      cases q : Hv a with
      | none => rfl
      | some u => rw [q] at h2; exact absurd rfl h2
theorem frameOf_bx {bx : Addr} {Hv H : Hp} : frameOf bx Hv H bx = none := by unfold frameOf; rw [if_pos rfl]
theorem frameOf_at {bx : Addr} {Hv H : Hp} {a : Addr} (h1 : a ≠ bx) (h2 : Hv a = none) : frameOf bx Hv H a = H a := by
  unfold frameOf
  rw [if_neg h1, h2]
  rfl
theorem frameOf_keep {bx : Addr} {Hv H Hv' H' : Hp} (sub : Ex Hv H) (e0 : Ex Hv Hv') (s' : Ex Hv' H') (f : Ex (frameOf bx Hv H) H') (a : Addr) (o : HO) (hb : a ≠ bx) (h : H a = some o) : H' a = some o := by
  cases q : Hv a with
  | none => exact f a o (by rw [frameOf_at hb q]; exact h)
  | some u =>
    have := sub a u q
    rw [h] at this; cases this
    exact s' a _ (e0 a _ q)
/-- behind a call that was shown the frozen heap alone -/
theorem Rel.called {γ : Type} {g' : G γ} {b' : β} {c' : γ} (R : Rel K g H0 σ H s) (r' : Rel0 g' H0' H' c') (hbx : g'.bx = g.bx) (hF : g'.F = frameOf g.bx H0 H) (e0 : Ex H0 H0') (it : ∃ o, H' g.bx = some o ∧ g.itp H0' b' o) (rr : ResR K g' H0' H' v r) :
    Rel K g H0' σ H' { s with bx := b' } ∧ ResR K g H0' H' v r ∧ Apart σ s.sl v r := by
  have nw : ∀ a o, H0' a = some o → H0 a = some o ∨ H a = none := fun a o h => by
    cases q : H0 a with
    | some u =>
      have := e0 a u q
      rw [h] at this; cases this
      exact .inl rfl
    | none =>
      refine .inr ?_
      cases z : H a with
      | none => rfl
      | some u =>
        by_cases hb : a = g.bx
        · have := r'.bxn
          rw [hbx, ← hb, h] at this; cases this
        · have := r'.dis a u (by rw [hF, frameOf_at hb q]; exact z)
          rw [h] at this; cases this
  have fr : Ex (frameOf g.bx H0 H) H' := by rw [← hF]; exact r'.frm
  refine ⟨R.step e0 (frameOf_keep R.r0.sub e0 r'.sub fr) r'.sub nw it, ?_, ?_⟩
  · cases r with
    | v d => exact (show Rep K g.bx H0' v d from by have := rr; rw [← hbx]; exact this)
    | o es =>
      obtain ⟨p, ws, rfl, hp, rs, n0, nF, nb⟩ := rr
      rw [hbx] at rs nb
      refine ⟨p, ws, rfl, hp, rs, n0, ?_, nb⟩
      cases q : g.F p with
      | none => rfl
      | some o =>
        rw [hF, frameOf_at nb (R.r0.dis p o q), R.r0.frm p o q] at nF
        cases nF
  · cases r with
    | v d => trivial
    | o es =>
      obtain ⟨p, ws, rfl, hp, rs, n0, nF, nb⟩ := rr
      rw [hbx] at nb
      intro i es' q eq h1 h2
      cases eq
      obtain ⟨q, us, e2, hq, _, m0, _⟩ := R.slot i _ _ h1 h2
      cases e2
      rw [hF, frameOf_at nb m0, hq] at nF
      cases nF
def outP (as : List Arg) : Out Unit RV → M β RV
  | .ok r _ => mIte (okR as r) (mret r) mbad
  | .exc x _ => mIte (noB as) (fun s => .exc x s) mbad
  | .bad => mbad
def outB : Out β RV → M β RV
  | .ok r b => fun s => .ok r { s with bx := b }
  | .exc x b => fun s => .exc x { s with bx := b }
  | .bad => mbad
/-- a call of a def of n parameters: one without a box; one with it -/
def callP (n : Nat) (m : DefM Unit) (ms : M β (List Arg)) : M β RV := mbind ms fun as => mIte (as.length == n) (mbind (rsl as) fun ds => outP as (m ds ())) mbad
def callB (n : Nat) (m : DefM β) (ms : M β (List Arg)) : M β RV := mbind ms fun as => mIte (as.length == n && noB as) (mbind (rsl as) fun ds => fun s => outB (m ds s.bx) s) mbad
def ResP (K : PySem.W.Frag) (g : G β) (H0 : Hp) (σ : L2.St) (Q : VK) : RV → S β → Prop := fun r s' => ∀ v H0' H', Ex H0 H0' → Rel K g H0' σ H' s' → ResR K g H0' H' v r → Apart σ s'.sl v r → Q v H'
theorem spP {m : DefM Unit} (R : Rel K g H0 σ H s) (ra : ArgsR K g H0 σ vs as) (hn : vs.length = n) (eds : resL s.sl as = some ds)
    (h : (outP as (m ds ()) s).on (ResP K g H0 σ Q) (Esc K mg g W H0 σ)) : spOf K mg n m vs H Q (fun c d H => W c d σ H) := by
  obtain ⟨o, hb, ib⟩ := R.r0.it
  cases hnb : noB as with
  | true =>
    have rs := res_plain ra hnb eds
    have it : ∀ (g' : G Unit) (H1 H2 : Hp) (b : Unit), g'.bx = g.bx → (∀ H b o', g'.itp H b o' → o' = o) → Ex H0 H1 → Rel0 g' H1 H2 b → ∃ o, H2 g.bx = some o ∧ g.itp H1 s.bx o := fun g' H1 H2 b hbx hi e1 r1 => by
      obtain ⟨o', hb', hit⟩ := r1.it
      rw [hbx] at hb'
      have := hi _ _ _ hit
      subst this
      exact ⟨o', hb', g.mono e1 ib⟩
    refine ⟨⟨g.bx, fun _ _ o' => o' = o, fun _ h => h, frameOf g.bx H0 H⟩, H0, (), ds, trivial, by rw [← rs.len, hn], ⟨R.r0.sub, frameOf_sub, frameOf_dis, R.r0.bxn, frameOf_bx, o, hb, rfl⟩, rs, ?_⟩
    revert h
    cases m ds () with
    | bad => exact fun h => h
    | ok r b =>
      intro h v H1 H2 e1 r1 rr
      have hok : okR as r = true := by unfold okR; rw [hnb]; rfl
      have h : (mIte (okR as r) (mret r) mbad s).on (ResP K g H0 σ Q) (Esc K mg g W H0 σ) := h
      rw [hok] at h
      obtain ⟨R2, r2, ap⟩ := R.called (b' := s.bx) r1 rfl rfl e1 (it _ H1 H2 b rfl (fun _ _ _ h => h) e1 r1) rr
      exact h v H1 H2 e1 R2 r2 ap
    | exc x b =>
      intro h cc dd H1 H2 e1 r1 Xr
      have h : (mIte (noB as) (fun s => Out.exc x s) (mbad : M β RV) s).on (ResP K g H0 σ Q) (Esc K mg g W H0 σ) := h
      rw [hnb] at h
      obtain ⟨R2, _, _⟩ := R.called (b' := s.bx) (v := .non) (r := .v .non) r1 rfl rfl e1 (it _ H1 H2 b rfl (fun _ _ _ h => h) e1 r1) .non
      exact h cc dd H1 H2 e1 R2 Xr
  | false =>
    have hv := R.view_ex
    have hs := R.view_sub
    have vbx : view σ s.sl H0 H g.bx = none := by
      by_cases ho : Owned σ s.sl g.bx
      · obtain ⟨_, _, _, _, nb⟩ := R.own ho
        exact absurd rfl nb
      · rw [view_not ho]; exact R.r0.bxn
    have rs := R.res_view ra eds
    refine ⟨⟨g.bx, fun _ _ o' => o' = o, fun _ h => h, frameOf g.bx (view σ s.sl H0 H) H⟩, view σ s.sl H0 H, (), ds, trivial, by rw [← rs.len, hn], ⟨hs, frameOf_sub, frameOf_dis, vbx, frameOf_bx, o, hb, rfl⟩, rs, ?_⟩
    revert h
    cases m ds () with
    | bad => exact fun h => h
    | ok r b =>
      intro h v H1 H2 e1 r1 rr
      have h : (mIte (okR as r) (mret r) mbad s).on (ResP K g H0 σ Q) (Esc K mg g W H0 σ) := h
      cases hok : okR as r with
      | false => rw [hok] at h; exact h.elim
      | true =>
        rw [hok] at h
        have sc : scalR r = true := by
          unfold okR at hok
          rw [hnb] at hok
          exact hok
        cases r with
        | o es => cases sc
        | v d =>
          have keep : Ex H H2 := fun a u q => by
            by_cases hab : a = g.bx
            · obtain ⟨o', hb', hit⟩ := r1.it
              have hit : o' = o := hit
              subst hit
              have hb' : H2 g.bx = some o' := hb'
              rw [hab, hb] at q; cases q
              rw [hab]; exact hb'
            · exact frameOf_keep hs e1 r1.sub r1.frm a u hab q
          exact h v H0 H2 (Ex.refl _) (R.more keep) (scal_rep sc rr) trivial
    | exc x b =>
      intro h
      have h : (mIte (noB as) (fun s => Out.exc x s) (mbad : M β RV) s).on (ResP K g H0 σ Q) (Esc K mg g W H0 σ) := h
      rw [hnb] at h
      exact h.elim
theorem spB [GOk β] {m : DefM β} (hG : GOk.ok g.itp) (R : Rel K g H0 σ H s) (ra : ArgsR K g H0 σ vs as) (hn : vs.length = n) (eds : resL s.sl as = some ds) (hnb : noB as = true)
    (h : (outB (m ds s.bx) s).on (ResP K g H0 σ Q) (Esc K mg g W H0 σ)) : spOf K mg n m vs H Q (fun c d H => W c d σ H) := by
  have rs := res_plain ra hnb eds
  refine ⟨⟨g.bx, g.itp, g.mono, frameOf g.bx H0 H⟩, H0, s.bx, ds, hG, by rw [← rs.len, hn], ⟨R.r0.sub, frameOf_sub, frameOf_dis, R.r0.bxn, frameOf_bx, R.r0.it⟩, rs, ?_⟩
  revert h
  cases m ds s.bx with
  | bad => exact fun h => h
  | ok r b =>
    intro h v H1 H2 e1 r1 rr
    obtain ⟨R2, r2, ap⟩ := R.called (b' := b) r1 rfl rfl e1 r1.it rr
    exact h v H1 H2 e1 R2 r2 ap
  | exc x b =>
    intro h cc dd H1 H2 e1 r1 Xr
    obtain ⟨R2, _, _⟩ := R.called (b' := b) (v := .non) (r := .v .non) r1 rfl rfl e1 r1.it .non
    exact h cc dd H1 H2 e1 R2 Xr
theorem ArgsR.append {vs' : List V} {as' : List Arg} (h : ArgsR K g H0 σ vs as) (h' : ArgsR K g H0 σ vs' as') : ArgsR K g H0 σ (vs ++ vs') (as ++ as') := by
  induction h with
  | nil => exact h'
  | cons r _ ih => exact .cons r ih
theorem ArgsR.len (h : ArgsR K g H0 σ vs as) : vs.length = as.length := by
  induction h with
  | nil => rfl
  | cons r _ ih => simp [ih]
end
section
variable {β : Type} {X : Cx} {g : G β} {W : WX} {a b c e : Expr} {es : List Expr} {m : M β RV} {ms : M β (List Arg)} {pos p : Pos} {x : Str} {st : Stmt} {ps : List Str} {dvs : List V} {kws : List (Str × V)} {f : Addr} {fd : FuncData} {k k' : Nat}
theorem callP_sp {n : Nat} {K : PySem.W.Frag} {mg : Str → Option Value} {md : DefM Unit} {σ : L2.St} {H : Hp} {Q : VK} (h : tE K mg g W (callP n md ms) σ H Q) : tCallSD (spOf K mg n md) [] (fun σ c d H => W c d σ H) (tAB K mg g W ms) σ H Q := by
  obtain ⟨H0, s, R, h⟩ := h
  unfold callP at h
  rw [on_bind] at h
  refine ⟨H0, s, R, Out.on_imp h (fun as s1 h vs H1 H2 e1 R1 ra => ?_) fun _ _ q => q⟩
  show spOf K mg n md (vs ++ []) H2 Q (fun c d H => W c d σ H)
  rw [List.append_nil]
  cases hl : as.length == n with
  | false => rw [hl] at h; exact h.elim
  | true =>
    rw [hl] at h
    have h : (mbind (rsl as) (fun ds => outP as (md ds ())) s1).on _ _ := h
    rw [on_bind, on_rsl] at h
    obtain ⟨ds, eds, h⟩ := h
    exact spP R1 ra (by rw [ra.len]; exact of_decide_eq_true hl) eds (Out.on_imp h (fun r s2 q v H3 H4 e2 R2 rr ap => q v H3 H4 (e1.trans e2) R2 rr ap) fun _ _ q => q.back e1)
theorem callB_sp [GOk β] {n : Nat} {K : PySem.W.Frag} {mg : Str → Option Value} {md : DefM β} {σ : L2.St} {H : Hp} {Q : VK} (hG : GOk.ok g.itp) (h : tE K mg g W (callB n md ms) σ H Q) : tCallSD (spOf K mg n md) [] (fun σ c d H => W c d σ H) (tAB K mg g W ms) σ H Q := by
  obtain ⟨H0, s, R, h⟩ := h
  unfold callB at h
  rw [on_bind] at h
  refine ⟨H0, s, R, Out.on_imp h (fun as s1 h vs H1 H2 e1 R1 ra => ?_) fun _ _ q => q⟩
  show spOf K mg n md (vs ++ []) H2 Q (fun c d H => W c d σ H)
  rw [List.append_nil]
  cases hl : (as.length == n && noB as) with
  | false => rw [hl] at h; exact h.elim
  | true =>
    rw [hl] at h
    rw [Bool.and_eq_true] at hl
    have h : (mbind (rsl as) (fun ds => fun s => outB (md ds s.bx) s) s1).on _ _ := h
    rw [on_bind, on_rsl] at h
    obtain ⟨ds, eds, h⟩ := h
    exact spB hG R1 ra (by rw [ra.len]; exact of_decide_eq_true hl.1) eds hl.2 (Out.on_imp h (fun r s2 q v H3 H4 e2 R2 rr ap => q v H3 H4 (e1.trans e2) R2 rr ap) fun _ _ q => q.back e1)
/-- f(e, ..) with every parameter written, f a def without a box; with it -/
theorem e_callP {md : DefM Unit} (F : Df X.prog X.w X.K X.mg X.base k x st ps dvs kws f fd md) (hr : Room k' X.A) (hk : k ≤ k') (hb : Binds X.K fd ps []) (tk : Takes X W) (ha : PABM X g W (e :: es) ms) (hg : Gl X x := by rfl)
    (hdb : (x == ("__debug__" : Str)) = false := by decide) (he : starEach (e :: es) X.env = (false, eval e X.env) :: starEach es X.env := by rfl) (hpl : (backTo pos (starEach es X.env)).any (·.1) = false := by rfl) : PEM X g W (.Call (.Name x p) (e :: es) [] pos) (callP ps.length md ms) :=
  PE.imp (pe_callSD (E := fun σ c d H => W c d σ H) F.ok (hr.mono hk) hg F.gl F.fn.kp hb .nil (fun σ => passAt tk σ) ha hdb he hpl) fun σ H Q h => callP_sp h
theorem e_callB [GOk β] {md : DefM β} (hG : GOk.ok g.itp) (F : Df X.prog X.w X.K X.mg X.base k x st ps dvs kws f fd md) (hr : Room k' X.A) (hk : k ≤ k') (hb : Binds X.K fd ps []) (tk : Takes X W) (ha : PABM X g W (e :: es) ms) (hg : Gl X x := by rfl)
    (hdb : (x == ("__debug__" : Str)) = false := by decide) (he : starEach (e :: es) X.env = (false, eval e X.env) :: starEach es X.env := by rfl) (hpl : (backTo pos (starEach es X.env)).any (·.1) = false := by rfl) : PEM X g W (.Call (.Name x p) (e :: es) [] pos) (callB ps.length md ms) :=
  PE.imp (pe_callSD (E := fun σ c d H => W c d σ H) F.ok (hr.mono hk) hg F.gl F.fn.kp hb .nil (fun σ => passAt tk σ) ha hdb he hpl) fun σ H Q h => callB_sp hG h
end
end DL

set_option Elab.async false
set_option linter.all false
set_option maxRecDepth 100000
namespace DL
open PySem PySem.Spec L2
/-- a def by its name: no defaults -/
def Dx {γ : Type} [GOk γ] (P : Program) (w : World) (K : PySem.W.Frag) (mg : Str → Option Value) (base : Heap) (k : Nat) (x : Str) (st : Stmt) (ps : List Str) (m : DefM γ) : Prop :=
  ∃ f fd, Df P w K mg base k x st ps [] [] f fd m ∧ Binds K fd ps []
def Fd (K : PySem.W.Frag) (mg : Str → Option Value) (x : Str) (st : Stmt) : Prop := ∃ f fd, FunD K x x (defArgs st) (defBody st) (defScope st) [] [] f fd ∧ mg x = some (.ref f)
theorem dx_mk {γ : Type} [GOk γ] {P : Program} {w : World} {K : PySem.W.Frag} {mg : Str → Option Value} {base : Heap} {x : Str} {st : Stmt} {ps : List Str} (N : List Str) {k : Nat} {mb : M γ Fl} (F : Fd K mg x st) (S : FnScope N ps (defScope st))
    (bn : ∀ (kV doc pm : Value) (an : Option Addr) (cdv ct : Value) (us : List Value), us.length = ps.length → bindArgs (PySem.W.fnOf x x (defArgs st) (defBody st) (defScope st) .none kV doc pm an cdv ct) ⟨us, []⟩ = pure (ps.zip us))
    (hb : ∀ (f : Addr) (cdv : Value) (A : Around) (outer : List Env) (s : Shared) (H : Hp) (E : XK) (g : G γ), GOk.ok g.itp → Room k (A.deeper (PyProof.Rows.envOfC x (defScope st) s.heap.objs.size f cdv)) → PSSM (cxOf (L2.CX P w) P w K mg base N x (defScope st) f cdv A outer s H E) g (fun c d _ H => E c d H) (defBody st) mb) :
    Dx P w K mg base (k + 1) x st ps (runDef N.length mb) := by
  obtain ⟨f, fd, F, gl⟩ := F
  exact ⟨f, fd, df_mk F gl S (fun cdv A outer s H E g hG hr => hb f cdv A outer s H E g hG hr), F.bindsN bn⟩
section
variable {β : Type} {X : Cx} {g : G β} {W : WX} {a b c e : Expr} {es : List Expr} {kws : List Keyword} {m : M β RV} {ma : M β Arg} {ms mk : M β (List Arg)} {pos p kpos : Pos} {x : Str} {st : Stmt} {ps ks : List Str} {k k' : Nat} {nm : Option Str}
theorem e_cP {n : Nat} {md : DefM Unit} (F : Dx X.prog X.w X.K X.mg X.base k x st ps md) (hr : Room k' X.A) (tk : Takes X W) (ha : PABM X g W (e :: es) ms) (hk : k ≤ k' := by decide) (hg : Gl X x := by rfl)
    (hdb : (x == ("__debug__" : Str)) = false := by decide) (he : starEach (e :: es) X.env = (false, eval e X.env) :: starEach es X.env := by rfl) (hpl : (backTo pos (starEach es X.env)).any (·.1) = false := by rfl) (hn : ps.length = n := by rfl) : PEM X g W (.Call (.Name x p) (e :: es) [] pos) (callP n md ms) := by
  subst hn
  obtain ⟨f, fd, D, bn⟩ := F
  exact e_callP D hr hk bn tk ha hg hdb he hpl
theorem e_cB [GOk β] {n : Nat} {md : DefM β} (hG : GOk.ok g.itp) (F : Dx X.prog X.w X.K X.mg X.base k x st ps md) (hr : Room k' X.A) (tk : Takes X W) (ha : PABM X g W (e :: es) ms) (hk : k ≤ k' := by decide) (hg : Gl X x := by rfl)
    (hdb : (x == ("__debug__" : Str)) = false := by decide) (he : starEach (e :: es) X.env = (false, eval e X.env) :: starEach es X.env := by rfl) (hpl : (backTo pos (starEach es X.env)).any (·.1) = false := by rfl) (hn : ps.length = n := by rfl) : PEM X g W (.Call (.Name x p) (e :: es) [] pos) (callB n md ms) := by
  subst hn
  obtain ⟨f, fd, D, bn⟩ := F
  exact e_callB hG D hr hk bn tk ha hg hdb he hpl
/-! ### keywords -/
abbrev PKBM (X : Cx) (g : G β) (W : WX) (kws : List Keyword) (m : M β (List Arg)) : Prop := PK X kws (tAB X.K X.mg g W m)
theorem PK.imp {X : Cx} {es : List Keyword} {t t' : TA} (h : PK X es t) (i : ∀ σ H Q, t' σ H Q → t σ H Q) : PK X es t' := ⟨fun p pins s σ H Q I q => h.run p pins s σ H Q I (i σ H Q q)⟩
theorem k_nil : PKBM X g W [] (mret []) := PK.imp pk_nil fun σ H Q ⟨H0, s, R, q⟩ => q [] H0 H (Ex.refl _) R .nil
theorem k_cons (ha : PBM X g W e ma) (hr : PKBM X g W kws mk) : PKBM X g W (⟨nm, e, kpos⟩ :: kws) (argC ma mk) := PK.imp (pk_cons ha hr) fun σ H Q ⟨H0, s, R, q⟩ => by
  unfold argC at q
  rw [on_bind] at q
  refine ⟨H0, s, R, Out.on_imp q (fun a s1 q v H1 H2 e1 R1 rr => ?_) fun _ _ q => q⟩
  rw [on_bind] at q
  exact ⟨H1, s1, R1, Out.on_imp q (fun as s2 q vs H3 H4 e2 R2 rs => q (v :: vs) H3 H4 (e1.trans e2) R2 (.cons (rr.mono e2) rs)) fun _ _ q => q.back e1⟩
def perm {α : Type} (pi : List Nat) (xs : List α) : List α := pi.filterMap fun i => xs[i]?
theorem perm_cons {α : Type} {i : Nat} {pi : List Nat} {xs : List α} : perm (i :: pi) xs = (match xs[i]? with | some x => x :: perm pi xs | none => perm pi xs) := by
  unfold perm
  rw [List.filterMap_cons]
  cases xs[i]? <;> rfl
theorem perm_vals {vs : List V} {us : List Value} (r : Vals vs us) : ∀ pi : List Nat, Vals (perm pi vs) (perm pi us)
  | [] => .nil
  | i :: pi => by
    rw [perm_cons, perm_cons]
    cases h : vs[i]? with
    | none => rw [r.none_of h]; exact perm_vals r pi
    | some v =>
      obtain ⟨u, hu, ru⟩ := r.get h
      rw [hu]
      exact .cons ru (perm_vals r pi)
theorem ArgsR.get {K : PySem.W.Frag} {H0 : Hp} {σ : L2.St} {vs : List V} {as : List Arg} (r : ArgsR K g H0 σ vs as) : ∀ i : Nat, (vs[i]? = none ∧ as[i]? = none) ∨ ∃ v a, vs[i]? = some v ∧ as[i]? = some a ∧ ArgR K g H0 σ v a := by
  induction r with
  | nil => intro i; exact .inl ⟨by simp, by simp⟩
  | cons h _ ih =>
    intro i
    cases i with
    | zero => exact .inr ⟨_, _, rfl, rfl, h⟩
    | succ i => simpa using ih i
theorem ArgsR.perm {K : PySem.W.Frag} {H0 : Hp} {σ : L2.St} {vs : List V} {as : List Arg} (r : ArgsR K g H0 σ vs as) : ∀ pi : List Nat, ArgsR K g H0 σ (perm pi vs) (perm pi as)
  | [] => .nil
  | i :: pi => by
    rw [perm_cons, perm_cons]
    rcases r.get i with ⟨h1, h2⟩ | ⟨v, a, h1, h2, h3⟩
    · rw [h1, h2]; exact ArgsR.perm r pi
    · rw [h1, h2]; exact .cons h3 (ArgsR.perm r pi)
/-- a call with n positional values and keywords ks; pi puts them in the parameters' order -/
def KwB (K : PySem.W.Frag) (fd : FuncData) (ps : List Str) (n : Nat) (ks : List Str) (pi : List Nat) : Prop := ∀ (s : Shared) (us ws : List Value), K.In s.heap → us.length = n → ws.length = ks.length → BindsTo s fd ⟨us, ks.zip ws⟩ (ps.zip (perm pi (us ++ ws)))
/-- both lists of arguments, in the parameters' order -/
def kwA (n nk : Nat) (pi : List Nat) (ms mk : M β (List Arg)) : M β (List Arg) := mbind ms fun as => mbind mk fun bs => mIte (as.length == n && bs.length == nk) (mret (perm pi (as ++ bs))) mbad
def tKw (n nk : Nat) (pi : List Nat) (sp : Sp) (E : L2.St → XK) (t tk : TA) : TE := fun σ H Q => t σ H fun vs H1 => tk σ H1 fun zs H2 => vs.length = n ∧ zs.length = nk ∧ sp (perm pi (vs ++ zs)) H2 Q (E σ)
theorem kw_use {n nk : Nat} {pi : List Nat} {K : PySem.W.Frag} {mg : Str → Option Value} {σ : L2.St} {H : Hp} {P : List V → Hp → Prop} (h : tAB K mg g W (kwA n nk pi ms mk) σ H P) : tAB K mg g W ms σ H fun vs H1 => tAB K mg g W mk σ H1 fun zs H2 => vs.length = n ∧ zs.length = nk ∧ P (perm pi (vs ++ zs)) H2 := by
  obtain ⟨H0, s, R, h⟩ := h
  unfold kwA at h
  rw [on_bind] at h
  refine ⟨H0, s, R, Out.on_imp h (fun as s1 h vs H1 H2 e1 R1 ra => ?_) fun _ _ q => q⟩
  rw [on_bind] at h
  refine ⟨H1, s1, R1, Out.on_imp h (fun bs s2 h zs H3 H4 e2 R2 rb => ?_) fun _ _ q => q.back e1⟩
  cases hl : (as.length == n && bs.length == nk) with
  | false => rw [hl] at h; exact h.elim
  | true =>
    rw [hl] at h
    rw [Bool.and_eq_true] at hl
    exact ⟨by rw [ra.len]; exact of_decide_eq_true hl.1, by rw [rb.len]; exact of_decide_eq_true hl.2, h _ H3 H4 (e1.trans e2) R2 (((ra.mono e2).append rb).perm pi)⟩
section
open PyProof.Rows
theorem run_kw {CX : CXT} {f : Addr} {fd : FuncData} {n : Nat} {pi : List Nat} {sp : Sp} {E : L2.St → XK} {pins : List (Addr × Obj)} {σ : L2.St} {H : Hp} {s : Shared} {Q : VK} {us ws : List Value} {vs zs : List V} (F : FnOk X.prog X.w X.K X.mg X.base CX k f fd ps sp) (hr : Room k X.A) (hb : KwB X.K fd ps n ks pi) (hx : PassesAt CX X σ (E σ))
    (I : Inv X pins σ H s) (r : Vals vs us) (rz : Vals zs ws) (l1 : vs.length = n) (l2 : zs.length = ks.length) (h : sp (perm pi (vs ++ zs)) H Q (E σ)) : wpAny (model X.prog X.w) X.A (call (.ref f) us (ks.zip ws)) (EP X pins σ Q) X.xe s := by
  have r2 := perm_vals (r.append rz) pi
  refine wpAny_call (codeAny_mono (F.run X.A X.stack s H ⟨us, ks.zip ws⟩ (perm pi (us ++ ws)) (perm pi (vs ++ zs)) Q (E σ) hr I.env0 (hb s us ws I.kIn (r.length.symm.trans l1) (rz.length.symm.trans l2)) r2 h) fun r s' hq => ?_)
  cases r with
  | error e => exact hx pins H s e s' I hq
  | ok fl =>
    cases fl with
    | ret u => exact I.after hq
    | next => exact False.elim hq
    | brk => exact False.elim hq
    | cont => exact False.elim hq
theorem pe_kw {CX : CXT} {f : Addr} {fd : FuncData} {n : Nat} {pi : List Nat} {sp : Sp} {E : L2.St → XK} {t tk : TA} (F : FnOk X.prog X.w X.K X.mg X.base CX k f fd ps sp) (hr : Room k X.A) (hg : Gl X x) (hm : X.mg x = some (.ref f)) (hk : PySem.W.keepIn X.K (.ref f) = true) (hb : KwB X.K fd ps n ks pi) (hx : ∀ σ, PassesAt CX X σ (E σ))
    (ha : PA X (e :: es) t) (hkw : PK X kws tk) (hall : (backToKw pos (keywordEach kws X.env)).all (·.1.isSome) = true) (hks : (backToKw pos (keywordEach kws X.env)).filterMap (·.1) = ks)
    (hdb : (x == ("__debug__" : Str)) = false) (he : starEach (e :: es) X.env = (false, eval e X.env) :: starEach es X.env)
    (hpl : ((backTo pos (starEach (e :: es) X.env)).any (·.1) || (backToKw pos (keywordEach kws X.env)).any (·.1.isNone)) = false) :
    PE X (.Call (.Name x p) (e :: es) kws pos) (tKw n ks.length pi sp E t tk) := by
  refine ⟨fun pins s σ H Q I h => ?_⟩
  refine wpAny_Call_Name_kw (ld_glob I hg hm ?_ hdb)
  refine PySem.W.callWith_KW (h₀ := X.base) I.ok.mod.kin hk hall (thn (ha.run pos pins s σ H _ I h) fun us s1 ⟨vs, H1, I1, r, q⟩ => ?_) hpl he
  refine thn (hkw.run pos pins s1 σ H1 _ I1 q) fun ws s2 ⟨zs, H2, I2, rz, l1, l2, q2⟩ => ⟨I2.kIn, ?_⟩
  rw [hks]
  exact run_kw F hr hb (hx σ) I2 r rz l1 l2 q2
theorem pe_kw0 {CX : CXT} {f : Addr} {fd : FuncData} {pi : List Nat} {sp : Sp} {E : L2.St → XK} {tk : TA} (F : FnOk X.prog X.w X.K X.mg X.base CX k f fd ps sp) (hr : Room k X.A) (hg : Gl X x) (hm : X.mg x = some (.ref f)) (hk : PySem.W.keepIn X.K (.ref f) = true) (hb : KwB X.K fd ps 0 ks pi) (hx : ∀ σ, PassesAt CX X σ (E σ))
    (hkw : PK X kws tk) (hall : (backToKw pos (keywordEach kws X.env)).all (·.1.isSome) = true) (hks : (backToKw pos (keywordEach kws X.env)).filterMap (·.1) = ks)
    (hdb : (x == ("__debug__" : Str)) = false) (hpl : ((backTo pos (starEach [] X.env)).any (·.1) || (backToKw pos (keywordEach kws X.env)).any (·.1.isNone)) = false) :
    PE X (.Call (.Name x p) [] kws pos) (tKw 0 ks.length pi sp E tNil tk) := by
  refine ⟨fun pins s σ H Q I h => ?_⟩
  refine wpAny_Call_Name_kw (ld_glob I hg hm ?_ hdb)
  refine PySem.W.callWith_KW0 (h₀ := X.base) I.ok.mod.kin hk hall ?_ hpl
  refine thn (hkw.run pos pins s σ H _ I h) fun ws s2 ⟨zs, H2, I2, rz, l1, l2, q2⟩ => ⟨I2.kIn, ?_⟩
  rw [hks]
  exact run_kw F hr hb (hx σ) I2 .nil rz l1 l2 q2
end
theorem callP_sp' {n : Nat} {K : PySem.W.Frag} {mg : Str → Option Value} {md : DefM Unit} {σ : L2.St} {H : Hp} {Q : VK} (h : tE K mg g W (callP n md ms) σ H Q) : tAB K mg g W ms σ H fun vs H1 => spOf K mg n md vs H1 Q (fun c d H => W c d σ H) := by
  have := callP_sp h
  unfold tCallSD at this
  simpa using this
theorem callB_sp' [GOk β] {n : Nat} {K : PySem.W.Frag} {mg : Str → Option Value} {md : DefM β} {σ : L2.St} {H : Hp} {Q : VK} (hG : GOk.ok g.itp) (h : tE K mg g W (callB n md ms) σ H Q) : tAB K mg g W ms σ H fun vs H1 => spOf K mg n md vs H1 Q (fun c d H => W c d σ H) := by
  have := callB_sp hG h
  unfold tCallSD at this
  simpa using this
/-- how keywords bind, read off the def's text -/
abbrev KwT (x : Str) (st : Stmt) (ps : List Str) (n : Nat) (ks : List Str) (pi : List Nat) : Prop := ∀ (kV doc pm : Value) (an : Option Addr) (cdv ct : Value) (us ws : List Value), us.length = n → ws.length = ks.length →
  bindArgs (PySem.W.fnOf x x (defArgs st) (defBody st) (defScope st) .none kV doc pm an cdv ct) ⟨us, ks.zip ws⟩ = pure (ps.zip (perm pi (us ++ ws)))
theorem kwB {K : PySem.W.Frag} {f : Addr} {fd : FuncData} {n : Nat} {pi : List Nat} (F : FunD K x x (defArgs st) (defBody st) (defScope st) [] [] f fd) (h : KwT x st ps n ks pi) : KwB K fd ps n ks pi := by
  obtain ⟨oc, od, dV, kV, doc, pm, an, cdv, ct, osl, rfl, lk, hcd, hD, hK⟩ := F.ex
  rcases hD with ⟨_, rfl⟩ | ⟨e, _⟩
  · exact fun s us ws _ l1 l2 => .of_eq (h kV doc pm an cdv ct us ws l1 l2)
  · exact absurd rfl e
theorem e_kP {n N nk : Nat} (pi : List Nat) {md : DefM Unit} (F : Dx X.prog X.w X.K X.mg X.base k x st ps md) (hr : Room k' X.A) (tk : Takes X W) (h : KwT x st ps n ks pi) (ha : PABM X g W (e :: es) ms) (hkw : PKBM X g W kws mk) (hk : k ≤ k' := by decide) (hg : Gl X x := by rfl)
    (hall : (backToKw pos (keywordEach kws X.env)).all (·.1.isSome) = true := by rfl) (hks : (backToKw pos (keywordEach kws X.env)).filterMap (·.1) = ks := by rfl)
    (hdb : (x == ("__debug__" : Str)) = false := by decide) (he : starEach (e :: es) X.env = (false, eval e X.env) :: starEach es X.env := by rfl)
    (hpl : ((backTo pos (starEach (e :: es) X.env)).any (·.1) || (backToKw pos (keywordEach kws X.env)).any (·.1.isNone)) = false := by rfl) (hN : ps.length = N := by rfl) (hnk : ks.length = nk := by rfl) : PEM X g W (.Call (.Name x p) (e :: es) kws pos) (callP N md (kwA n nk pi ms mk)) := by
  subst hN hnk
  obtain ⟨f, fd, D, bn⟩ := F
  exact PE.imp (pe_kw (E := fun σ c d H => W c d σ H) D.ok (hr.mono hk) hg D.gl D.fn.kp (kwB D.fn h) (fun σ => passAt tk σ) ha hkw hall hks hdb he hpl) fun σ H Q q => kw_use (callP_sp' q)
theorem e_kP0 {N nk : Nat} (pi : List Nat) {md : DefM Unit} (F : Dx X.prog X.w X.K X.mg X.base k x st ps md) (hr : Room k' X.A) (tk : Takes X W) (h : KwT x st ps 0 ks pi) (hkw : PKBM X g W kws mk) (hk : k ≤ k' := by decide) (hg : Gl X x := by rfl)
    (hall : (backToKw pos (keywordEach kws X.env)).all (·.1.isSome) = true := by rfl) (hks : (backToKw pos (keywordEach kws X.env)).filterMap (·.1) = ks := by rfl)
    (hdb : (x == ("__debug__" : Str)) = false := by decide) (hpl : ((backTo pos (starEach [] X.env)).any (·.1) || (backToKw pos (keywordEach kws X.env)).any (·.1.isNone)) = false := by rfl) (hN : ps.length = N := by rfl) (hnk : ks.length = nk := by rfl) : PEM X g W (.Call (.Name x p) [] kws pos) (callP N md (kwA 0 nk pi (mret []) mk)) := by
  subst hN hnk
  obtain ⟨f, fd, D, bn⟩ := F
  refine PE.imp (pe_kw0 (E := fun σ c d H => W c d σ H) D.ok (hr.mono hk) hg D.gl D.fn.kp (kwB D.fn h) (fun σ => passAt tk σ) hkw hall hks hdb hpl) fun σ H Q q => ?_
  obtain ⟨H0, s, R, q⟩ := kw_use (callP_sp' q)
  exact q [] H0 H (Ex.refl _) R .nil
end
/-! ### y = [..] -/
section
variable {β : Type} {X : Cx} {g : G β} {W : WX} {tgt : List Nat} {elt tg iter : Expr} {ifs : List Expr} {scope : Scope} {pos py spos : Pos} {mi : M β (List D)} {t : D → M β Unit} {c : M β Bool} {e : M β RV} {y : Str}
theorem s_setLc (i : Nat) (own : List (Str × Nat)) (hN : X.N.Nodup) (hi : PIM X g W tg iter mi) (hg : BlkG X g scope tgt tg t) (ht : BlkT X g scope ifs c) (he : BlkE X g scope elt e) (hc : X.calm = true := by rfl) (hy : X.N[i]? = some y := by rfl) (hyl : X.env.scope.names.lookup y = some .local := by rfl)
    (hsw : swapsWith (.ListComp elt [⟨tg, iter, ifs, 0⟩] scope pos) (some (.Name y py)) spos.line X.env = pure true := by exact sw_true rfl rfl rfl (by decide +kernel)) (ok : BlkOk X.N X.env.scope scope own := by exact blkOk_by (by decide +kernel)) (hs : ∀ i ∈ tgt, i ∈ own.map (·.2) := by decide) (hf : ∀ x, foldedSetIterable iter X.env x = pure x := by intro _; rfl) :
    PSM X g W (.Assign [.Name y py] (.ListComp elt [⟨tg, iter, ifs, 0⟩] scope pos) spos) (asgM i (lcM (own.map (·.2)) mi t c e)) :=
  PS.imp (ps_setLc hc hN hy hyl hsw hi ok (fun s H C cl fp => pg_F fun F => hg F s H C cl fp) (fun s H C cl fp => pts_F fun F => ht F s H C cl fp) (fun s H C cl fp => pe_F fun F => (he F s H C cl fp).d) hf) fun D σ H ⟨H0, s, R, q⟩ => by
    unfold asgM at q
    rw [on_bind] at q
    refine lc_tE hs ⟨H0, s, R, Out.on_imp q (fun r s1 q v H1 H2 e R1 rr ap => ?_) fun _ _ q => q.e⟩
    rw [on_bind] at q
    obtain ⟨hl, q⟩ := on_stV q
    exact q _ H1 H2 e (R1.set (by rw [← R1.len]; exact hl) rr ap)
end
end DL

set_option Elab.async false
set_option linter.all false
set_option maxRecDepth 100000
set_option maxHeartbeats 1000000
namespace DL
open PySem PySem.Spec L2 PyProof.Rows GenW
section
variable {M : Model} {A : Around} {R : GenEnd} {Y : Protocol} {n : Nat} {s₀ s : Shared} {c : Code} {fs : List Frame} {env : Env} {K : Flow → Sem PySem.Fin} {H : Value → Sem PySem.Fin} {gd : Bool → Bool} {lv : List Value → List Value}
/-- the head of a for among a generator's statements -/
theorem sg_for {tg iter : Expr} {body orelse : List Stmt} {pos : Pos}
    (h : wpAny M (A.over c fs) (eval iter env) (fun x s1 => wpAny M (A.over c fs) (pyIter x) (fun it s2 => ∀ p, Seg M A R Y n s₀ (.forLoop tg it body orelse env) (M.den (.forLoop tg it body orelse env))
      (.ret (fun r => ((match r with | .ok f => (.pure f : Sem Flow) | .error e => .raise e).onRaise (cameBack env)).wrap K H gd lv) none (gd false) (lv []) c p [] :: fs) s2)
      (fun x s' => Seg M A R Y n s₀ c (H x) fs s') s1) (fun x s' => Seg M A R Y n s₀ c (H x) fs s') s)
    (hs : ∀ x, foldedSetIterable iter env x = pure x) : Seg M A R Y n s₀ c ((exec (.For tg iter body orelse pos) env).wrap K H gd lv) fs s := by
  rw [exec_For]
  refine seg_bind_wrap (wpAny_standAt ?_)
  refine seg_bind_wrap (wpAny_mono h (fun x s1 h1 => ?_) fun _ _ h => h)
  rw [hs x]
  refine seg_bind_wrap (wpAny_pure ?_)
  refine seg_bind_wrap (wpAny_standAt ?_)
  refine seg_bind_wrap (wpAny_holding (wpAny_mono h1 (fun it s2 h2 => ?_) fun _ _ h => h))
  exact seg_call h2
theorem sg_if {cnd : Expr} {body orelse : List Stmt} {pos : Pos}
    (h : wpAny M (A.over c fs) (isTrue cnd env (eval cnd env)) (fun b s1 => match b with
      | true => Seg M A R Y n s₀ c ((execs body env).wrap K H gd lv) fs s1
      | false => Seg M A R Y n s₀ c ((execs orelse env).wrap K H gd lv) fs s1) (fun x s' => Seg M A R Y n s₀ c (H x) fs s') s) : Seg M A R Y n s₀ c ((exec (.If cnd body orelse pos) env).wrap K H gd lv) fs s := by
  rw [exec_If]
  refine seg_bind_wrap (wpAny_standAt ?_)
  refine seg_bind_wrap (wpAny_mono h (fun b s1 h1 => ?_) fun _ _ h => h)
  cases b with
  | true => exact h1
  | false => exact h1
end
section
variable {prog : Program} {w : World} {A : Around} {R : GenEnd} {Y : Protocol} {n : Nat} {s₀ : Shared} {fs : List Frame} {s : Shared} {env : Env}
/-- how an exception leaves a loop's code -/
abbrev lvg (env : Env) (x : Value) : Sem PySem.Fin := (do noteFrame x env; theTreesLotGoes x : Sem Unit).wrap (fun _ => .raise x) .raise id id
/-- one turn -/
theorem sg_turn {tg : Expr} {it : Value} {body : List Stmt}
    (h : wpAny (model prog w) (A.over (.forLoop tg it body [] env) fs) (pyNext it) (fun r s1 => match r with
      | none => Seg (model prog w) A R Y n s₀ (.forLoop tg it body [] env) (.pure (.again (.block [] env))) fs s1
      | some v => wpAny (model prog w) (A.over (.forLoop tg it body [] env) fs) (letOwnedTupleGo tg it v) (fun _ s2 => wpAny (model prog w) (A.over (.forLoop tg it body [] env) fs) (assign tg env v) (fun _ s3 =>
          Seg (model prog w) A R Y n s₀ (.forLoop tg it body [] env) ((execs body env).wrap (fun f => match f with
            | .next | .cont => .pure (.again (.forLoop tg it body [] env))
            | .brk => .pure (.done .next)
            | .ret v => .pure (.done (.ret v))) (lvg env) id id) fs s3)
          (fun x s' => Seg (model prog w) A R Y n s₀ (.forLoop tg it body [] env) (lvg env x) fs s') s2) (fun x s' => Seg (model prog w) A R Y n s₀ (.forLoop tg it body [] env) (lvg env x) fs s') s1)
      (fun x s' => Seg (model prog w) A R Y n s₀ (.forLoop tg it body [] env) (lvg env x) fs s') s) :
    Seg (model prog w) A R Y n s₀ (.forLoop tg it body [] env) ((model prog w).den (.forLoop tg it body [] env)) fs s := by
  show Seg _ A R Y n s₀ _ ((forTurn tg it body [] env).onRaise (fun x => do noteFrame x env; theTreesLotGoes x)) fs s
  unfold forTurn
  have eJ : ∀ x, ((do noteFrame x env; theTreesLotGoes x : Sem Unit).bind fun _ => (Sem.raise x : Sem PySem.Fin)) = lvg env x := fun x => Sem.bind_eq_wrap _ _
  rw [Sem.onRaise_eq_wrap]
  simp only [eJ]
  refine seg_bind_wrap (wpAny_standAt ?_)
  refine seg_bind_wrap (wpAny_onRaise (wpAny_mono h (fun r s1 h1 => ?_) fun x s1 h1 => wpAny_standAt h1))
  cases r with
  | none => exact h1
  | some v =>
    refine seg_bind_wrap (wpAny_mono h1 (fun _ s2 h2 => ?_) fun _ _ h => h)
    refine seg_bind_wrap (wpAny_mono h2 (fun _ s3 h3 => ?_) fun _ _ h => h)
    rw [Sem.bind_eq_wrap', Sem.wrap_wrap]
    rw [Sem.wrap_congr (execs body env) _ _ (K' := fun f => match f with
            | .next | .cont => .pure (.again (.forLoop tg it body [] env))
            | .brk => .pure (.done .next)
            | .ret v => .pure (.done (.ret v))) (H' := lvg env) (fun f => by cases f <;> rfl) (fun e => by rfl)]
    exact h3
/-- nothing is left to do -/
theorem sg_over {c : Code} (h : Seg (model prog w) A R Y n s₀ (.block [] env) (leafOf (.ok .next)) fs s) : Seg (model prog w) A R Y n s₀ c (.pure (.again (.block [] env))) fs s := seg_again rfl h
end
section
variable {X : Cx} {tg iter c : Expr} {body orelse : List Stmt} {pos : Pos} {wi : TI} {g : TG} {tb ta : TGn} {tc : TT}
def tGIf (tc : TT) (ta tb : TGn) : TGn := fun D ys σ H => tc σ H fun b H1 => if b = true then ta D ys σ H1 else tb D ys σ H1
theorem gs_if (hc : PT X c tc) (ha : GSs X body ta) (hb : GSs X orelse tb) : GS X (.If c body orelse pos) (tGIf tc ta tb) := by
  refine ⟨fun A S ip R n ys s₀ cc fs K J gd lv s σ H D g hn k hI ht => ?_⟩
  obtain ⟨acc, c', r, I⟩ := hI
  refine sg_if ?_
  rw [g.over]
  refine wpAny_mono (hc.run _ s σ H _ I ht) (fun b s1 ⟨H1, I1, q⟩ => ?_) fun x s' hx => k.exc n s₀ x s' hx
  cases b with
  | true => exact ha.run A S ip R n ys s₀ cc fs K J gd lv s1 σ H1 D g hn k ⟨acc, c', r, I1⟩ (by simpa using q)
  | false => exact hb.run A S ip R n ys s₀ cc fs K J gd lv s1 σ H1 D g hn k ⟨acc, c', r, I1⟩ (by simpa using q)
def tGFor (wi : TI) (g : TG) (tb : TGn) : TGn := fun D ys σ H => wi σ H fun J H1 => ∃ W : Nat → Nat → List V → L2.St → Hp → Prop, (∃ m, W 0 m ys σ H1) ∧ ∀ i m ys σ H, W i m ys σ H →
  (J.stop i H ∧ D.nx ys σ H) ∨ (J.go i H ∧ ∃ N : List V → L2.St → Hp → Prop, (∀ ys' σ' H', N ys' σ' H' → ∃ m', m' < m ∧ W (i + 1) m' ys' σ' H') ∧ ∀ x H', J.yld i H x H' → g x σ H' fun σ2 H2 => tb { D with nx := N, ct := N, bk := D.nx } ys σ2 H2)
theorem gs_for (hp : PassesOwn (model X.prog X.w) X.A X.env X.xe) (hc : X.calm = true) (hi : PI X tg iter wi) (hg : PG X tg g) (hb : GSs X body tb) (hs : ∀ x, foldedSetIterable iter X.env x = pure x := by intro _; rfl) : GS X (.For tg iter body [] pos) (tGFor wi g tb) := by
  refine ⟨fun A S ip R n ys s₀ c fs K J gd lv s σ H D gc hn k hI ht => ?_⟩
  obtain ⟨acc, cc, r, I⟩ := hI
  refine sg_for ?_ hs
  rw [gc.over]
  refine wpAny_mono (hi.run _ s σ H _ I ht) (fun v s1 h1 => wpAny_mono h1 (fun itv s2 h2 => ?_) fun x s' hx => k.exc n s₀ x s' hx) fun x s' hx => k.exc n s₀ x s' hx
  obtain ⟨it, fp, tn, Jt, H2, e, I2, T, st2, f2, W, ⟨m0, w0⟩, turn⟩ := h2
  subst e
  have stat : ∀ {acc' : Array Value} {c' : Nat} {H' : Hp}, (∀ b ∈ fp, H' b = none) → ∀ b ∈ fp, FpOk X ((S, lstObj acc' c') :: ip) H' b := fun hn b hb => by
    obtain ⟨_, z1, z2, z3, z4, z5⟩ := f2 b hb
    refine ⟨hn b hb, z1, z2, z3, z4, fun p hp => ?_⟩
    rcases List.mem_append.mp hp with hp | hp
    · exact z5 p (List.mem_append_left _ hp)
    · rcases List.mem_cons.mp hp with hp | hp
      · rw [hp]
        exact z5 (S, lstObj acc cc) (List.mem_append_right _ List.mem_cons_self)
      · exact z5 p (List.mem_append_right _ (List.mem_cons_of_mem _ hp))
  have notS : ∀ b ∈ fp, b ≠ S := fun b hb e => (f2 b hb).2.2.2.2.2 (S, lstObj acc cc) (List.mem_append_right _ List.mem_cons_self) e.symm
  intro p
  have gl := fun (kk : Result → Sem PySem.Fin) => gc_loop (k := kk) (c' := .forLoop tg (.ref it) body [] X.env) (l := lv []) (kp := []) (p := p) gc rfl rfl
  have loop : ∀ (m n i : Nat) (ys : List V) (s₀ s : Shared) (σ : L2.St) (H : Hp), n + ys.length = sizeLine → W i m ys σ H → GI X S ip ys σ H s → tn i s.heap → (∀ b ∈ fp, H b = none) →
      Seg (model X.prog X.w) A R (GY X S) n s₀ (.forLoop tg (.ref it) body [] X.env) ((model X.prog X.w).den (.forLoop tg (.ref it) body [] X.env))
        (.ret (fun r => ((match r with | .ok f => (.pure f : Sem Flow) | .error e => .raise e).onRaise (cameBack X.env)).wrap K J gd lv) none (gd false) (lv []) c p [] :: fs) s := by
    intro m
    induction m using Nat.strongRecOn with
    | ind m ih =>
      intro n i ys s₀ s σ H hn w hI st3 fr3
      have ee : ∀ (n : Nat) (s₀ : Shared) (x : Value) (s' : Shared), X.xe x s' → Seg (model X.prog X.w) A R (GY X S) n s₀ (.forLoop tg (.ref it) body [] X.env) (lvg X.env x)
          (.ret (fun r => ((match r with | .ok f => (.pure f : Sem Flow) | .error e => .raise e).onRaise (cameBack X.env)).wrap K J gd lv) none (gd false) (lv []) c p [] :: fs) s' := fun n s₀ x s' hx => by
        refine seg_wrap ?_
        rw [(gl _).over]
        refine wpAny_bind (wpAny_mono (hp x s' hx) (fun _ s'' hcb => wpAny_theTreesLotGoes ?_) fun y s'' hcb => ?_)
        · exact seg_leaf (.error x) (seg_cameBack gc k hcb)
        · exact seg_leaf (.error y) (seg_cameBack gc k hcb)
      obtain ⟨acc, cc, r, I3⟩ := hI
      refine sg_turn ?_
      rw [(gl _).over]
      rcases turn i m ys σ H w with ⟨stop, qn⟩ | ⟨go, N, hN, step⟩
      · refine wpAny_mono (T.done X rfl rfl rfl hc i _ s σ H X.xe I3 (stat fr3) st3 stop) (fun r' s4 ⟨hr, I4⟩ => ?_) fun x s' hx => ee n s₀ x s' hx
        subst hr
        exact sg_over (seg_leaf (.ok .next) (k.ok n ys s₀ s4 .next hn ⟨σ, H, ⟨acc, cc, r, I4⟩, qn⟩))
      · refine wpAny_mono (T.item X rfl rfl rfl hc i _ s σ H X.xe I3 (stat fr3) st3 go) (fun r' s4 ⟨u, hr, h4⟩ => ?_) fun x s' hx => ee n s₀ x s' hx
        subst hr
        refine wpAny_mono h4 (fun _ s5 ⟨x, H5, I5, r5, y5, st5, fr5⟩ => ?_) fun x s' hx => ee n s₀ x s' hx
        have I5' : Inv X ((S, lstObj acc cc) :: (ip ++ pinsAt fp s5.heap)) σ H5 s5 := I5.pinned (stat fr5) (T.obj _ _ st5)
        refine wpAny_mono (hg.run _ s5 σ H5 x u _ I5' r5 (step x H5 y5)) (fun _ s6 ⟨σ6, H6, I6, q6⟩ => ?_) fun x s' hx => ee n s₀ x s' hx
        have gb : GC X S (ip ++ pinsAt fp s5.heap) A (.forLoop tg (.ref it) body [] X.env) (.ret (fun r => ((match r with | .ok f => (.pure f : Sem Flow) | .error e => .raise e).onRaise (cameBack X.env)).wrap K J gd lv) none (gd false) (lv []) c p [] :: fs) id := by
          obtain ⟨z1, z2, z3, z4, z5, z6, z7⟩ := gl (fun r => ((match r with | .ok f => (.pure f : Sem Flow) | .error e => .raise e).onRaise (cameBack X.env)).wrap K J gd lv)
          refine ⟨z1, fun q hq => ?_, z3, z4, z5, z6, z7⟩
          rcases List.mem_append.mp hq with hq | hq
          · exact z2 q hq
          · exact notS _ (of_pinsAt hq).1
        have back : ∀ {ys' : List V} {σ7 : L2.St} {H7 : Hp} {s7 : Shared}, GI X S (ip ++ pinsAt fp s5.heap) ys' σ7 H7 s7 → GI X S ip ys' σ7 H7 s7 ∧ tn (i + 1) s7.heap ∧ ∀ b ∈ fp, H7 b = none := fun {ys' σ7 H7 s7} z => by
          obtain ⟨a7, c7, r7, I7⟩ := z
          have pin : ∀ b ∈ fp, ∀ o, s5.heap.get? b = some o → s7.heap.get? b = some o ∧ H7 b = none := fun b hb o e => by
            have := I7.pin (b, o) (List.mem_append_right _ (List.mem_cons_of_mem _ (List.mem_append_right _ (mem_pinsAt hb e))))
            exact ⟨this.1, this.2.1⟩
          refine ⟨⟨a7, c7, r7, I7.pins_of fun q hq => I7.pin q (List.mem_append_right _ ?_)⟩, T.keep _ _ _ st5 fun b hb o e => (pin b hb o e).1, fun b hb => ?_⟩
          · rcases List.mem_cons.mp hq with hq | hq
            · rw [hq]; exact List.mem_cons_self
            · exact List.mem_cons_of_mem _ (List.mem_append_left _ hq)
          · obtain ⟨o, e, _⟩ := T.obj _ _ st5 b hb
            exact (pin b hb o e).2
        refine hb.run A S _ R n ys s₀ _ _ _ _ id id s6 σ6 H6 { D with nx := N, ct := N, bk := D.nx } gb hn ⟨fun n' ys' s₀' s7 f hn' hs7 => ?_, fun n' s₀' x s7 hx => ee n' s₀' x s7 hx⟩ ⟨acc, cc, r, I6⟩ q6
        cases f with
        | next =>
          obtain ⟨σ7, H7, I7, n7⟩ := hs7
          obtain ⟨m', hm, w7⟩ := hN ys' σ7 H7 n7
          obtain ⟨J7, st7, fr7⟩ := back I7
          exact seg_again rfl (ih m' hm n' (i + 1) ys' s₀' s7 σ7 H7 hn' w7 J7 st7 fr7)
        | cont =>
          obtain ⟨σ7, H7, I7, n7⟩ := hs7
          obtain ⟨m', hm, w7⟩ := hN ys' σ7 H7 n7
          obtain ⟨J7, st7, fr7⟩ := back I7
          exact seg_again rfl (ih m' hm n' (i + 1) ys' s₀' s7 σ7 H7 hn' w7 J7 st7 fr7)
        | brk =>
          obtain ⟨σ7, H7, I7, q7⟩ := hs7
          exact seg_leaf (.ok .next) (k.ok n' ys' s₀' s7 .next hn' ⟨σ7, H7, (back I7).1, q7⟩)
        | ret v =>
          obtain ⟨x7, σ7, H7, I7, r7, q7⟩ := hs7
          exact seg_leaf (.ok (.ret v)) (k.ok n' ys' s₀' s7 (.ret v) hn' ⟨x7, σ7, H7, (back I7).1, r7, q7⟩)
  exact loop m0 n 0 ys s₀ s2 σ H2 hn w0 ⟨acc, cc, r, I2⟩ st2 fun b hb => (f2 b hb).1
end
end DL

set_option Elab.async false
set_option linter.all false
set_option maxRecDepth 100000
namespace DL
open PySem PySem.Spec L2
/-! ### a generator's body: the mirror is given what is out so far -/
abbrev GM (β : Type) := List D → M β (Fl × List D)
section
variable {β : Type}
def gTo (m : M β Fl) : GM β := fun ys => mbind m fun f => mret (f, ys)
def gYld (m : M β RV) : GM β := fun ys => mIte (decide (ys.length < sizeLine)) (mbind m fun r => mret (.nx, ys ++ [r.d])) mbad
def gThn (b : GM β) : Fl × List D → M β (Fl × List D)
  | (.nx, ys) => b ys
  | q => mret q
def gSeq (a b : GM β) : GM β := fun ys => mbind (a ys) (gThn b)
def gIf (c : M β Bool) (a b : GM β) : GM β := fun ys => mbind c fun k => mIte k (a ys) (b ys)
def gLoop (k : GM β) : Fl × List D → M β (Fl × List D)
  | (.nx, ys) => k ys
  | (.ct, ys) => k ys
  | (.bk, ys) => mret (.nx, ys)
  | (.rt r, ys) => mret (.rt r, ys)
def gWh : Nat → M β Bool → GM β → GM β
  | 0, _, _ => fun _ => mbad
  | n + 1, c, b => fun ys => mbind c fun k => mIte k (mbind (b ys) (gLoop (gWh n c b))) (mret (.nx, ys))
def gFr (t : D → M β Unit) (b : GM β) : List D → GM β
  | [] => fun ys => mret (.nx, ys)
  | d :: ds => fun ys => mbind (noX (t d)) fun _ => mbind (b ys) (gLoop (gFr t b ds))
def gFor (mi : M β (List D)) (t : D → M β Unit) (b : GM β) : GM β := fun ys => mbind mi fun ds => gFr t b ds ys
end
section
variable {β : Type} {K : PySem.W.Frag} {mg : Str → Option Value} {g : G β} {W : WX} {H0 H H0' H' : Hp} {σ : L2.St} {s s' : S β}
def GFl (K : PySem.W.Frag) (g : G β) (D' : GEnds) (H0 : Hp) : Fl × List D → S β → Prop
  | (.nx, ds), s' => ∀ ys σ' H0' H', Ex H0 H0' → Rel K g H0' σ' H' s' → Reps K g.bx H0' ys ds → D'.nx ys σ' H'
  | (.bk, ds), s' => ∀ ys σ' H0' H', Ex H0 H0' → Rel K g H0' σ' H' s' → Reps K g.bx H0' ys ds → D'.bk ys σ' H'
  | (.ct, ds), s' => ∀ ys σ' H0' H', Ex H0 H0' → Rel K g H0' σ' H' s' → Reps K g.bx H0' ys ds → D'.ct ys σ' H'
  | (.rt r, ds), s' => ∀ v ys σ' H0' H', Ex H0 H0' → Rel K g H0' σ' H' s' → ResR K g H0' H' v r → Reps K g.bx H0' ys ds → D'.rt ys v H'
def tGn (K : PySem.W.Frag) (mg : Str → Option Value) (g : G β) (W : WX) (m : GM β) : TGn := fun D' ys σ H => ∃ H0 s ds, Rel K g H0 σ H s ∧ Reps K g.bx H0 ys ds ∧ (m ds s).on (GFl K g D' H0) (EscS K mg g W H0)
theorem GFl.back {D' : GEnds} {f : Fl × List D} (h : GFl K g D' H0 f s) (e : Ex H0 H0') : GFl K g D' H0' f s := by
  obtain ⟨f, ds⟩ := f
  cases f with
  | nx => exact fun ys σ' H1 H2 e2 R => h ys σ' H1 H2 (e.trans e2) R
  | bk => exact fun ys σ' H1 H2 e2 R => h ys σ' H1 H2 (e.trans e2) R
  | ct => exact fun ys σ' H1 H2 e2 R => h ys σ' H1 H2 (e.trans e2) R
  | rt r => exact fun v ys σ' H1 H2 e2 R rr => h v ys σ' H1 H2 (e.trans e2) R rr
theorem on_gback {m : Out (S β) (Fl × List D)} {D' : GEnds} (h : m.on (GFl K g D' H0) (EscS K mg g W H0)) (e : Ex H0 H0') : m.on (GFl K g D' H0') (EscS K mg g W H0') := Out.on_imp h (fun _ _ q => q.back e) fun _ _ q => q.back e
end
section
variable {β : Type} {X : Cx} {g : G β} {W : WX} {a b c e tg iter : Expr} {es : List Expr} {st : Stmt} {rest body orelse : List Stmt} {m m' me : M β RV} {mi : M β (List D)} {f : M β Fl} {k k' : GM β} {t : D → M β Unit} {cm : M β Bool} {pos yp : Pos} {tgt : List Nat}
abbrev GSM (X : Cx) (g : G β) (W : WX) (st : Stmt) (m : GM β) : Prop := GS X st (tGn X.K X.mg g W m)
abbrev GSSM (X : Cx) (g : G β) (W : WX) (st : List Stmt) (m : GM β) : Prop := GSs X st (tGn X.K X.mg g W m)
theorem GS.imp {X : Cx} {st : Stmt} {t t' : TGn} (h : GS X st t) (i : ∀ D ys σ H, t' D ys σ H → t D ys σ H) : GS X st t' := ⟨fun A S ip R n ys s₀ c fs K J gd lv s σ H D g hn k hI ht => h.run A S ip R n ys s₀ c fs K J gd lv s σ H D g hn k hI (i D ys σ H ht)⟩
theorem GSs.imp {X : Cx} {st : List Stmt} {t t' : TGn} (h : GSs X st t) (i : ∀ D ys σ H, t' D ys σ H → t D ys σ H) : GSs X st t' := ⟨fun A S ip R n ys s₀ c fs K J gd lv s σ H D g hn k hI ht => h.run A S ip R n ys s₀ c fs K J gd lv s σ H D g hn k hI (i D ys σ H ht)⟩
/-- a statement that hands out nothing -/
theorem y_s (h : PSM X g W st f) : GSM X g W st (gTo f) := GS.imp (gs_ps h) fun D' ys σ H ⟨H0, s, ds, R, ry, q⟩ => by
  unfold gTo at q
  rw [on_bind] at q
  refine ⟨H0, s, R, Out.on_imp q (fun fl s1 q => ?_) fun _ _ q => q⟩
  have q : GFl X.K g D' H0 (fl, ds) s1 := q
  cases fl with
  | nx => exact fun σ' H1 H2 e R1 => q ys σ' H1 H2 e R1 (ry.mono e)
  | bk => exact fun σ' H1 H2 e R1 => q ys σ' H1 H2 e R1 (ry.mono e)
  | ct => exact fun σ' H1 H2 e R1 => q ys σ' H1 H2 e R1 (ry.mono e)
  | rt r => exact fun v σ' H1 H2 e R1 rr => q v ys σ' H1 H2 e R1 rr (ry.mono e)
theorem ys_nil : GSSM X g W [] (fun ys => mret (.nx, ys)) := GSs.imp gss_nil fun D' ys σ H ⟨H0, s, ds, R, ry, q⟩ => q ys σ H0 H (Ex.refl _) R ry
theorem ys_cons (h1 : GSM X g W st k) (h2 : GSSM X g W rest k') : GSSM X g W (st :: rest) (gSeq k k') := GSs.imp (gss_cons h1 h2) fun D' ys σ H ⟨H0, s, ds, R, ry, q⟩ => by
  unfold gSeq at q
  rw [on_bind] at q
  refine ⟨H0, s, ds, R, ry, Out.on_imp q (fun fl s1 q => ?_) fun _ _ q => q⟩
  obtain ⟨fl, es⟩ := fl
  cases fl with
  | nx => exact fun ys' σ' H1 H2 e R' ry' => ⟨H1, s1, es, R', ry', on_gback q e⟩
  | bk => exact q
  | ct => exact q
  | rt r => exact q
theorem y_yld (h : PEM X g W e m) (hco : X.env.scope.isCoroutine = false := by rfl) (hi : interactive X.env = false := by rfl) : GSM X g W (.Expr (.Yield (some e) yp) pos) (gYld m) := GS.imp (gs_yield h.d hco hi) fun D' ys σ H ⟨H0, s, ds, R, ry, q⟩ => by
  unfold gYld at q
  cases hz : decide (ds.length < sizeLine) with
  | false => rw [hz] at q; exact q.elim
  | true =>
    rw [hz] at q
    have q : (mbind m (fun r => mret (Fl.nx, ds ++ [r.d])) s).on _ _ := q
    rw [on_bind] at q
    exact ⟨by rw [ry.len]; exact of_decide_eq_true hz, H0, s, R, Out.on_imp q (fun r s1 q v H1 H2 e R1 rr => q (ys ++ [v]) σ H1 H2 e R1 ((ry.mono e).append (.one rr))) fun _ _ q => q.e⟩
theorem y_if (hc : PTM X g W c cm) (ha : GSSM X g W body k) (hb : GSSM X g W orelse k') : GSM X g W (.If c body orelse pos) (gIf cm k k') := GS.imp (gs_if hc ha hb) fun D' ys σ H ⟨H0, s, ds, R, ry, q⟩ => by
  unfold gIf at q
  rw [on_bind] at q
  refine ⟨H0, s, R, Out.on_imp q (fun b s1 q H1 H2 e R1 => ?_) fun _ _ q => q.e⟩
  cases b with
  | true => rw [if_pos rfl]; exact ⟨H1, s1, ds, R1, ry.mono e, on_gback (show (k ds s1).on _ _ from q) e⟩
  | false => rw [if_neg Bool.false_ne_true]; exact ⟨H1, s1, ds, R1, ry.mono e, on_gback (show (k' ds s1).on _ _ from q) e⟩
theorem y_while (n : Nat) (hp : PassesOwn (model X.prog X.w) X.A X.env X.xe) (hc : PTM X g W c cm) (hb : GSSM X g W body k) : GSM X g W (.While c body [] pos) (gWh n cm k) := GS.imp (gs_while hp hc hb) fun D' ys σ H ⟨H0, s, ds, R, ry, q⟩ => by
  refine ⟨fun n ys σ H => ∃ H1 s ds, Ex H0 H1 ∧ Rel X.K g H1 σ H s ∧ Reps X.K g.bx H1 ys ds ∧ (gWh n cm k ds s).on (GFl X.K g D' H1) (EscS X.K X.mg g W H1), ⟨n, H0, s, ds, Ex.refl _, R, ry, q⟩, ?_⟩
  rintro n ys σ H ⟨H1, s, ds, e1, R, ry, q⟩
  cases n with
  | zero => exact q.elim
  | succ n =>
    have q : (mbind cm (fun b => mIte b (mbind (k ds) (gLoop (gWh n cm k))) (mret (Fl.nx, ds))) s).on _ _ := q
    rw [on_bind] at q
    refine ⟨H1, s, R, Out.on_imp q (fun b s1 q H2 H3 e2 R1 => ?_) fun _ _ q => q.e⟩
    cases b with
    | false => rw [if_neg Bool.false_ne_true]; exact q ys σ H2 H3 e2 R1 (ry.mono e2)
    | true =>
      rw [if_pos rfl]
      have q : (mbind (k ds) (gLoop (gWh n cm k)) s1).on _ _ := q
      rw [on_bind] at q
      refine ⟨fun ys' σ' H' => ∃ H4 s ds, Ex H0 H4 ∧ Rel X.K g H4 σ' H' s ∧ Reps X.K g.bx H4 ys' ds ∧ (gWh n cm k ds s).on (GFl X.K g D' H4) (EscS X.K X.mg g W H4), fun ys' σ' H' h => ⟨n, Nat.lt_succ_self _, h⟩, H2, s1, ds, R1, ry.mono e2, Out.on_imp q (fun fl s2 q => ?_) fun _ _ q => q.back e2⟩
      obtain ⟨fl, es⟩ := fl
      cases fl with
      | nx => exact fun ys' σ' H4 H5 e4 R4 ry4 => ⟨H4, s2, es, (e1.trans e2).trans e4, R4, ry4, on_gback q (e2.trans e4)⟩
      | ct => exact fun ys' σ' H4 H5 e4 R4 ry4 => ⟨H4, s2, es, (e1.trans e2).trans e4, R4, ry4, on_gback q (e2.trans e4)⟩
      | bk => exact fun ys' σ' H4 H5 e4 R4 ry4 => q ys' σ' H4 H5 (e2.trans e4) R4 ry4
      | rt r => exact fun v ys' σ' H4 H5 e4 R4 rr ry4 => q v ys' σ' H4 H5 (e2.trans e4) R4 rr ry4
theorem y_for (hp : PassesOwn (model X.prog X.w) X.A X.env X.xe) (hc : X.calm = true) (hi : PIM X g W tg iter mi) (hg : PGM X g tgt tg t) (hb : GSSM X g W body k) (hs : ∀ x, foldedSetIterable iter X.env x = pure x := by intro _; rfl) : GSM X g W (.For tg iter body [] pos) (gFor mi t k) := GS.imp (gs_for hp hc hi hg hb hs) fun D' ys σ H ⟨H0, s, outs, R, ry, q⟩ => by
  unfold gFor at q
  rw [on_bind] at q
  refine ⟨H0, s, R, Out.on_imp q (fun ds s1 q J H1 H2 e1 R1 wk => ?_) fun _ _ q => q.e⟩
  refine ⟨fun i n ys σ H => i + n = ds.length ∧ ∃ H3 s outs, Ex H1 H3 ∧ Rel X.K g H3 σ H s ∧ Reps X.K g.bx H3 ys outs ∧ (gFr t k (ds.drop i) outs s).on (GFl X.K g D' H3) (EscS X.K X.mg g W H3), ⟨ds.length, by simp, H1, s1, outs, Ex.refl _, R1, ry.mono e1, on_gback q e1⟩, ?_⟩
  rintro i n ys σ H ⟨hk, H3, s, outs, e3, R3, ry3, q⟩
  by_cases hlt : i < ds.length
  · refine .inr ⟨wk.go H i ds[i] (e3.trans R3.r0.sub) (by simp [hlt]), fun ys' σ' H' => ∃ H3 s outs, Ex H1 H3 ∧ Rel X.K g H3 σ' H' s ∧ Reps X.K g.bx H3 ys' outs ∧ (gFr t k (ds.drop (i + 1)) outs s).on (GFl X.K g D' H3) (EscS X.K X.mg g W H3), fun ys' σ' H' h => ⟨n - 1, by omega, by omega, h⟩, fun x H' y => ?_⟩
    obtain ⟨H4, gr, rx⟩ := wk.yld H3 H i ds[i] x H' e3 R3.r0.sub (by simp [hlt]) y
    have R4 := R3.grow gr.e0 gr.e gr.sub gr.new
    rw [show ds.drop i = ds[i] :: ds.drop (i + 1) from List.drop_eq_getElem_cons hlt] at q
    have q : (mbind (noX (t ds[i])) (fun _ => mbind (k outs) (gLoop (gFr t k (ds.drop (i + 1))))) s).on _ _ := q
    rw [on_bind] at q
    refine ⟨H4, s, ds[i], R4, rx, Out.on_imp (on_noX q) (fun _ s5 q σ5 H5 H6 _ e5 R5 => ?_) fun _ _ q => q⟩
    rw [on_bind] at q
    have e35 : Ex H3 H5 := gr.e0.trans e5
    refine ⟨H5, s5, outs, R5, ry3.mono e35, Out.on_imp q (fun fl s6 q => ?_) fun _ _ q => q.back e35⟩
    obtain ⟨fl, es⟩ := fl
    cases fl with
    | nx => exact fun ys' σ' H7 H8 e7 R7 ry7 => ⟨H7, s6, es, (e3.trans e35).trans e7, R7, ry7, on_gback q (e35.trans e7)⟩
    | ct => exact fun ys' σ' H7 H8 e7 R7 ry7 => ⟨H7, s6, es, (e3.trans e35).trans e7, R7, ry7, on_gback q (e35.trans e7)⟩
    | bk => exact fun ys' σ' H7 H8 e7 R7 ry7 => q ys' σ' H7 H8 (e35.trans e7) R7 ry7
    | rt r => exact fun v ys' σ' H7 H8 e7 R7 rr ry7 => q v ys' σ' H7 H8 (e35.trans e7) R7 rr ry7
  · have ei : i = ds.length := by omega
    subst ei
    rw [List.drop_length] at q
    exact .inl ⟨wk.stop H (e3.trans R3.r0.sub), q ys σ H3 H (Ex.refl _) R3 ry3⟩
end
/-! ### the generator def -/
abbrev DefG := List D → Option (List D)
def spG (K : PySem.W.Frag) (n : Nat) (m : DefG) : SpG := fun vs H Q E => ∃ (g : G Unit) (H0 : Hp) (ds out : List D), ds.length = n ∧ Rel0 g H0 H () ∧ Reps K g.bx H0 vs ds ∧ m ds = some out ∧
  (∀ ys H0' H', Ex H0 H0' → Rel0 g H0' H' () → Reps K g.bx H0' ys out → Q ys H')
/-- a generator's body, run on n slots; it raises nothing -/
def runGen (n : Nat) (mb : GM Unit) : DefG := fun ds => match mb [] ⟨ds.map Slot.v ++ List.replicate (n - ds.length) Slot.no, ()⟩ with
  | .ok (.nx, out) _ => some out
  | .ok (.rt (.v .non), out) _ => some out
  | _ => none
section
variable {P : Program} {w : World} {K : PySem.W.Frag} {mg : Str → Option Value} {base : Heap}
theorem gbody_ok {g : G Unit} {H0 H : Hp} {N : List Str} {vs : List V} {ds out : List D} {mb : GM Unit} {W : WX} {Q : List V → Hp → Prop} (r0 : Rel0 g H0 H ()) (rs : Reps K g.bx H0 vs ds)
    (h : runGen N.length mb ds = some out) (k : ∀ ys H0' H', Ex H0 H0' → Rel0 g H0' H' () → Reps K g.bx H0' ys out → Q ys H') :
    tGn K mg g W mb { nx := fun ys _ H' => Q ys H', rt := fun ys v H' => v = .non ∧ Q ys H' } [] (L2.start N vs) H := by
  refine ⟨H0, _, [], start_rel r0 rs, .nil, ?_⟩
  unfold runGen at h
  revert h
  cases mb [] ⟨ds.map Slot.v ++ List.replicate (N.length - ds.length) Slot.no, ()⟩ with
  | bad => exact fun h => by cases h
  | exc x s => exact fun h => by cases h
  | ok f s =>
    obtain ⟨f, es⟩ := f
    intro h
    cases f with
    | nx => cases h; exact fun ys σ' H0' H' e R ry => k ys H0' H' e R.r0 ry
    | bk => cases h
    | ct => cases h
    | rt r =>
      cases r with
      | o _ => cases h
      | v d =>
        cases d <;> cases h
        exact fun v ys σ' H0' H' e R rr ry => ⟨by cases (show Rep K g.bx H0' v .non from rr); rfl, k ys H0' H' e R.r0 ry⟩
structure Dg (P : Program) (w : World) (K : PySem.W.Frag) (mg : Str → Option Value) (base : Heap) (k : Nat) (x : Str) (st : Stmt) (ps : List Str) (kws : List (Str × V)) (f : Addr) (fd : FuncData) (m : DefG) : Prop where
  fn : FunD K x x (defArgs st) (defBody st) (defScope st) [] kws f fd
  gl : mg x = some (.ref f)
  ok : GFn P w K mg base k f fd ps (spG K ps.length m)
theorem dg_mk {x : Str} {st : Stmt} {ps N : List Str} {kws : List (Str × V)} {f : Addr} {fd : FuncData} {k : Nat} {mb : GM Unit} (F : FunD K x x (defArgs st) (defBody st) (defScope st) [] kws f fd) (gl : mg x = some (.ref f)) (S : GScope N ps (defScope st))
    (hb : ∀ (cdv : Value) (A : Around) (outer : List Env) (s : Shared) (H : Hp) (E : XK) (g : G Unit) (pn : List (Addr × Obj)), Room k (A.deeper (PyProof.Rows.envOfC x (defScope st) s.heap.objs.size f cdv)) → GSSM (gcxOf P w K mg base N x (defScope st) f cdv A outer s H E pn) g (fun c d _ H => E c d H) (defBody st) mb) :
    Dg P w K mg base (k + 1) x st ps kws f fd (runGen N.length mb) := by
  refine ⟨F, gl, ?_⟩
  obtain ⟨oc, od, dV, kV, doc, pm, an, cdv, ct, osl, rfl, lk, hcd, hD, hK⟩ := F.ex
  refine gfn_of lk hcd S (fun vs H Q E ⟨g, H0, ds, out, hn, _, rs, _⟩ => by rw [rs.len, hn]) fun A outer s H vs Q E pn hr ⟨g, H0, ds, out, hn, r0, rs, ho, kk⟩ => ⟨_, hb cdv A outer s H E g pn hr, gbody_ok r0 rs ho kk⟩
end
/-! ### list(gen(..)) -/
section
variable {β : Type} {K : PySem.W.Frag} {mg : Str → Option Value} {g : G β} {W : WX} {H0 H H0' H' : Hp} {σ : L2.St} {s s' : S β} {v : V} {r : RV} {vs : List V} {as : List Arg} {ds : List D} {n : Nat} {Q : VK}
def noBs (as : List Arg) : M β (List D) := mIte (noB as) (rsl as) mbad
/-- list(f(..)), f a generator def of n parameters (ex: the defaults that lack) -/
def callG (n : Nat) (m : DefG) (ms : M β (List Arg)) : M β RV := mbind ms fun as => mIte (as.length == n && noB as) (mbind (rsl as) fun ds => mbind (opt (m ds)) fun out => mret (.o out)) mbad
theorem spG_use {m : DefG} {out : List D} {Q : List V → Hp → Prop} {E : XK} (R : Rel K g H0 σ H s) (rs : Reps K g.bx H0 vs ds) (hn : ds.length = n) (ho : m ds = some out)
    (h : ∀ ys H0' H', Ex H0 H0' → Rel K g H0' σ H' s → Reps K g.bx H0' ys out → Q ys H') : spG K n m vs H Q E := by
  obtain ⟨o, hb, ib⟩ := R.r0.it
  refine ⟨⟨g.bx, fun _ _ o' => o' = o, fun _ h => h, frameOf g.bx H0 H⟩, H0, ds, out, hn, ⟨R.r0.sub, frameOf_sub, frameOf_dis, R.r0.bxn, frameOf_bx, o, hb, rfl⟩, rs, ho, fun ys H1 H2 e1 r1 ry => ?_⟩
  have it : ∃ o, H2 g.bx = some o ∧ g.itp H1 s.bx o := by
    obtain ⟨o', hb', hit⟩ := r1.it
    have hit : o' = o := hit
    subst hit
    exact ⟨o', hb', g.mono e1 ib⟩
  obtain ⟨R2, _, _⟩ := R.called (b' := s.bx) (v := .non) (r := .v .non) r1 rfl rfl e1 it .non
  exact h ys H1 H2 e1 R2 ry
theorem callG_sp {m : DefG} {ms : M β (List Arg)} {E : XK} (h : tE K mg g W (callG n m ms) σ H Q) : tAB K mg g W ms σ H fun vs H1 => spG K n m vs H1 (fun out H2 => ∀ p, H2 p = none → Q (.ref p) (upd H2 p (.lst out))) E := by
  obtain ⟨H0, s, R, h⟩ := h
  unfold callG at h
  rw [on_bind] at h
  refine ⟨H0, s, R, Out.on_imp h (fun as s1 h vs H1 H2 e1 R1 ra => ?_) fun _ _ q => q⟩
  cases hl : (as.length == n && noB as) with
  | false => rw [hl] at h; exact h.elim
  | true =>
    rw [hl] at h
    rw [Bool.and_eq_true] at hl
    have h : (mbind (rsl as) (fun ds => mbind (opt (m ds)) fun out => mret (RV.o out)) s1).on _ _ := h
    rw [on_bind, on_rsl] at h
    obtain ⟨ds, eds, h⟩ := h
    rw [on_bind, on_opt] at h
    obtain ⟨out, ho, h⟩ := h
    have rs := res_plain ra hl.2 eds
    refine spG_use R1 rs (by rw [← rs.len, ra.len]; exact of_decide_eq_true hl.1) ho fun ys H3 H4 e3 R3 ry p hp => ?_
    exact (fin_of2 (r := .o out) R3 fun z H5 H6 e5 R5 rr ap => h z H5 H6 ((e1.trans e3).trans e5) R5 rr ap).lst R3.r0.sub ry hp
end
end DL

set_option Elab.async false
set_option linter.all false
set_option maxRecDepth 100000
namespace DL
open PySem PySem.Spec L2
/-! ### list(f(..)) of a generator def -/
/-- a generator def by its name; dfl: what fills up the keyword-only parameters at the end -/
def Gx (P : Program) (w : World) (K : PySem.W.Frag) (mg : Str → Option Value) (base : Heap) (k : Nat) (x : Str) (st : Stmt) (ps : List Str) (dfl : List D) (m : DefG) : Prop :=
  ∃ f fd kws dvs ds, Dg P w K mg base k x st ps kws f fd m ∧ Vals dvs ds ∧ Binds K fd ps ds ∧ (∀ bx H, Reps K bx H dvs dfl)
section
variable {β : Type} {X : Cx} {g : G β} {W : WX} {a b c e tg : Expr} {es : List Expr} {kws : List Keyword} {m : M β RV} {ma mb : M β Arg} {ms mk : M β (List Arg)} {ls : M β (List D)} {pos lpos p q kpos : Pos} {x nm : Str} {st : Stmt} {ps ks : List Str} {k k' n : Nat} {dfl : List D} {mg' : DefG}
def dflM (dfl : List D) (ms : M β (List Arg)) : M β (List Arg) := mbind ms fun as => mret (as ++ dfl.map Arg.v)
theorem argsV {K : PySem.W.Frag} {H0 : Hp} {σ : L2.St} : ∀ {vs : List V} {ds : List D}, Reps K g.bx H0 vs ds → ArgsR K g H0 σ vs (ds.map Arg.v)
  | [], [], _ => .nil
  | v :: vs, d :: ds, r => .cons (r.get 0 v d rfl rfl) (argsV ⟨by have := r.len; simpa using this, fun i y z h h' => r.get (i + 1) y z (by simpa using h) (by simpa using h')⟩)
  | [], _ :: _, r => absurd r.len (by simp)
  | _ :: _, [], r => absurd r.len (by simp)
theorem dflM_use {K : PySem.W.Frag} {mg : Str → Option Value} {σ : L2.St} {H : Hp} {P : List V → Hp → Prop} {dvs : List V} (hd : ∀ bx H, Reps K bx H dvs dfl) (h : tAB K mg g W (dflM dfl ms) σ H P) : tAB K mg g W ms σ H fun vs H1 => P (vs ++ dvs) H1 := by
  obtain ⟨H0, s, R, h⟩ := h
  unfold dflM at h
  rw [on_bind] at h
  exact ⟨H0, s, R, Out.on_imp h (fun as s1 h vs H1 H2 e1 R1 ra => h _ H1 H2 e1 R1 (ra.append (argsV (hd g.bx H1)))) fun _ _ q => q⟩
abbrev EF : XK := fun _ _ _ => False
theorem passF : Passes (L2.CX X.prog X.w) X EF := fun pins σ H s e s' I h => by
  obtain ⟨_, _, _, _, _, _, _, _, _, _, _, _, z⟩ := h
  exact z.elim
theorem noStopF {K : PySem.W.Frag} : NoStop K EF := fun _ _ _ h => h.elim
/-- list(f(e, ..)), the keyword-only parameters left out -/
theorem e_gP {N : Nat} (F : Gx X.prog X.w X.K X.mg X.base k x st ps dfl mg') (hr : Room k' X.A) (hl : X.mg "list" = none) (ha : PABM X g W (e :: es) ms) (hk : k + 3 ≤ k' := by decide) (hg : Gl X x := by rfl) (hgl : Gl X "list" := by rfl)
    (hdb : (x == ("__debug__" : Str)) = false := by decide) (he : starEach (e :: es) X.env = (false, eval e X.env) :: starEach es X.env := by rfl) (hpl : (backTo pos (starEach es X.env)).any (·.1) = false := by rfl) (hN : ps.length = N := by rfl)
    (he' : starEach [.Call (.Name x p) (e :: es) [] pos] X.env = (false, eval (.Call (.Name x p) (e :: es) [] pos) X.env) :: starEach [] X.env := by rfl) :
    PEM X g W (.Call (.Name "list" q) [.Call (.Name x p) (e :: es) [] pos] [] lpos) (callG N mg' (dflM dfl ms)) := by
  subst hN
  obtain ⟨f, fd, kwv, dvs, ds, D, hv, hb, hd⟩ := F
  exact PE.imp (pe_listG (pgen_call (E := EF) D.ok (hr.mono (by omega)) hg D.gl D.fn.kp hb hv ha hdb he hpl) passF noStopF (hr.mono hk) hgl hl (by decide +kernel) (he := he')) fun σ H Q h => dflM_use hd (callG_sp (E := EF) h)
section
variable {f : Addr} {fd : FuncData} {sp : SpG} {t tk : TA} {E : XK} {pi : List Nat}
def tKwG (n nk : Nat) (pi : List Nat) (sp : SpG) (E : XK) (t tk : TA) : TGen := fun σ H cont => t σ H fun vs H1 => tk σ H1 fun zs H2 => vs.length = n ∧ zs.length = nk ∧ sp (perm pi (vs ++ zs)) H2 cont E
theorem run_gkw {pins : List (Addr × Obj)} {σ : L2.St} {H : Hp} {s : Shared} {us ws : List Value} {vs zs : List V} {cont : List V → Hp → Prop} {E1 : Value → Shared → Prop} (F : GFn X.prog X.w X.K X.mg X.base k f fd ps sp) (hr : Room k X.A) (hb : KwB X.K fd ps n ks pi)
    (I : Inv X pins σ H s) (r : Vals vs us) (rz : Vals zs ws) (l1 : vs.length = n) (l2 : zs.length = ks.length) (h : sp (perm pi (vs ++ zs)) H cont E) :
    wpAny (model X.prog X.w) X.A (call (.ref f) us (ks.zip ws)) (fun u s' => ∃ H1 sc ex, Inv X pins σ H1 sc ∧ ExOk X pins ex ∧ GMade X.prog X.w k X.stack H1 sc ex cont E u s') E1 s := by
  have r2 := perm_vals (r.append rz) pi
  refine wpAny_call (codeAny_mono (F.run X.A X.stack s H ⟨us, ks.zip ws⟩ (perm pi (us ++ ws)) (perm pi (vs ++ zs)) cont E hr I.env0 (hb s us ws I.kIn (r.length.symm.trans l1) (rz.length.symm.trans l2)) r2 h) fun r s' hq => ?_)
  cases r with
  | error e => exact False.elim hq
  | ok fl =>
    cases fl with
    | ret u => exact ⟨H, s, [], I, .nil, hq⟩
    | next => exact False.elim hq
    | brk => exact False.elim hq
    | cont => exact False.elim hq
open PyProof.Rows in
theorem pgen_kw (F : GFn X.prog X.w X.K X.mg X.base k f fd ps sp) (hr : Room k X.A) (hg : Gl X x) (hm : X.mg x = some (.ref f)) (hk : PySem.W.keepIn X.K (.ref f) = true) (hb : KwB X.K fd ps n ks pi)
    (ha : PA X (e :: es) t) (hkw : PK X kws tk) (hall : (backToKw pos (keywordEach kws X.env)).all (·.1.isSome) = true) (hks : (backToKw pos (keywordEach kws X.env)).filterMap (·.1) = ks)
    (hdb : (x == ("__debug__" : Str)) = false) (he : starEach (e :: es) X.env = (false, eval e X.env) :: starEach es X.env)
    (hpl : ((backTo pos (starEach (e :: es) X.env)).any (·.1) || (backToKw pos (keywordEach kws X.env)).any (·.1.isNone)) = false) :
    PGen X k (.Call (.Name x p) (e :: es) kws pos) (tKwG n ks.length pi sp E t tk) E := by
  refine ⟨fun pins s σ H cont I h => ?_⟩
  refine wpAny_Call_Name_kw (ld_glob I hg hm ?_ hdb)
  refine PySem.W.callWith_KW (h₀ := X.base) I.ok.mod.kin hk hall (thn (ha.run pos pins s σ H _ I h) fun us s1 ⟨vs, H1, I1, r, q⟩ => ?_) hpl he
  refine thn (hkw.run pos pins s1 σ H1 _ I1 q) fun ws s2 ⟨zs, H2, I2, rz, l1, l2, q2⟩ => ⟨I2.kIn, ?_⟩
  rw [hks]
  exact run_gkw F hr hb I2 r rz l1 l2 q2
open PyProof.Rows in
theorem pgen_kw0 (F : GFn X.prog X.w X.K X.mg X.base k f fd ps sp) (hr : Room k X.A) (hg : Gl X x) (hm : X.mg x = some (.ref f)) (hk : PySem.W.keepIn X.K (.ref f) = true) (hb : KwB X.K fd ps 0 ks pi)
    (hkw : PK X kws tk) (hall : (backToKw pos (keywordEach kws X.env)).all (·.1.isSome) = true) (hks : (backToKw pos (keywordEach kws X.env)).filterMap (·.1) = ks)
    (hdb : (x == ("__debug__" : Str)) = false) (hpl : ((backTo pos (starEach [] X.env)).any (·.1) || (backToKw pos (keywordEach kws X.env)).any (·.1.isNone)) = false) :
    PGen X k (.Call (.Name x p) [] kws pos) (tKwG 0 ks.length pi sp E tNil tk) E := by
  refine ⟨fun pins s σ H cont I h => ?_⟩
  refine wpAny_Call_Name_kw (ld_glob I hg hm ?_ hdb)
  refine PySem.W.callWith_KW0 (h₀ := X.base) I.ok.mod.kin hk hall ?_ hpl
  refine thn (hkw.run pos pins s σ H _ I h) fun ws s2 ⟨zs, H2, I2, rz, l1, l2, q2⟩ => ⟨I2.kIn, ?_⟩
  rw [hks]
  exact run_gkw F hr hb I2 .nil rz l1 l2 q2
theorem kwBd {K : PySem.W.Frag} {kwv : List (Str × V)} (F : FunD K x x (defArgs st) (defBody st) (defScope st) [] kwv f fd) (h : KwT x st ps n ks pi) : KwB K fd ps n ks pi := by
  obtain ⟨oc, od, dV, kV, doc, pm, an, cdv, ct, osl, rfl, lk, hcd, hD, hK⟩ := F.ex
  rcases hD with ⟨_, rfl⟩ | ⟨e, _⟩
  · exact fun s us ws _ l1 l2 => .of_eq (h kV doc pm an cdv ct us ws l1 l2)
  · exact absurd rfl e
end
theorem e_gK {N nk : Nat} (pi : List Nat) (F : Gx X.prog X.w X.K X.mg X.base k x st ps dfl mg') (hr : Room k' X.A) (hl : X.mg "list" = none) (h : KwT x st ps n ks pi) (ha : PABM X g W (e :: es) ms) (hkw : PKBM X g W kws mk) (hk : k + 3 ≤ k' := by decide) (hg : Gl X x := by rfl) (hgl : Gl X "list" := by rfl)
    (hall : (backToKw pos (keywordEach kws X.env)).all (·.1.isSome) = true := by rfl) (hks : (backToKw pos (keywordEach kws X.env)).filterMap (·.1) = ks := by rfl)
    (hdb : (x == ("__debug__" : Str)) = false := by decide) (he : starEach (e :: es) X.env = (false, eval e X.env) :: starEach es X.env := by rfl)
    (hpl : ((backTo pos (starEach (e :: es) X.env)).any (·.1) || (backToKw pos (keywordEach kws X.env)).any (·.1.isNone)) = false := by rfl) (hN : ps.length = N := by rfl) (hnk : ks.length = nk := by rfl)
    (he' : starEach [.Call (.Name x p) (e :: es) kws pos] X.env = (false, eval (.Call (.Name x p) (e :: es) kws pos) X.env) :: starEach [] X.env := by rfl) :
    PEM X g W (.Call (.Name "list" q) [.Call (.Name x p) (e :: es) kws pos] [] lpos) (callG N mg' (kwA n nk pi ms mk)) := by
  subst hN hnk
  obtain ⟨f, fd, kwv, dvs, ds, D, hv, hb, hd⟩ := F
  exact PE.imp (pe_listG (pgen_kw (E := EF) D.ok (hr.mono (by omega)) hg D.gl D.fn.kp (kwBd D.fn h) ha hkw hall hks hdb he hpl) passF noStopF (hr.mono hk) hgl hl (by decide +kernel) (he := he')) fun σ H Q z => kw_use (callG_sp (E := EF) z)
theorem e_gK0 {N nk : Nat} (pi : List Nat) (F : Gx X.prog X.w X.K X.mg X.base k x st ps dfl mg') (hr : Room k' X.A) (hl : X.mg "list" = none) (h : KwT x st ps 0 ks pi) (hkw : PKBM X g W kws mk) (hk : k + 3 ≤ k' := by decide) (hg : Gl X x := by rfl) (hgl : Gl X "list" := by rfl)
    (hall : (backToKw pos (keywordEach kws X.env)).all (·.1.isSome) = true := by rfl) (hks : (backToKw pos (keywordEach kws X.env)).filterMap (·.1) = ks := by rfl)
    (hdb : (x == ("__debug__" : Str)) = false := by decide) (hpl : ((backTo pos (starEach [] X.env)).any (·.1) || (backToKw pos (keywordEach kws X.env)).any (·.1.isNone)) = false := by rfl) (hN : ps.length = N := by rfl) (hnk : ks.length = nk := by rfl)
    (he' : starEach [.Call (.Name x p) [] kws pos] X.env = (false, eval (.Call (.Name x p) [] kws pos) X.env) :: starEach [] X.env := by rfl) :
    PEM X g W (.Call (.Name "list" q) [.Call (.Name x p) [] kws pos] [] lpos) (callG N mg' (kwA 0 nk pi (mret []) mk)) := by
  subst hN hnk
  obtain ⟨f, fd, kwv, dvs, ds, D, hv, hb, hd⟩ := F
  refine PE.imp (pe_listG (pgen_kw0 (E := EF) D.ok (hr.mono (by omega)) hg D.gl D.fn.kp (kwBd D.fn h) hkw hall hks hdb hpl) passF noStopF (hr.mono hk) hgl hl (by decide +kernel) (he := he')) fun σ H Q z => ?_
  obtain ⟨H0, s, R, z⟩ := kw_use (callG_sp (E := EF) z)
  exact z [] H0 H (Ex.refl _) R .nil
/-! ### starred items of a display -/
def strC (ma : M β Arg) (ls : M β (List D)) : M β (List D) := mbind ma fun a => mbind (rsl [a]) fun ds => mbind (opt (ds.head?.bind itD)) fun es => mbind ls fun fs => mret (es ++ fs)
theorem l_star (ha : PBM X g W e ma) (hr : PAM X g W es ls) (hs : starEach (.Starred e p :: es) X.env = (true, eval e X.env) :: starEach es X.env := by rfl) : PAM X g W (.Starred e p :: es) (strC ma ls) := PA.imp (StX.pa_star ha hr hs) fun σ H Q ⟨H0, s, R, q⟩ => by
  unfold strC at q
  rw [on_bind] at q
  refine ⟨H0, s, R, Out.on_imp q (fun a s1 q v H1 H2 e1 R1 ra => ?_) fun _ _ q => q⟩
  rw [on_bind, on_rsl] at q
  obtain ⟨ds, eds, q⟩ := q
  obtain ⟨d, rfl, ct⟩ := R1.cont ra eds
  rw [on_bind, on_opt] at q
  obtain ⟨xs, ex, q⟩ := q
  have ex : itD d = some xs := ex
  have key : ∃ p vs, v = .ref p ∧ (SqT X.K H2 p vs ∨ SqL X.K H2 p vs) ∧ Reps X.K g.bx H1 vs xs := by
    cases d with
    | tup zs =>
      cases ex
      cases (show Rep X.K g.bx H1 v (.tup xs) from ct) with
      | tup h l z => exact ⟨_, _, rfl, .inl (R1.r0.sub.t h), ⟨l, z⟩⟩
    | lst zs =>
      cases ex
      obtain ⟨p, vs, rfl, hp, rs⟩ := ct
      exact ⟨p, vs, rfl, .inr (.of hp), rs⟩
    | _ => cases ex
  obtain ⟨p, vs, rfl, hsq, rs⟩ := key
  rw [on_bind] at q
  exact ⟨p, vs, rfl, hsq, H1, s1, R1, Out.on_imp q (fun fs s2 q ys H3 H4 e2 R2 ry => q (vs ++ ys) H3 H4 (e1.trans e2) R2 ((rs.mono e2).append ry)) fun _ _ q => q.back e1⟩
/-! ### range(i, j, c) -/
def rgC (lo c : Int) (n : Nat) : List D := (List.range n).map fun i : Nat => D.int (lo + (i : Int) * c)
/-- how many steps -/
def rgN (i j c : Int) : Nat := if 0 < c then ((j - i + c - 1) / c).toNat else ((i - j - c - 1) / (-c)).toNat
def rngD3 : List D → Option (List D)
  | [.int i, .int j, .int c] => if c ≠ 0 ∧ c.natAbs < 1073741824 ∧ Builtin.Range.small i j c = true ∧ Builtin.Range.rangeSize i j c = (rgN i j c : Int) then some (rgC i c (rgN i j c)) else none
  | _ => none
def rngM3 (ls : M β (List D)) : M β (List D) := mbind ls fun ds => opt (rngD3 ds)
theorem rgC_length (lo c : Int) (n : Nat) : (rgC lo c n).length = n := by unfold rgC; simp
theorem walks_c {K : PySem.W.Frag} {bx : Addr} {H0 : Hp} {lo c : Int} {n : Nat} : Walks K bx (Itc lo c n) H0 (rgC lo c n) := by
  refine ⟨fun H e => by show n ≤ (rgC lo c n).length; rw [rgC_length]; exact Nat.le_refl _, fun H i d e hd => ?_, fun Ht H i d x H' e0 e hd y => ?_⟩
  · have := (List.getElem?_eq_some_iff.mp hd).1
    rw [rgC_length] at this
    exact this
  · obtain ⟨rfl, rfl⟩ := y
    have hi' := (List.getElem?_eq_some_iff.mp hd).1
    rw [rgC_length] at hi'
    unfold rgC at hd
    rw [List.getElem?_map, List.getElem?_range hi'] at hd
    cases hd
    exact ⟨Ht, Grow.refl e, .int⟩
theorem i_range3 (hm : X.mg "range" = none) (ha : PAM X g W [a, b, c] ls) (hg : Gl X "range" := by rfl) (hs : starEach [a, b, c] X.env = (false, eval a X.env) :: starEach [b, c] X.env := by rfl) (hpl : (backTo pos (starEach [b, c] X.env)).any (·.1) = false := by rfl) : PIM X g W tg (.Call (.Name "range" p) [a, b, c] [] pos) (rngM3 ls) := PI.imp (pi_range3 hg hm ha hs hpl) fun σ H Q ⟨H0, s, R, q⟩ => by
  unfold rngM3 at q
  rw [on_bind] at q
  refine ⟨H0, s, R, Out.on_imp q (fun r s1 q v H1 H2 e1 R1 rr => ?_) fun _ _ q => q⟩
  rw [on_opt] at q
  obtain ⟨ds, ed, q⟩ := q
  unfold rngD3 at ed
  split at ed
  · rename_i i j k
    split at ed
    · rename_i hj
      cases ed
      obtain ⟨v, ws, rfl, r1, rs⟩ := rr.cases_cons
      obtain ⟨u, w, rfl, r2, r3⟩ := rs.cases2
      cases r1; cases r2; cases r3
      exact ⟨i, j, k, _, rfl, hj, q _ H1 H2 e1 R1 walks_c⟩
    · cases ed
  · cases ed
/-! ### what is never come to -/
theorem s_never : PSM X g W st mbad := PS.imp ps_never fun D σ H ⟨H0, s, R, q⟩ => q
theorem ss_never {sts : List Stmt} : PSSM X g W sts mbad := PSs.imp pss_never fun D σ H ⟨H0, s, R, q⟩ => q
end
end DL

set_option Elab.async false
set_option linter.all false
set_option maxRecDepth 100000
namespace DL
open PySem PySem.Spec L2
/-! ### isinstance(x, T), T a built-in type -/
def tyD : D → Option String
  | .non => some "NoneType"
  | .bl _ => some "bool"
  | .int _ => some "int"
  | .str _ => some "str"
  | .tup _ => some "tuple"
  | .lst _ => some "list"
  | .box => none
def isiD (T : String) (d : D) : Option RV := (tyD d).map fun a => .v (.bl (a == T || (a == "bool" && T == "int")))
def tyNames : List String := ["NoneType", "bool", "int", "str", "tuple", "list"]
def isNames : List String := ["bool", "int", "str", "tuple", "list", "dict"]
theorem kit_all : (tyNames.all fun a => isNames.all fun b => kitB a b == some (a == b || (a == "bool" && b == "int"))) = true := by decide +kernel
theorem ty_kit {K : PySem.W.Frag} {a b : String} (ha : a ∈ tyNames) (hb : b ∈ isNames) : PySem.W.kitOne K (.type a) (.type b) = some (a == b || (a == "bool" && b == "int")) :=
  kit_ty (eq_of_beq (List.all_eq_true.mp (List.all_eq_true.mp kit_all a ha) b hb))
theorem ty_cont {K : PySem.W.Frag} {bx : Addr} {H0 H : Hp} {v : V} {d : D} {a : String} (c : Cont K bx H0 H v d) (sub : Ex H0 H) (h : tyD d = some a) : TyX K H v (.type a) ∧ a ∈ tyNames := by
  cases d with
  | non => cases h; cases (show Rep K bx H0 v .non from c); exact ⟨.base .non, by decide⟩
  | bl b => cases h; cases (show Rep K bx H0 v (.bl b) from c); exact ⟨.base (.bl b), by decide⟩
  | int i => cases h; cases (show Rep K bx H0 v (.int i) from c); exact ⟨.base (.int i), by decide⟩
  | str x => cases h; cases (show Rep K bx H0 v (.str x) from c); exact ⟨.base (.str x), by decide⟩
  | tup ds =>
    cases h
    refine ⟨?_, by decide⟩
    cases (show Rep K bx H0 v (.tup ds) from c) with
    | tup h l z =>
      rcases sub.t h with (h | ⟨o, h⟩) | ⟨o, its, n, h1, h2, _⟩
      · exact .base (.tup h)
      · exact .fTuple h
      · exact .kTuple h1 h2
  | lst ds =>
    cases h
    obtain ⟨p, vs, rfl, hp, _⟩ := c
    exact ⟨.base (.lst hp), by decide⟩
  | box => cases h
section
variable {β : Type} {X : Cx} {g : G β} {W : WX} {a b c e tg iter tg1 iter1 elt : Expr} {es ifs ifs1 : List Expr} {m : M β RV} {ma mb : M β Arg} {ms : M β (List Arg)} {ls : M β (List D)} {pos lpos p q kpos : Pos} {x nm : Str} {st : Stmt}
def isiM (T : String) (ma : M β Arg) : M β RV := mbind ma fun a => mbind (rsl [a]) fun ds => opt (ds.head?.bind (isiD T))
theorem e_isi (T : String) (hI : X.mg "isinstance" = none) (hT : X.mg x = none) (ha : PBM X g W e ma) (hT2 : bootBuiltins x = some (.type T) := by decide +kernel) (hmem : T ∈ isNames := by decide) (hg : Gl X "isinstance" := by rfl) (hgx : Gl X x := by rfl)
    (hn : x ≠ "__name__" := by decide) (hdx : (x == ("__debug__" : Str)) = false := by decide) (he : starEach [e, .Name x q] X.env = (false, eval e X.env) :: starEach [.Name x q] X.env := by rfl) (he2 : starEach [.Name x q] X.env = (false, eval (.Name x q) X.env) :: starEach [] X.env := by rfl) (hpl : (backTo pos (starEach [.Name x q] X.env)).any (·.1) = false := by rfl) :
    PEM X g W (.Call (.Name "isinstance" p) [e, .Name x q] [] pos) (isiM T ma) :=
  PE.imp (pe_callB call_isi hg hI PyProof.Rows.boot_isinstance (pa_cons ha (pa_cons (pe_bltn (v := .ty T) hgx hT hT2 rfl hn hdx) pa_nil he2) he) (he := he) (hpl := hpl)) fun σ H Q ⟨H0, s, R, z⟩ => by
    unfold isiM at z
    rw [on_bind] at z
    refine ⟨H0, s, R, Out.on_imp z (fun a s1 z v H1 H2 e1 R1 ra => ?_) fun _ _ q => q⟩
    rw [on_bind, on_rsl] at z
    obtain ⟨ds, eds, z⟩ := z
    obtain ⟨d, rfl, ct⟩ := R1.cont ra eds
    rw [on_opt] at z
    obtain ⟨rz, ez, z⟩ := z
    have ez : isiD T d = some rz := ez
    unfold isiD at ez
    rw [Option.map_eq_some_iff] at ez
    obtain ⟨A, hA, rfl⟩ := ez
    obtain ⟨ty, hm⟩ := ty_cont ct R1.r0.sub hA
    exact ⟨v, .ty T, _, _, _, rfl, .ty T, ty, ty_kit hm hmem, z _ H1 H2 e1 R1 .bl trivial⟩
/-! ### xs[i] op= e -/
def rGetL (K : PySem.W.Frag) : V → V → Hp → VK → Prop := fun o i H Q => ∃ p xs k v, o = .ref p ∧ i = .int k ∧ SqL K H p xs ∧ atI xs k = some v ∧ Q v H
theorem get_lst : PGet X (rGetL X.K) := by
  intro pins s σ H o i ov iv Q I ro ri h
  obtain ⟨p, xs, k, z, rfl, rfl, hq, he, q⟩ := h
  cases ro
  obtain ⟨t, rfl⟩ := ri
  obtain ⟨its, r, pl, hz⟩ := I.list hq
  obtain ⟨j, h1, h2, h3, h4, h5⟩ := atI_get he
  obtain ⟨w, ew, rw'⟩ := r.get h2
  have hl := r.length
  have hn := line63
  have fin : EP X pins σ Q w s := ⟨z, H, I, rw', q⟩
  by_cases h0 : 0 ≤ k
  · have hj : k.toNat = j := by
      rw [seqIndex_of h0 h5] at h1
      exact Option.some.inj h1
    exact wpAny_getItem_list pl.isList h0 (by omega) (by rw [hj]; simpa using ew) fin
  · have hj : (k + (its.toArray.size : Int)).toNat = j := by
      rw [seqIndex_neg (by omega) h4] at h1
      rw [List.size_toArray, ← hl]
      exact Option.some.inj h1
    exact wpAny_getItem_list_neg pl.isList (by omega) (by rw [List.size_toArray] <;> omega) (by omega) (by rw [hj]; simpa using ew) fin
def aixM (i : Nat) (fo : D → D → Option RV) (mi me : M β RV) : M β Fl := mbind (ownAt i) fun _ => mbind mi fun y => mbind (ownAt i) fun ds => mbind (opt ((asI y.d).bind fun k => atI ds k)) fun d => mbind me fun z => mbind (opt ((fo d z.d).filter scalR)) fun r =>
  mbind (ownAt i) fun ds' => mbind (opt ((asI y.d).bind fun k => ixN ds'.length k)) fun j => mbind (putO i (ds'.set j r.d)) fun _ => mret .nx
theorem Reps.atI {K : PySem.W.Frag} {bx : Addr} {H : Hp} {vs : List V} {ds : List D} {k : Int} {d : D} (rs : Reps K bx H vs ds) (h : atI ds k = some d) : ∃ v, L2.atI vs k = some v ∧ Rep K bx H v d := by
  unfold L2.atI at h ⊢
  rw [rs.len]
  cases e : ixN ds.length k with
  | none => rw [e] at h; cases h
  | some j => rw [e] at h; exact rs.at h
theorem s_aix (i : Nat) {x : Str} {op : Operator} {fo : D → D → Option RV} {mi me : M β RV} {p pos' : Pos} (hop : Aug X op fo) (he : PEM X g W e me) (hi : PEM X g W b mi) (hN : X.N[i]? = some x := by rfl) (hv : Vis X.env.scope x := by first | exact Or.inl rfl | exact Or.inr (Or.inl rfl) | exact Or.inr (Or.inr rfl)) (hd : (x == ("__debug__" : Str)) = false := by decide)
    (hcd : (x == ("__classdict__" : Str)) = false := by decide) (ha : ∀ ov iv new, augStore b ov iv new = (do holding [new, ov, iv] (setItem ov iv new); release [new, ov, iv] []; pure .next) := by intros; rfl) :
    PSM X g W (.AugAssign (.Subscript (.Name x p) b pos') op e pos) (aixM i fo mi me) := by
  obtain ⟨r, ho, ok⟩ := hop.ex
  refine PS.imp (ps_augS (pe_var hN hv hd hcd) hi.d get_lst he.d (show PIp X op r from ho) set_list ha) fun D σ H ⟨H0, s, R, q⟩ => ?_
  unfold aixM at q
  rw [on_bind] at q
  obtain ⟨ds0, hs0, q⟩ := on_ownAt q
  obtain ⟨p1, hσ, vs0, hp0, _⟩ := R.own_at hs0
  rw [on_bind] at q
  refine ⟨.ref p1, hσ, H0, s, R, Out.on_imp q (fun y s1 q u H1 H2 e1 R1 ru => ?_) fun _ _ q => q.e⟩
  rw [on_bind] at q
  obtain ⟨ds, hs1, q⟩ := on_ownAt q
  obtain ⟨p2, hσ2, vs, hp2, rs, _⟩ := R1.own_at hs1
  rw [hσ] at hσ2; cases hσ2
  rw [on_bind, on_opt] at q
  obtain ⟨d, ed, q⟩ := q
  rw [Option.bind_eq_some_iff] at ed
  obtain ⟨k, ek, ed⟩ := ed
  rw [asI_eq ek] at ru
  cases ru
  obtain ⟨v, hv', rv⟩ := rs.atI ed
  refine ⟨p1, vs, k, v, rfl, rfl, .of hp2, hv', ?_⟩
  rw [on_bind] at q
  refine ⟨H1, s1, R1, Out.on_imp q (fun z s2 q w H3 H4 e2 R2 rw' => ?_) fun _ _ q => (q.back e1).e⟩
  rw [on_bind, on_opt] at q
  obtain ⟨rz, ez, q⟩ := q
  rw [Option.filter_eq_some_iff] at ez
  obtain ⟨ez, hsc⟩ := ez
  refine ok g.bx H3 H4 v w d z.d rz _ R2.r0.sub (rv.mono e2) rw' ez (fin_of2 R2 fun t H5 H6 e3 R3 rt ap => ?_)
  rw [on_bind] at q
  obtain ⟨ds2, hs2, q⟩ := on_ownAt q
  obtain ⟨p3, hσ3, vs3, hp3, rs3, _⟩ := R3.own_at hs2
  rw [hσ] at hσ3; cases hσ3
  rw [on_bind, on_opt] at q
  obtain ⟨j, ej, q⟩ := q
  rw [Option.bind_eq_some_iff] at ej
  obtain ⟨k', ek', ej⟩ := ej
  rw [ek] at ek'
  cases ek'
  have rd : Rep X.K g.bx H5 t rz.d := by
    cases rz with
    | v d' => exact rt
    | o _ => cases hsc
  exact ⟨p1, vs3, k, j, rfl, rfl, hp3, by rw [rs3.len]; exact ej, q σ H5 _ ((e1.trans e2).trans e3) (R3.setO hs2 hσ (rs3.set rd j))⟩
end
/-! ### [e for x in xs for y in ys] -/
section
variable {β : Type}
def lc2L (own own1 : List Nat) (t : D → M β Unit) (c : M β Bool) (mi1 : M β (List D)) (t1 : D → M β Unit) (c1 : M β Bool) (e : M β RV) : List D → List D → M β (List D)
  | acc, [] => mret acc
  | acc, d :: ds => fun s => (mbind (noX (t d)) fun _ => mbind (noX c) fun k => mIte k (mbind (noX mi1) fun es => mbind (lcL own1 t1 c1 e acc es) fun acc' => lc2L own own1 t c mi1 t1 c1 e acc' ds) (lc2L own own1 t c mi1 t1 c1 e acc ds)) { s with sl := wipeS s.sl own }
def lc2M (own own1 : List Nat) (mi : M β (List D)) (t : D → M β Unit) (c : M β Bool) (mi1 : M β (List D)) (t1 : D → M β Unit) (c1 : M β Bool) (e : M β RV) : M β RV := mbind mi fun ds => fun s => mIte (wipeOk s.sl own) (mbind (noX (lc2L own own1 t c mi1 t1 c1 e [] ds)) fun acc => fun s' => .ok (.o acc) { s' with sl := restS s.sl s'.sl own }) mbad s
end
theorem wipe_sub (σ : L2.St) {own1 own : List Nat} (h : ∀ i ∈ own1, i ∈ own) : wipe (wipe σ own1) own = wipe σ own := wipe_but (tgt := own1) ⟨wipe_length _ _, fun j hj => wipe_out σ hj⟩ h
theorem wipeS_sub (sl : List Slot) {own1 own : List Nat} (h : ∀ i ∈ own1, i ∈ own) : wipeS (wipeS sl own1) own = wipeS sl own := by
  apply List.ext_getElem?
  intro j
  by_cases hj : j ∈ own
  · by_cases hl : j < sl.length
    · rw [wipeS_in _ (by rw [wipeS_length]; exact hl) hj, wipeS_in _ hl hj]
    · rw [List.getElem?_eq_none (by rw [wipeS_length, wipeS_length]; omega), List.getElem?_eq_none (by rw [wipeS_length]; omega)]
  · rw [wipeS_out _ hj, wipeS_out _ hj, wipeS_out _ fun z => hj (h j z)]
section
variable {β : Type} {K : PySem.W.Frag} {mg : Str → Option Value} {g : G β} {W : WX} {own own1 tgt tgt1 : List Nat} {mi mi1 : M β (List D)} {t t1 : D → M β Unit} {c c1 : M β Bool} {e : M β RV}
def tIF (K : PySem.W.Frag) (mg : Str → Option Value) (g : G β) (m : M β (List D)) : TI := fun σ H Q => ∃ F, tI K mg (g.wF F) W0 m σ H Q
theorem lc2_tE {σ : L2.St} {H : Hp} {Q : VK} (hs : ∀ i ∈ tgt, i ∈ own) (hs1 : ∀ i ∈ tgt1, i ∈ own1) (hso : ∀ i ∈ own1, i ∈ own) (h : tE K mg g W (lc2M own own1 mi t c mi1 t1 c1 e) σ H Q) :
    tLc2 (tI K mg g W mi) (tGF K g tgt t) (tTF K mg g c) (tIF K mg g mi1) (tGF K g tgt1 t1) (tTF K mg g c1) (tEF K mg g e) own own1 σ H Q := by
  obtain ⟨H0, s, R, h⟩ := h
  unfold lc2M at h
  rw [on_bind] at h
  refine ⟨H0, s, R, Out.on_imp h (fun ds s1 h J H1 H2 e1 R1 wk Dl hD => ?_) fun _ _ q => q⟩
  cases ok : wipeOk s1.sl own with
  | false => rw [ok] at h; exact h.elim
  | true =>
  rw [ok] at h
  have h : (mbind (noX (lc2L own own1 t c mi1 t1 c1 e [] ds)) (fun acc => fun s' => Out.ok (RV.o acc) { s' with sl := restS s1.sl s'.sl own }) s1).on _ _ := h
  rw [on_bind] at h
  have h := on_noX (e' := fun _ _ => False) h
  have nF : g.F Dl = none := R1.r0.frm.back hD
  have Rw := (R1.wipe own).hold (vs := []) hD
  -- what is wanted at the end
  obtain ⟨PQ, hPQ⟩ : ∃ PQ : List D → S β → Prop, PQ = fun acc s' => ∀ v H0' H', Ex H0 H0' → Rel K g H0' σ H' { s' with sl := restS s1.sl s'.sl own } → ResR K g H0' H' v (.o acc) → Apart σ (restS s1.sl s'.sl own) v (.o acc) → Q v H' := ⟨_, rfl⟩
  have h : (lc2L own own1 t c mi1 t1 c1 e [] ds s1).on PQ (fun _ _ => False) := by rw [hPQ]; exact h
  -- behind i items
  obtain ⟨At, hAt⟩ : ∃ At : Nat → Hp → Prop, At = fun i H => ∃ accD accV Ht s', Ex H1 Ht ∧ Rel K (g.wF (upd g.F Dl (.lst accV))) Ht (L2.wipe σ own) H { s' with sl := wipeS s'.sl own } ∧ Reps K g.bx Ht accV accD ∧
      (lc2L own own1 t c mi1 t1 c1 e accD (ds.drop i) s').on PQ (fun _ _ => False) := ⟨_, rfl⟩
  refine ⟨fun i k H => i + k = ds.length ∧ At i H, ⟨ds.length, by simp, by rw [hAt]; exact ⟨[], [], H1, s1, Ex.refl _, Rw, .nil, h⟩⟩, ?_⟩
  rintro i k H ⟨hk, hat⟩
  rw [hAt] at hat
  obtain ⟨accD, accV, Ht, s', et, Rt, ra, h⟩ := hat
  by_cases hlt : i < ds.length
  · have sub := Rt.r0.sub
    refine .inr ⟨wk.go H i ds[i] (et.trans sub) (by simp [hlt]), At (i + 1), fun H' h => ⟨k - 1, by omega, by omega, h⟩, fun x H' y => ?_⟩
    obtain ⟨H4, gr, rx⟩ := wk.yld Ht H i ds[i] x H' et sub (by simp [hlt]) y
    have R4 := Rt.grow gr.e0 gr.e gr.sub gr.new
    rw [show ds.drop i = ds[i] :: ds.drop (i + 1) from List.drop_eq_getElem_cons hlt] at h
    have h : (mbind (noX (t ds[i])) (fun _ => mbind (noX c) fun k => mIte k (mbind (noX mi1) fun es => mbind (lcL own1 t1 c1 e accD es) fun acc' => lc2L own own1 t c mi1 t1 c1 e acc' (ds.drop (i + 1))) (lc2L own own1 t c mi1 t1 c1 e accD (ds.drop (i + 1)))) { s' with sl := wipeS s'.sl own }).on _ _ := h
    rw [on_bind] at h
    refine ⟨_, H4, _, ds[i], R4, rx, Out.on_imp (on_noX h) (fun _ s5 h σ5 H5 H6 b5 e5 R5 => ?_) fun _ _ q => q⟩
    have ew : L2.wipe σ5 own = L2.wipe σ own := (wipe_but b5 hs).trans (wipe_wipe σ own)
    refine ⟨ew, ?_⟩
    rw [on_bind] at h
    refine ⟨_, H5, s5, R5, Out.on_imp (on_noX h) (fun kk s6 h H7 H8 e7 R7 => ?_) fun _ _ q => q⟩
    have e47 : Ex Ht H7 := (gr.e0.trans e5).trans e7
    cases kk with
    | false =>
      show (if _ = true then _ else _)
      rw [if_neg Bool.false_ne_true, hAt]
      have Rb := R7.wipe own
      rw [ew] at Rb
      exact ⟨accD, accV, H7, s6, et.trans e47, Rb, ra.mono e47, h⟩
    | true =>
      show (if _ = true then _ else _)
      rw [if_pos rfl]
      have h : (mbind (noX mi1) (fun es => mbind (lcL own1 t1 c1 e accD es) fun acc' => lc2L own own1 t c mi1 t1 c1 e acc' (ds.drop (i + 1))) s6).on _ _ := h
      rw [on_bind] at h
      refine ⟨_, H7, s6, R7, Out.on_imp (on_noX h) (fun es s7 h J1 H9 H10 e9 R9 wk1 => ?_) fun _ _ q => q⟩
      rw [on_bind] at h
      have e49 : Ex Ht H9 := e47.trans e9
      obtain ⟨PR, hPR⟩ : ∃ PR : List D → S β → Prop, PR = fun acc' s' => (lc2L own own1 t c mi1 t1 c1 e acc' (ds.drop (i + 1)) s').on PQ (fun _ _ => False) := ⟨_, rfl⟩
      have h : (lcL own1 t1 c1 e accD es s7).on PR (fun _ _ => False) := by rw [hPR]; exact h
      obtain ⟨At1, hAt1⟩ : ∃ At1 : Nat → Hp → Prop, At1 = fun j H => ∃ accD accV Hu s', Ex H9 Hu ∧ Rel K (g.wF (upd g.F Dl (.lst accV))) Hu (L2.wipe σ5 own1) H { s' with sl := wipeS s'.sl own1 } ∧ Reps K g.bx Hu accV accD ∧ (lcL own1 t1 c1 e accD (es.drop j) s').on PR (fun _ _ => False) := ⟨_, rfl⟩
      refine ⟨fun j k H => j + k = es.length ∧ At1 j H, ⟨es.length, by simp, by rw [hAt1]; exact ⟨accD, accV, H9, s7, Ex.refl _, R9.wipe own1, ra.mono e49, h⟩⟩, ?_⟩
      rintro j k1 Hx ⟨hk1, hat1⟩
      rw [hAt1] at hat1
      obtain ⟨accD, accV, Hu, s8, eu, Ru, rb, h⟩ := hat1
      by_cases hlt1 : j < es.length
      · have sub1 := Ru.r0.sub
        refine .inr ⟨wk1.go Hx j es[j] (eu.trans sub1) (by simp [hlt1]), At1 (j + 1), fun H' h => ⟨k1 - 1, by omega, by omega, h⟩, fun x1 Hy y1 => ?_⟩
        obtain ⟨Hz, gr1, rx1⟩ := wk1.yld Hu Hx j es[j] x1 Hy eu sub1 (by simp [hlt1]) y1
        have Rz := Ru.grow gr1.e0 gr1.e gr1.sub gr1.new
        rw [show es.drop j = es[j] :: es.drop (j + 1) from List.drop_eq_getElem_cons hlt1] at h
        have h : (mbind (noX (t1 es[j])) (fun _ => mbind (noX c1) fun k => mIte k (mbind (noX e) fun r => mIte (decide (accD.length < sizeLine)) (lcL own1 t1 c1 e (accD ++ [r.d]) (es.drop (j + 1))) mbad) (lcL own1 t1 c1 e accD (es.drop (j + 1)))) { s8 with sl := wipeS s8.sl own1 }).on _ _ := h
        rw [on_bind] at h
        refine ⟨_, Hz, _, es[j], Rz, rx1, Out.on_imp (on_noX h) (fun _ s9 h σ9 Ha Hb b9 e9' R9' => ?_) fun _ _ q => q⟩
        have ew1 : L2.wipe σ9 own1 = L2.wipe σ5 own1 := (wipe_but b9 hs1).trans (wipe_wipe σ5 own1)
        refine ⟨ew1, ?_⟩
        rw [on_bind] at h
        refine ⟨_, Ha, s9, R9', Out.on_imp (on_noX h) (fun kk sa h Hc Hd ec Rc => ?_) fun _ _ q => q⟩
        cases kk with
        | true =>
          show (if _ = true then _ else _)
          rw [if_pos rfl]
          have h : (mbind (noX e) (fun r => mIte (decide (accD.length < sizeLine)) (lcL own1 t1 c1 e (accD ++ [r.d]) (es.drop (j + 1))) mbad) sa).on _ _ := h
          rw [on_bind] at h
          refine ⟨_, Hc, sa, Rc, Out.on_imp (on_noX h) (fun r sb h z He Hf ee Re rz => ?_) fun _ _ q => q⟩
          cases hz : decide (accD.length < sizeLine) with
          | false => rw [hz] at h; exact h.elim
          | true =>
            rw [hz] at h
            have eue : Ex Hu He := ((gr1.e0.trans e9').trans ec).trans ee
            refine ⟨accV, Re.r0.frm Dl _ (by show upd g.F Dl (.lst accV) Dl = _; rw [upd_same]), by rw [rb.len]; exact of_decide_eq_true hz, ?_⟩
            rw [hAt1]
            have Rb := (Re.wipe own1).bump (accV ++ [z])
            rw [ew1] at Rb
            exact ⟨accD ++ [r.d], accV ++ [z], He, sb, eu.trans eue, Rb, (rb.mono eue).append (.one rz), h⟩
        | false =>
          show (if _ = true then _ else _)
          rw [if_neg Bool.false_ne_true, hAt1]
          have euc : Ex Hu Hc := (gr1.e0.trans e9').trans ec
          have Rb := Rc.wipe own1
          rw [ew1] at Rb
          exact ⟨accD, accV, Hc, sa, eu.trans euc, Rb, rb.mono euc, h⟩
      · have ej : j = es.length := by omega
        subst ej
        rw [List.drop_length] at h
        have h : PR accD s8 := h
        rw [hPR] at h
        refine .inl ⟨wk1.stop Hx (eu.trans Ru.r0.sub), ?_⟩
        rw [hAt]
        have Rb := Ru.wipe own
        rw [wipe_sub σ5 hso, ew] at Rb
        have Rb : Rel K (g.wF (upd g.F Dl (.lst accV))) Hu (L2.wipe σ own) Hx { s8 with sl := wipeS (wipeS s8.sl own1) own } := Rb
        rw [wipeS_sub _ hso] at Rb
        exact ⟨accD, accV, Hu, s8, (et.trans e49).trans eu, Rb, rb, h⟩
  · have ei : i = ds.length := by omega
    subst ei
    rw [List.drop_length] at h
    have h : PQ accD s' := h
    rw [hPQ] at h
    obtain ⟨Rf, hDl, n0, nb, no⟩ := Rt.free nF
    have Rr := Rf.rest R1 et ok
    refine .inl ⟨wk.stop H (et.trans Rt.r0.sub), h (.ref Dl) Ht H (e1.trans et) Rr ⟨Dl, accV, rfl, hDl, ra, n0, nF, nb⟩ fun j es p ep h1 h2 => ?_⟩
    cases ep
    have z := Rr.slot j _ _ h1 h2
    obtain ⟨q, ws, eq, _, _, _, _, _⟩ := z
    cases eq
    by_cases hj : j ∈ own
    · have hl : j < s'.sl.length := by
        have := (List.getElem?_eq_some_iff.mp h1).1
        rwa [restS_length] at this
      rw [restS_in s1.sl s'.sl hl hj] at h1
      have h0 : notO s1.sl[j]? = true := List.all_eq_true.mp ok j hj
      cases q : s1.sl[j]? with
      | none => rw [q] at h0; cases h0
      | some k0 =>
        have : s1.sl.getD j .no = k0 := by rw [List.getD_eq_getElem?_getD, q]; rfl
        rw [this] at h1
        cases h1
        rw [q] at h0; cases h0
    · rw [restS_out s1.sl s'.sl hj] at h1
      exact no ⟨j, es, by show (wipeS s'.sl own)[j]? = _; rw [wipeS_out s'.sl hj]; exact h1, by rw [wipe_out σ hj]; exact h2⟩
end
section
variable {β : Type} {X : Cx} {g : G β} {W : WX} {own : List (Str × Nat)} {own1 tgt tgt1 : List Nat} {elt tg iter tg1 iter1 : Expr} {ifs ifs1 : List Expr} {scope : Scope} {pos : Pos} {mi mi1 : M β (List D)} {t t1 : D → M β Unit} {c c1 : M β Bool} {e : M β RV}
abbrev BlkI (X : Cx) (g : G β) (scope : Scope) (tg iter : Expr) (m : M β (List D)) : Prop := ∀ (F : Hp) (s : Shared) (H : Hp) (C : Addr) (cl : List (Str × Addr)) (fp : List Addr), PIM (X.blk s H scope (compEnvC scope cl C X.env) fp) (g.wF F) W0 tg iter m
theorem pi_F {X' : Cx} {tg iter : Expr} {m : M β (List D)} (h : ∀ F, PI X' tg iter (tI X'.K X'.mg (g.wF F) W0 m)) : PI X' tg iter (tIF X'.K X'.mg g m) := ⟨fun pins s σ H Q I ⟨F, q⟩ => (h F).run pins s σ H Q I q⟩
theorem e_lc2 (own : List (Str × Nat)) (own1 : List Nat) (hN : X.N.Nodup) (hi : PIM X g W tg iter mi) (hg : BlkG X g scope tgt tg t) (ht : BlkT X g scope ifs c) (hi1 : BlkI X g scope tg1 iter1 mi1) (hg1 : BlkG X g scope tgt1 tg1 t1) (ht1 : BlkT X g scope ifs1 c1) (he : BlkE X g scope elt e) (hc : X.calm = true := by rfl) (ok : BlkOk X.N X.env.scope scope own := by exact blkOk_by (by decide +kernel)) (hs : ∀ i ∈ tgt, i ∈ own.map (·.2) := by decide) (hs1 : ∀ i ∈ tgt1, i ∈ own1 := by decide) (hso : ∀ i ∈ own1, i ∈ own.map (·.2) := by decide)
    (hf : ∀ x, foldedSetIterable iter X.env x = pure x := by intro _; rfl) (hf1 : ∀ env x, foldedSetIterable iter1 env x = pure x := by intro _ _; rfl) :
    PEM X g W (.ListComp elt [⟨tg, iter, ifs, 0⟩, ⟨tg1, iter1, ifs1, 0⟩] scope pos) (lc2M (own.map (·.2)) own1 mi t c mi1 t1 c1 e) :=
  PE.imp (pe_lc2 hc hN hi ok hso (fun s H C cl fp => pg_F fun F => hg F s H C cl fp) (fun s H C cl fp => pts_F fun F => ht F s H C cl fp) (fun s H C cl fp => pi_F fun F => hi1 F s H C cl fp) (fun s H C cl fp => pg_F fun F => hg1 F s H C cl fp) (fun s H C cl fp => pts_F fun F => ht1 F s H C cl fp) (fun s H C cl fp => pe_F fun F => (he F s H C cl fp).d) hf hf1) fun σ H Q h => lc2_tE hs hs1 hso h
end
end DL

set_option Elab.async false
set_option linter.all false
set_option maxRecDepth 100000
namespace DL
open PySem PySem.Spec L2
/-! ### the law's box -/
structure Bx where
  cells : List Int
  at_ : Int
  big : Int
  mix : Int
  cnt : Int
  left : Int
def Bx.vals (q : Addr) (b : Bx) : List V := [.ref q, .int b.at_, .int b.big, .int b.mix, .int b.cnt, .int b.left]
def Bx.items (b : Bx) : List D := [.lst (b.cells.map D.int), .int b.at_, .int b.big, .int b.mix, .int b.cnt, .int b.left]
def Bx.put (b : Bx) : Nat → Int → Bx
  | 1, i => { b with at_ := i }
  | 2, i => { b with big := i }
  | 3, i => { b with mix := i }
  | 4, i => { b with cnt := i }
  | 5, i => { b with left := i }
  | _, _ => b
def bxItp (H0 : Hp) (b : Bx) (o : HO) : Prop := ∃ q, o = .lst (b.vals q) ∧ H0 q = some (.lst (b.cells.map V.int))
theorem bxMono {H H' : Hp} {b : Bx} {o : HO} (e : Ex H H') (h : bxItp H b o) : bxItp H' b o := let ⟨q, h1, h2⟩ := h; ⟨q, h1, e _ _ h2⟩
instance : GOk Bx := ⟨fun i => i = bxItp⟩
theorem reps_ints {K : PySem.W.Frag} {bx : Addr} {H : Hp} (ns : List Int) : Reps K bx H (ns.map V.int) (ns.map D.int) := ⟨by simp, fun i v d h h' => by
  rw [List.getElem?_map, Option.map_eq_some_iff] at h h'
  obtain ⟨n, hn, rfl⟩ := h
  obtain ⟨m, hm, rfl⟩ := h'
  rw [hn] at hm; cases hm
  exact .int⟩
theorem bx_reps {K : PySem.W.Frag} {bx : Addr} {H : Hp} {b : Bx} {q : Addr} (h : H q = some (.lst (b.cells.map V.int))) : Reps K bx H (b.vals q) b.items :=
  .cons (.lstR h (reps_ints _)) (.cons .int (.cons .int (.cons .int (.cons .int (.one .int)))))
section
variable {X : Cx} {g : G Bx} {W : WX} {a b c e : Expr} {m : M Bx RV} {pos : Pos}
def bxRd (i k : Nat) : M Bx RV := fun s => match s.sl[i]?, s.bx.items[k]? with
  | some (.v .box), some d => .ok (.v d) s
  | _, _ => .bad
theorem Rel.box {K : PySem.W.Frag} {H0 H : Hp} {σ : L2.St} {s : S Bx} (R : Rel K g H0 σ H s) (hG : GOk.ok g.itp) {i : Nat} (h : s.sl[i]? = some (.v .box)) : σ[i]? = some (some (.ref g.bx)) ∧ ∃ q, H g.bx = some (.lst (s.bx.vals q)) ∧ H0 q = some (.lst (s.bx.cells.map V.int)) := by
  have hi : i < σ.length := by rw [← R.len]; exact (List.getElem?_eq_some_iff.mp h).1
  obtain ⟨y, e1, r⟩ := R.slot i _ σ[i] h (by simp [hi])
  cases r
  obtain ⟨o, ho, hit⟩ := R.r0.it
  rw [show g.itp = bxItp from hG] at hit
  obtain ⟨q, rfl, hq⟩ := hit
  exact ⟨by simp [hi, e1], q, ho, hq⟩
theorem e_bx (i k : Nat) {x : Str} {p p' : Pos} {j} (hG : GOk.ok g.itp) (hN : X.N[i]? = some x := by rfl) (hv : Vis X.env.scope x := by first | exact Or.inl rfl | exact Or.inr (Or.inl rfl) | exact Or.inr (Or.inr rfl)) (hd : (x == ("__debug__" : Str)) = false := by decide)
    (hcd : (x == ("__classdict__" : Str)) = false := by decide) : PEM X g W (.Subscript (.Name x p) (.Constant (.int (k : Nat)) j p') pos) (bxRd i k) := PE.imp (pe_ix ix_list (pe_var hN hv hd hcd) pe_int fun _ _ => rfl) fun σ H Q ⟨H0, s, R, q⟩ => by
  unfold bxRd at q
  cases h1 : s.sl[i]? with
  | none => rw [h1] at q; exact q.elim
  | some sl =>
    cases h2 : s.bx.items[k]? with
    | none => rw [h1, h2] at q; revert q; cases sl with
      | v d => cases d <;> exact fun h => h.elim
      | _ => exact fun h => h.elim
    | some d =>
      rw [h1, h2] at q
      cases sl with
      | no => exact q.elim
      | o _ => exact q.elim
      | v d' =>
        cases d' with
        | box =>
          obtain ⟨hσ, qa, hH, hq⟩ := R.box hG h1
          have rs := bx_reps (K := X.K) (bx := g.bx) (b := s.bx) hq
          obtain ⟨v, hv', rv⟩ := rs.at h2
          exact ⟨.ref g.bx, hσ, ⟨g.bx, _, (k : Int), v, rfl, rfl, .of hH, atI_nat hv', q v H0 H (Ex.refl _) R rv trivial⟩⟩
        | _ => exact q.elim
def bxSt (i k : Nat) (m : M Bx RV) : M Bx Fl := mbind m fun r => fun s => match s.sl[i]?, asI r.d, decide (1 ≤ k ∧ k ≤ 5) with
  | some (.v .box), some j, true => .ok .nx { s with bx := s.bx.put k j }
  | _, _, _ => .bad
theorem put_vals {b : Bx} {k : Nat} {q : Addr} {i : Int} (h : 1 ≤ k ∧ k ≤ 5) : (b.vals q).set k (.int i) = (b.put k i).vals q ∧ (b.put k i).cells = b.cells := by
  obtain ⟨h1, h2⟩ := h
  match k, h1, h2 with
  | 1, _, _ => exact ⟨rfl, rfl⟩
  | 2, _, _ => exact ⟨rfl, rfl⟩
  | 3, _, _ => exact ⟨rfl, rfl⟩
  | 4, _, _ => exact ⟨rfl, rfl⟩
  | 5, _, _ => exact ⟨rfl, rfl⟩
theorem s_bx (i k : Nat) {x : Str} {p pos' p' : Pos} {j} (hG : GOk.ok g.itp) (he : PEM X g W e m) (hN : X.N[i]? = some x := by rfl) (hv : Vis X.env.scope x := by first | exact Or.inl rfl | exact Or.inr (Or.inl rfl) | exact Or.inr (Or.inr rfl)) (hd : (x == ("__debug__" : Str)) = false := by decide)
    (hcd : (x == ("__classdict__" : Str)) = false := by decide)
    (ha : ∀ v, assign (.Subscript (.Name x p) (.Constant (.int (k : Nat)) j p') pos') X.env v = (do
      let ov ← holding [v] (eval (.Name x p) X.env)
      let iv ← holding [v, ov] (eval (.Constant (.int (k : Nat)) j p') X.env)
      standAt pos'
      holding [v, ov, iv] (setItem ov iv v)
      release [v, ov, iv] []) := by intros; rfl)
    (hs : swapsWithSole [.Subscript (.Name x p) (.Constant (.int (k : Nat)) j p') pos'] e pos.line X.env = pure false := by rfl) (hw : swappedStores [.Subscript (.Name x p) (.Constant (.int (k : Nat)) j p') pos'] e X.env = pure none := by rfl)
    (h1 : (assignEach [.Subscript (.Name x p) (.Constant (.int (k : Nat)) j p') pos'] X.env).map (·.2) = [assign (.Subscript (.Name x p) (.Constant (.int (k : Nat)) j p') pos') X.env] := by rfl) : PSM X g W (.Assign [.Subscript (.Name x p) (.Constant (.int (k : Nat)) j p') pos'] e pos) (bxSt i k m) := PS.imp (ps_asg he.d (pg_sub (pe_var hN hv hd hcd) pe_int set_list ha) hs hw h1) fun D σ H ⟨H0, s, R, q⟩ => by
  unfold bxSt at q
  rw [on_bind] at q
  refine ⟨H0, s, R, Out.on_imp q (fun r s1 q v H1 H2 e1 R1 rr => ?_) fun _ _ q => q.e⟩
  revert q
  cases h1 : s1.sl[i]? with
  | none => exact fun q => q.elim
  | some sl =>
    cases sl with
    | no => exact fun q => q.elim
    | o _ => exact fun q => q.elim
    | v d' =>
      cases d' with
      | box =>
        cases h2 : asI r.d with
        | none => exact fun q => q.elim
        | some n =>
          cases h3 : decide (1 ≤ k ∧ k ≤ 5) with
          | false => exact fun q => q.elim
          | true =>
            intro q
            have hk := of_decide_eq_true h3
            obtain ⟨hσ, qa, hH, hq⟩ := R1.box hG h1
            rw [asI_eq h2] at rr
            cases rr
            obtain ⟨pv, pc⟩ := put_vals (b := s1.bx) (q := qa) (i := n) hk
            have nb : ∀ a o, a ≠ g.bx → H2 a = some o → upd H2 g.bx (.lst ((s1.bx.vals qa).set k (.int n))) a = some o := fun a o h e => by rw [upd_ne h]; exact e
            have R2 : Rel X.K g H1 σ (upd H2 g.bx (.lst ((s1.bx.vals qa).set k (.int n)))) { s1 with bx := s1.bx.put k n } := R1.step (Ex.refl _) nb (fun a o e => by
                by_cases ha : a = g.bx
                · subst ha; rw [R1.r0.bxn] at e; cases e
                · exact nb a o ha (R1.r0.sub a o e)) (fun a o e => .inl e) ⟨_, upd_same, by
                rw [show g.itp = bxItp from hG]
                exact ⟨qa, by rw [pv], by rw [pc]; exact hq⟩⟩
            exact ⟨.ref g.bx, hσ, ⟨g.bx, s1.bx.vals qa, (k : Int), k, rfl, rfl, hH, by
              have hkl : k < (s1.bx.vals qa).length := by show k < 6; omega
              unfold ixN
              rw [if_pos (by omega), if_pos (by omega)]
              simp, q σ H1 _ e1 R2⟩⟩
      | _ => exact fun q => q.elim
end
/-! ### a def that calls itself: nothing is promised at depth 0 -/
def bad {γ : Type} : DefM γ := fun _ _ => .bad
theorem dx_bad {γ : Type} [GOk γ] {P : Program} {w : World} {K : PySem.W.Frag} {mg : Str → Option Value} {base : Heap} {x : Str} {st : Stmt} {ps : List Str} (k : Nat) (F : Fd K mg x st)
    (bn : ∀ (kV doc pm : Value) (an : Option Addr) (cdv ct : Value) (us : List Value), us.length = ps.length → bindArgs (PySem.W.fnOf x x (defArgs st) (defBody st) (defScope st) .none kV doc pm an cdv ct) ⟨us, []⟩ = pure (ps.zip us)) :
    Dx P w K mg base k x st ps (bad : DefM γ) := by
  obtain ⟨f, fd, F, gl⟩ := F
  exact ⟨f, fd, ⟨F, gl, ⟨fun vs H Q E h => spOf_len vs H Q E h, fun A outer s H args us vs Q E hr e0 hb r h => by
    obtain ⟨_, _, _, _, _, _, _, _, h⟩ := h
    exact h.elim⟩⟩, F.bindsN bn⟩
end DL

set_option Elab.async false
set_option linter.all false
set_option maxRecDepth 100000
namespace DL
open PySem PySem.Spec L2
/-! ### generator defs by their names -/
theorem gx_mk {P : Program} {w : World} {K : PySem.W.Frag} {mg : Str → Option Value} {base : Heap} {x : Str} {st : Stmt} {ps : List Str} (N : List Str) {k : Nat} {mb : GM Unit} (F : Fd K mg x st) (S : GScope N ps (defScope st))
    (bn : ∀ (kV doc pm : Value) (an : Option Addr) (cdv ct : Value) (us : List Value), us.length = ps.length → bindArgs (PySem.W.fnOf x x (defArgs st) (defBody st) (defScope st) .none kV doc pm an cdv ct) ⟨us, []⟩ = pure (ps.zip us))
    (hb : ∀ (f : Addr) (cdv : Value) (A : Around) (outer : List Env) (s : Shared) (H : Hp) (E : XK) (g : G Unit) (pn : List (Addr × Obj)), Room k (A.deeper (PyProof.Rows.envOfC x (defScope st) s.heap.objs.size f cdv)) → GSSM (gcxOf P w K mg base N x (defScope st) f cdv A outer s H E pn) g (fun c d _ H => E c d H) (defBody st) mb) :
    Gx P w K mg base (k + 1) x st ps [] (runGen N.length mb) := by
  obtain ⟨f, fd, F, gl⟩ := F
  exact ⟨f, fd, [], [], [], dg_mk F gl S (fun cdv A outer s H E g pn hr => hb f cdv A outer s H E g pn hr), .nil, F.bindsN bn, fun bx H => .nil⟩
/-- one keyword-only parameter that has a default -/
def Fk (K : PySem.W.Frag) (mg : Str → Option Value) (x : Str) (st : Stmt) (y : Str) (d : D) : Prop := ∃ f fd v, FunD K x x (defArgs st) (defBody st) (defScope st) [] [(y, v)] f fd ∧ mg x = some (.ref f) ∧ ∀ bx H, Rep K bx H v d
theorem gx_mk1 {P : Program} {w : World} {K : PySem.W.Frag} {mg : Str → Option Value} {base : Heap} {x y : Str} {d : D} {st : Stmt} {ps : List Str} (N : List Str) {k : Nat} (n : Nat) {mb : GM Unit} (F : Fk K mg x st y d) (S : GScope N ps (defScope st))
    (bn : ∀ (D : Addr) (doc pm : Value) (an : Option Addr) (cdv ct : Value) (us ks : List Value), us.length = n → ks.length = 1 → KwChain D ([y].zip ks) (bindArgs (PySem.W.fnOf x x (defArgs st) (defBody st) (defScope st) .none (.ref D) doc pm an cdv ct) ⟨us, []⟩) (ps.zip (us ++ ks)))
    (hn : n + 1 = ps.length)
    (hb : ∀ (f : Addr) (cdv : Value) (A : Around) (outer : List Env) (s : Shared) (H : Hp) (E : XK) (g : G Unit) (pn : List (Addr × Obj)), Room k (A.deeper (PyProof.Rows.envOfC x (defScope st) s.heap.objs.size f cdv)) → GSSM (gcxOf P w K mg base N x (defScope st) f cdv A outer s H E pn) g (fun c d _ H => E c d H) (defBody st) mb) :
    Gx P w K mg base (k + 1) x st ps [d] (runGen N.length mb) := by
  obtain ⟨f, fd, v, F, gl, rv⟩ := F
  obtain ⟨ds, hv, hb'⟩ := F.binds0 (ps := ps) n (by simp) (by simpa using hn) fun D doc pm an cdv ct us ks h1 h2 => bn D doc pm an cdv ct us ks h1 (by simpa using h2)
  exact ⟨f, fd, [(y, v)], [v], ds, dg_mk F gl S (fun cdv A outer s H E g pn hr => hb f cdv A outer s H E g pn hr), hv, hb', fun bx H => .one (rv bx H)⟩
end DL

set_option Elab.async false
set_option linter.all false
set_option maxRecDepth 100000
namespace DL
open PySem PySem.Spec L2
/-! ### the law's box is made -/
def mixStep (m b : Int) : Int := (m * 52361 + b % 2147483563 + 1009) % 2147483549
def mixOf (ns : List Int) : Int := ns.foldl mixStep 177890
def bx0 (ns : List Int) : Bx := ⟨ns, 0, 0, mixOf ns, 0, 0⟩
def spBox (K : PySem.W.Frag) : Sp := fun vs H Q _ => ∃ (a : Addr) (ns : List Int), vs = [.ref a] ∧ SqL K H a (ns.map V.int) ∧ ns.length ≤ 63 ∧ ∀ p q H', H' p = some (.lst ((bx0 ns).vals q)) → H' q = some (.lst (ns.map V.int)) → Q (.ref p) H'
def tCut (K : PySem.W.Frag) : TE := tSl (rSlL K) (tVar 0) tNoPart (tPart (tC (.int 63)))
abbrev rInt1 : List V → Hp → VK → Prop := fun xs H Q => (∃ i, xs = [.int i] ∧ Q (.int i) H) ∨ ∃ k, xs = [.bl k] ∧ Q (.int (if k then 1 else 0)) H
abbrev rModI : R2 := rI (fun _ j => 0 < j) fun i j => .int (i % j)
abbrev rAddI : R2 := rI0 fun i j => .int (i + j)
abbrev rMulI : R2 := rI CMulW fun i j => .int (i * j)
abbrev rListOf (K : PySem.W.Frag) : List V → Hp → VK → Prop := fun xs H Q => ∃ p ys, xs = [.ref p] ∧ (SqL K H p ys ∨ SqT K H p ys) ∧ ∀ l, H l = none → Q (.ref l) (upd H l (.lst ys))
def tMix : TE := tOp rModI (tCB rInt1 (tCons (tOp rAddI (tOp rAddI (tOp rMulI (tVar 1) (tC (.int 52361))) (tOp rModI (tCB rInt1 (tCons (tVar 2) tNil)) (tC (.int 2147483563)))) (tC (.int 1009))) tNil)) (tC (.int 2147483549))
def tBox (K : PySem.W.Frag) : TS := tSeq (tAsg (tC (.int 177890)) (gName 1)) (tSeq (tFor (iList K (tCut K)) (gName 2) (tAsg tMix (gName 1)))
  (tRet (tLst (tCons (tCB (rListOf K) (tCons (tCut K) tNil)) (tCons (tC (.int 0)) (tCons (tC (.int 0)) (tCons (tVar 1) (tCons (tC (.int 0)) (tCons (tC (.int 0)) tNil)))))))))
theorem mixStep_range (m b : Int) : 0 ≤ mixStep m b ∧ mixStep m b < 2147483549 := by unfold mixStep; omega
theorem mixOf_range (ns : List Int) : 0 ≤ mixOf ns ∧ mixOf ns < 2147483549 := by
  unfold mixOf
  rcases List.eq_nil_or_concat ns with h | ⟨l, b, h⟩
  · subst h; decide
  · subst h
    rw [List.concat_eq_append, List.foldl_append]
    exact mixStep_range _ _
theorem mulW_small {i j : Int} (hi : 0 ≤ i ∧ i < 2 ^ 40) (hj : 0 ≤ j ∧ j < 2 ^ 40) : CMulW i j := by
  have : i.natAbs < 2 ^ 40 := by omega
  have h2 : j.natAbs < 2 ^ 40 := by omega
  exact wide_mul this h2 (by decide) (by decide) (by decide)
theorem cut_all {xs : List V} (h : xs.length ≤ 63) : cutV xs none (some 63) = xs := by
  unfold cutV
  rw [HT.sIx_none, show ((63 : Int)) = ((63 : Nat) : Int) from rfl, HT.sIx_nat]
  rw [Nat.min_eq_right h]
  simp
theorem cut_run {K : PySem.W.Frag} {σ : L2.St} {H : Hp} {Q : VK} {a : Addr} {vs : List V} (h0 : σ[0]? = some (some (.ref a))) (hs : SqL K H a vs) (hl : vs.length ≤ 63) (h : ∀ p, H p = none → Q (.ref p) (upd H p (.lst vs))) : tCut K σ H Q := by
  refine ⟨_, h0, ⟨63, rfl, a, vs, rfl, hs, fun p hp => ?_⟩⟩
  rw [cut_all hl]
  exact h p hp
theorem box_run {K : PySem.W.Frag} {vs : List V} {H : Hp} {Q : VK} {E : XK} (h : spBox K vs H Q E) : tBox K { nx := fun _ H' => Q .non H', rt := Q } (L2.start ["script", "mixed", "bit"] vs) H := by
  obtain ⟨a, ns, rfl, hs, hl, k⟩ := h
  have hlv : (ns.map V.int).length ≤ 63 := by simpa using hl
  refine cut_run (a := a) rfl hs hlv fun p hp => ?_
  have e1 : Ex H (upd H p (.lst (ns.map V.int))) := Ex.new hp
  refine ⟨p, rfl, ⟨_, .of upd_same⟩, ?_⟩
  refine for_list (xs := ns.map V.int) (fun i σ H' => H' = upd H p (.lst (ns.map V.int)) ∧ ∃ b, σ = [some (.ref a), some (.int (mixOf (ns.take i))), b]) ⟨rfl, none, rfl⟩ (fun i σ H' hi ⟨eH, _⟩ => by subst eH; exact .of upd_same) (fun i x σ H' hx ⟨eH, b, eσ⟩ => ?_) (fun σ H' ⟨eH, b, eσ⟩ => ?_)
  · subst eH eσ
    rw [List.getElem?_map, Option.map_eq_some_iff] at hx
    obtain ⟨n, hn, rfl⟩ := hx
    have hm := mixOf_range (ns.take i)
    have et : ns.take (i + 1) = ns.take i ++ [n] := by rw [List.take_add_one, hn]; rfl
    have go : mixOf (ns.take (i + 1)) = (mixOf (ns.take i) * 52361 + n % 2147483563 + 1009) % 2147483549 := by
      unfold mixOf
      rw [et, List.foldl_append]
      rfl
    exact ⟨_, rfl, _, _, rfl, rfl, mulW_small ⟨hm.1, by omega⟩ (by decide), _, rfl, .inl ⟨_, rfl, _, _, rfl, rfl, (by show (0 : Int) < 2147483563; decide), _, _, rfl, rfl, _, _, rfl, rfl, .inl ⟨_, rfl, _, _, rfl, rfl, (by show (0 : Int) < 2147483549; decide), rfl, some (.int n), by rw [go]; rfl⟩⟩⟩
  · subst eH eσ
    refine cut_run (a := a) rfl (e1.l hs) hlv fun q hq => ?_
    have e2 := Ex.new (o := .lst (ns.map V.int)) hq
    have hqp : q ≠ p := fun z => by subst z; rw [upd_same] at hq; cases hq
    refine ⟨q, _, rfl, .inl (.of upd_same), fun l hl' => ?_⟩
    refine ⟨_, rfl, ?_⟩
    refine ⟨by show 6 ≤ sizeLine; rw [sizeLine_eq]; omega, fun r hr => ?_⟩
    have hl2 : l ≠ r := fun z => by subst z; rw [upd_same] at hr; cases hr
    have em : (ns.map V.int).length = ns.length := by simp
    refine k r l _ ?_ ?_
    · rw [upd_same, em, List.take_length]
      rfl
    · rw [upd_ne hl2, upd_same]
/-! ### the law begins -/
def tLw (K : PySem.W.Frag) (mg : Str → Option Value) (W : WX) (m : M Bx Fl) : TS := fun D' σ H => ∃ g : G Bx, g.itp = bxItp ∧ tS K mg g W m D' σ H
theorem ss_lw {X : Cx} {W : WX} {st : List Stmt} {m : M Bx Fl} (h : ∀ g : G Bx, GOk.ok g.itp → PSSM X g W st m) : PSs X st (tLw X.K X.mg W m) := ⟨fun pins s σ H D I ⟨g, hg, q⟩ => (h g hg).run pins s σ H D I q⟩
def spLaw (K : PySem.W.Frag) : Sp := fun vs H Q _ => ∃ (a : Addr) (ns : List Int), vs = [.ref a] ∧ SqL K H a (ns.map V.int) ∧ ns.length ≤ 63 ∧ ∀ H', Q (.bl true) H'
/-- the law's result, by the mirror of all behind its first statement (n slots) -/
def lawR (n : Nat) (m : M Bx Fl) (ns : List Int) : Prop := match m ⟨.no :: .v .box :: List.replicate (n - 2) .no, bx0 ns⟩ with
  | .ok (.rt (.v (.bl true))) _ => True
  | _ => False
theorem law_run {K : PySem.W.Frag} {mg : Str → Option Value} {vs : List V} {H : Hp} {Q : VK} {E : XK} {W : WX} {E' : L2.St → XK} {N : List Str} {m : M Bx Fl} (hN : 2 ≤ N.length) (hm : ∀ ns : List Int, ns.length ≤ 63 → lawR N.length m ns) (h : spLaw K vs H Q E) :
    tSeq (tAsg (tCallSD (spBox K) [] E' (tCons (tVar 0) tNil)) (gName 1)) (tLw K mg W m) { nx := fun _ H' => Q .non H', rt := Q } (L2.start N vs) H := by
  obtain ⟨a, ns, rfl, hs, hl, k⟩ := h
  refine ⟨_, rfl, a, ns, rfl, hs, hl, fun p q H' hp hq => ?_⟩
  have hpq : p ≠ q := fun z => by
    subst z
    rw [hp] at hq
    cases ns with
    | nil => cases hq
    | cons n ns => simp [Bx.vals] at hq
  have hm := hm ns hl
  unfold lawR at hm
  have ex : Ex (upd (fun _ => none) q (.lst (ns.map V.int))) H' := fun b o e => by
    by_cases hb : b = q
    · subst hb; rw [upd_same] at e; cases e; exact hq
    · rw [upd_ne hb] at e; cases e
  have hst : (L2.start N [V.ref a]).set 1 (some (.ref p)) = some (.ref a) :: some (.ref p) :: List.replicate (N.length - 2) none := by
    unfold L2.start
    obtain ⟨n, hn⟩ : ∃ n, N.length = n + 2 := ⟨N.length - 2, by omega⟩
    rw [hn]
    rfl
  show tLw K mg W m _ ((L2.start N [V.ref a]).set 1 (some (.ref p))) H'
  rw [hst]
  refine ⟨⟨p, bxItp, fun e h => bxMono e h, fun _ => none⟩, rfl, upd (fun _ => none) q (.lst (ns.map V.int)), ⟨.no :: .v .box :: List.replicate (N.length - 2) .no, bx0 ns⟩, ⟨⟨ex, fun b o e => (nomatch (show (none : Option HO) = some o from e)), fun b o e => (nomatch (show (none : Option HO) = some o from e)), ?_, rfl, _, hp, q, rfl, upd_same⟩, ?_, ?_, ?_⟩, ?_⟩
  · show upd _ q _ p = none
    rw [upd_ne hpq]
  · simp
  · intro i sk x h1 h2
    match i, h1, h2 with
    | 0, h1, h2 => cases h1; trivial
    | 1, h1, h2 => cases h1; cases h2; exact ⟨_, rfl, .box⟩
    | i + 2, h1, h2 =>
      have : sk = .no := (List.mem_replicate.mp (List.mem_of_getElem? (show (List.replicate (N.length - 2) Slot.no)[i]? = some sk from h1))).2
      subst this
      trivial
  · intro i j ds es b h1
    exfalso
    match i, h1 with
    | 0, h1 => cases h1
    | 1, h1 => cases h1
    | i + 2, h1 =>
      have := (List.mem_replicate.mp (List.mem_of_getElem? (show (List.replicate (N.length - 2) Slot.no)[i]? = some (.o ds) from h1))).2
      cases this
  · revert hm
    cases m ⟨.no :: .v .box :: List.replicate (N.length - 2) .no, bx0 ns⟩ with
    | bad => exact fun h => h.elim
    | exc x s => exact fun h => h.elim
    | ok f s =>
      cases f with
      | rt r =>
        cases r with
        | v d =>
          cases d with
          | bl b =>
            cases b with
            | true => exact fun _ v σ' H0' H' e R rr => by cases (show Rep K _ H0' v (.bl true) from rr); exact k H'
            | false => exact fun h => h.elim
          | _ => exact fun h => h.elim
        | o ds => exact fun h => h.elim
      | _ => exact fun h => h.elim
/-- the def that makes the box, as the law knows it -/
def Dbox (P : Program) (w : World) (K : PySem.W.Frag) (mg : Str → Option Value) (base : Heap) (k : Nat) (x : Str) (st : Stmt) : Prop :=
  ∃ f fd, FunD K x x (defArgs st) (defBody st) (defScope st) [] [] f fd ∧ mg x = some (.ref f) ∧ FnOk P w K mg base (L2.CX P w) k f fd ["script"] (spBox K) ∧ Binds K fd ["script"] []
theorem ps_box {X : Cx} {W : WX} {k k' i j : Nat} {x y z : Str} {st : Stmt} {p1 p2 p3 p4 pos : Pos} (F : Dbox X.prog X.w X.K X.mg X.base k x st) (hr : Room k' X.A) (tk : Takes X W) (hN : X.N.Nodup) (hk : k ≤ k' := by decide) (hg : Gl X x := by rfl) (hy : X.N[i]? = some y := by rfl) (hyl : Loc X.env.scope y := by first | exact Or.inl rfl | exact Or.inr rfl)
    (hz : X.N[j]? = some z := by rfl) (hzl : Vis X.env.scope z := by exact Or.inl rfl) (hdz : (z == ("__debug__" : Str)) = false := by decide) (hcz : (z == ("__classdict__" : Str)) = false := by decide) (hdb : (x == ("__debug__" : Str)) = false := by decide)
    (he : starEach [.Name z p3] X.env = (false, eval (.Name z p3) X.env) :: starEach [] X.env := by rfl) (hpl : (backTo p4 (starEach [] X.env)).any (·.1) = false := by rfl)
    (hs : swapsWith (.Call (.Name x p2) [.Name z p3] [] p4) (some (.Name y p1)) pos.line X.env = pure false := by rfl) (hf : X.fn y = true ∨ X.env.scope.names.lookup y = some .local := by first | exact .inl rfl | exact .inr rfl) :
    PS X (.Assign [.Name y p1] (.Call (.Name x p2) [.Name z p3] [] p4) pos) (tAsg (tCallSD (spBox X.K) [] (fun σ c d H => W c d σ H) (tCons (tVar j) tNil)) (gName i)) := by
  obtain ⟨f, fd, F, gl, ok, bn⟩ := F
  exact ps_set hN hy hyl (pe_callSD (E := fun σ c d H => W c d σ H) ok (hr.mono hk) hg gl F.kp bn .nil (fun σ => passAt tk σ) (pa_cons (pe_var hz hzl hdz hcz) pa_nil he) hdb he hpl) hs hf
end DL

set_option Elab.async false
set_option linter.all false
set_option maxRecDepth 100000
namespace DL
open PySem PySem.Spec L2
/-! ### a, b = [..], e: the first may stay one's own -/
section
variable {β : Type} {K : PySem.W.Frag} {g : G β} {H0 H : Hp} {σ : L2.St} {s : S β}
theorem Rel.pin (R : Rel K g H0 σ H s) {p : Addr} {vs : List V} (hp : H p = some (.lst vs)) (n0 : H0 p = none) (nb : p ≠ g.bx) (ap : ∀ (i : Nat) (es : List D), s.sl[i]? = some (.o es) → σ[i]? ≠ some (some (.ref p))) :
    Rel K (g.wF (upd g.F p (.lst vs))) H0 σ H s := by
  refine ⟨⟨R.r0.sub, fun a o e => ?_, fun a o e => ?_, R.r0.bxn, ?_, R.r0.it⟩, R.len, fun i k x h1 h2 => ?_, R.dist⟩
  · have e : upd g.F p (.lst vs) a = some o := e
    by_cases ha : a = p
    · subst ha; rw [upd_same] at e; cases e; exact hp
    · rw [upd_ne ha] at e; exact R.r0.frm a o e
  · have e : upd g.F p (.lst vs) a = some o := e
    by_cases ha : a = p
    · subst ha; exact n0
    · rw [upd_ne ha] at e; exact R.r0.dis a o e
  · show upd g.F p (.lst vs) g.bx = none
    rw [upd_ne (Ne.symm nb)]; exact R.r0.bxF
  · have sr := R.slot i k x h1 h2
    cases k with
    | no => trivial
    | v d => exact sr
    | o ds =>
      obtain ⟨q, ws, e1, e2, rs, m0, mF, mb⟩ := sr
      refine ⟨q, ws, e1, e2, rs, m0, ?_, mb⟩
      show upd g.F p (.lst vs) q = none
      rw [upd_ne fun z => ?_]
      · exact mF
      · subst z; subst e1
        exact ap i ds h1 h2
end
section
variable {β : Type} {X : Cx} {g : G β} {W : WX} {a b : Expr} {ma mb : M β RV} {pos : Pos}
def parO (i j : Nat) (ma mb : M β RV) : M β Fl := mbind ma fun r => mbind (noX mb) fun q => mbind (stV i r) fun _ => mbind (stV j q) fun _ => mret .nx
def tEG (K : PySem.W.Frag) (mg : Str → Option Value) (g : G β) (W : WX) (m : M β RV) : TE := fun σ H Q => ∃ F, tE K mg (g.wF F) W m σ H Q
theorem s_parO {i j : Nat} {x y : Str} {px py pt : Pos} {kt k2 pt2} (hN : X.N.Nodup) (ha : PEM X g W a ma) (hb : ∀ F, PEM X (g.wF F) W b mb) (hc : X.calm = true := by rfl) (hi : X.N[i]? = some x := by rfl) (hj : X.N[j]? = some y := by rfl) (hij : i ≠ j := by decide)
    (hx : X.env.scope.names.lookup x = some .local := by rfl) (hy : X.env.scope.names.lookup y = some .local := by rfl)
    (h1 : starEach (a :: [b]) X.env = (false, eval a X.env) :: starEach [b] X.env := by rfl) (h2 : starEach (b :: []) X.env = (false, eval b X.env) :: starEach [] X.env := by rfl)
    (hw : swappedStores [.Tuple [.Name x px, .Name y py] kt pt] (.Tuple [a, b] k2 pt2) X.env = pure (some [x, y]) := by rfl)
    (hs : swapsWithSole [.Tuple [.Name x px, .Name y py] kt pt] (.Tuple [a, b] k2 pt2) pos.line X.env = pure false := by rfl) : PSM X g W (.Assign [.Tuple [.Name x px, .Name y py] kt pt] (.Tuple [a, b] k2 pt2) pos) (parO i j ma mb) := by
  have hb' : PE X b (tEG X.K X.mg g W mb) := ⟨fun pins s σ H Q I ⟨F, q⟩ => (hb F).run pins s σ H Q I q⟩
  refine PS.imp (ps_par hc hN hi hj hij hx hy (pa_cons ha (pa_cons hb' pa_nil h2) h1) hw hs) fun D σ H ⟨H0, s, R, q⟩ => ?_
  unfold parO at q
  rw [on_bind] at q
  refine ⟨H0, s, R, Out.on_imp q (fun r s1 q v H1 H2 e R1 rr ap => ?_) fun _ _ q => q.e⟩
  rw [on_bind] at q
  cases r with
  | v d =>
    refine ⟨g.F, H1, s1, R1, Out.on_imp (on_noX q) (fun r2 s2 q w H3 H4 e2 R2 rr2 ap2 => ?_) fun _ _ q => q⟩
    have R2 : Rel X.K g H3 σ H4 s2 := R2
    rw [on_bind] at q
    obtain ⟨l1, q⟩ := on_stV q
    rw [on_bind] at q
    obtain ⟨l2, q⟩ := on_stV q
    refine ⟨v, w, rfl, q _ H3 H4 (e.trans e2) (Rel.set (R2.set (r := .v d) (by rw [← R2.len]; exact l1) (Rep.mono rr e2) trivial) (by rw [List.length_set, ← R2.len]; simpa using l2) rr2 ?_)⟩
    cases r2 with
    | v d2 => trivial
    | o es =>
      intro k es' p ep h3 h4
      have h3 : (s2.sl.set i (.v d))[k]? = some (.o es') := h3
      by_cases hk : i = k
      · subst hk
        rw [List.getElem?_set_self l1] at h3
        cases h3
      · rw [List.getElem?_set_ne hk] at h3 h4
        exact ap2 k es' p ep h3 h4
  | o ds =>
    obtain ⟨p, vs, rfl, hp, rs, n0, nF, nb⟩ := rr
    have R1' := R1.pin hp n0 nb fun i es h => ap i es p rfl h
    refine ⟨upd g.F p (.lst vs), H1, s1, R1', Out.on_imp (on_noX q) (fun r2 s2 q w H3 H4 e2 R2 rr2 ap2 => ?_) fun _ _ q => q⟩
    obtain ⟨Rf, hpl, m0, mb', no⟩ := R2.free nF
    rw [on_bind] at q
    obtain ⟨l1, q⟩ := on_stV q
    rw [on_bind] at q
    obtain ⟨l2, q⟩ := on_stV q
    have r1 : ResR X.K g H3 H4 (.ref p) (.o ds) := ⟨p, vs, rfl, hpl, rs.mono e2, m0, nF, mb'⟩
    have a1 : Apart σ s2.sl (.ref p) (.o ds) := fun k es q' eq h3 h4 => by
      cases eq
      exact no ⟨k, es, h3, h4⟩
    have rr2' : ResR X.K g H3 H4 w r2 := by
      cases r2 with
      | v d2 => exact rr2
      | o es =>
        obtain ⟨p2, ws, rfl, z1, z2, z3, z4, z5⟩ := rr2
        refine ⟨p2, ws, rfl, z1, z2, z3, ?_, z5⟩
        cases hz : g.F p2 with
        | none => rfl
        | some o =>
          have z4 : upd g.F p (.lst vs) p2 = none := z4
          rw [upd_ne fun z => ?_] at z4
          · rw [z4] at hz; cases hz
          · rw [z] at hz; rw [nF] at hz; cases hz
    refine ⟨.ref p, w, rfl, q _ H3 H4 (e.trans e2) (Rel.set (Rf.set (r := .o ds) (by rw [← Rf.len]; exact l1) r1 a1) (by rw [List.length_set, ← Rf.len]; simpa using l2) rr2' ?_)⟩
    cases r2 with
    | v d2 => trivial
    | o es =>
      intro k es' p' ep h3 h4
      have h3 : (s2.sl.set i (.o ds))[k]? = some (.o es') := h3
      by_cases hk : i = k
      · subst hk
        rw [List.getElem?_set_self (by rw [← Rf.len]; exact l1)] at h4
        cases h4
        obtain ⟨p2, ws, z0, z1, z2, z3, z4, z5⟩ := rr2
        rw [ep] at z0; cases z0
        have z4 : upd g.F p (.lst vs) p = none := z4
        rw [upd_same] at z4; cases z4
      · rw [List.getElem?_set_ne hk] at h3 h4
        exact ap2 k es' p' ep h3 h4
end
end DL

set_option Elab.async false
set_option linter.all false
set_option maxRecDepth 100000
set_option maxHeartbeats 0
namespace DL
open PySem PySem.Spec PyProof.Rows L2
/-! ### the head: facts of one's own beside He's -/
abbrev AlX : Type := Bool × He.AlD
def obsX (fa : List He.Fa) (fn : List He.DefD) (xs : List (PySem.W.Frag → Bool)) (K : PySem.W.Frag) : AlX := (xs.all fun x => x K, He.obsD fa fn K)
def valX (fn : List He.DefD) : AlX := (true, He.valD fn)
def obsXG (n : Nat) (fa : List He.Fa) (fn : List He.DefD) (xs : List (PySem.W.Frag → Bool)) (g : Addr → Option Obj) : AlX := obsX fa fn xs (He.frG g (He.asD g n))
def SaysX (fa : List He.Fa) (fn : List He.DefD) (xs : List (PySem.W.Frag → Bool)) (K : PySem.W.Frag) : Prop := obsX fa fn xs K = valX fn
def hookX (n : Nat) (fa : List He.Fa) (fn : List He.DefD) (xs : List (PySem.W.Frag → Bool)) : PySem.W.Hook where
  α := AlX
  obs := fun s => obsXG n fa fn xs s.heap.get?
  val := fun _ => valX fn
  says := fun _ h => ∃ K : PySem.W.Frag, K.In h ∧ SaysX fa fn xs K
  of := fun _ _ e => ⟨_, He.frG_in, e⟩
  keeps := fun _ _ _ ⟨K, hK, c⟩ k => ⟨K, PySem.W.Frag.In.keeps hK k, c⟩
theorem obsXG_eq {n : Nat} {fa : List He.Fa} {fn : List He.DefD} {xs : List (PySem.W.Frag → Bool)} {g : Addr → Option Obj} {s : Shared} (h : ∀ a, g a = s.heap.get? a) : obsXG n fa fn xs g = (hookX n fa fn xs).obs s := by
  have e : g = s.heap.get? := funext h
  rw [e] <;> rfl
section
variable {fa : List He.Fa} {fn : List He.DefD} {xs : List (PySem.W.Frag → Bool)} {K : PySem.W.Frag}
theorem SaysX.d (c : SaysX fa fn xs K) : He.SaysD fa fn K := congrArg (fun z : AlX => z.2) c
theorem SaysX.own (c : SaysX fa fn xs K) (i : Nat) {x : PySem.W.Frag → Bool} (h : xs[i]? = some x := by rfl) : x K = true :=
  List.all_eq_true.mp (congrArg (fun z : AlX => z.1) c) x (List.mem_of_getElem? h)
end
/-- a name that stands for a built-in function -/
def bltB (x : Str) (id : String) (K : PySem.W.Frag) : Bool := match PySem.W.nsIn K mainGlobals x with
  | some (some (.builtin i)) => decide (i = id)
  | _ => false
theorem bltB_ok {K : PySem.W.Frag} {h : Heap} {mg : Str → Option Value} (X : K.In h) (G : h.Ns mainGlobals mg) {x : Str} {id : String} (c : bltB x id K = true) : mg x = some (.builtin id) := by
  unfold bltB at c
  cases q : PySem.W.nsIn K mainGlobals x with
  | none => rw [q] at c; cases c
  | some r =>
    cases r with
    | none => rw [q] at c; cases c
    | some u =>
      rw [q] at c
      cases u with
      | builtin i =>
        have e : i = id := of_decide_eq_true c
        rw [← e]
        exact PySem.W.mg_of X G q
      | _ => cases c
/-- where a def's keyword-only default stands -/
def kwAt (p : Str × Option Str) (x : Str) (K : PySem.W.Frag) : Addr := match K.lookup (He.fAd K p) with
  | some ⟨_, _, .func fd, _⟩ => (match fd.kwdefaults with
    | .ref T => (match PySem.W.nsIn K T x with
      | some (some (.ref a)) => a
      | _ => 0)
    | _ => 0)
  | _ => 0
/-- an empty tuple -/
def tup0B (a : PySem.W.Frag → Addr) (K : PySem.W.Frag) : Bool := match K.lookup (a K) with
  | some ⟨.type c, _, .seq its _, _⟩ => decide (c = "tuple") && its.isEmpty
  | _ => false
theorem tup0B_ok {K : PySem.W.Frag} {a : PySem.W.Frag → Addr} (c : tup0B a K = true) (bx : Addr) (H : Hp) : Rep K bx H (.ref (a K)) (.tup []) := by
  unfold tup0B at c
  cases q : K.lookup (a K) with
  | none => rw [q] at c; cases c
  | some o =>
    obtain ⟨oc, od, dt, osl⟩ := o
    rw [q] at c
    cases oc with
    | type t =>
      cases dt with
      | seq its n =>
        obtain ⟨h1, h2⟩ := Bool.and_eq_true_iff.mp (show (decide (t = "tuple") && its.isEmpty) = true from c)
        have e : its = #[] := Array.isEmpty_iff.mp h2
        subst e
        exact .tupR (.inr ⟨_, #[], n, q, congrArg Value.type (of_decide_eq_true h1), rfl, Nat.zero_le _, .nil⟩) .nil
      | _ => cases c
    | _ => cases dt <;> cases c
abbrev defD (x : Str) (st : Stmt) : He.DefD := ⟨(x, none), x, x, defArgs st, defBody st, defScope st, [], []⟩
theorem fd_of {fa : List He.Fa} {fn : List He.DefD} {K : PySem.W.Frag} {h : Heap} {mg : Str → Option Value} (X : K.In h) (G : h.Ns mainGlobals mg) (c : He.SaysD fa fn K) {x : Str} {st : Stmt} (i j : Nat) (hi : fn[i]? = some (defD x st) := by rfl) (hj : fa[j]? = some (.glo x) := by rfl) : Fd K mg x st := by
  obtain ⟨fd, F⟩ := c.def_ i hi
  exact ⟨_, fd, F, He.glo_ok X G (c.fact j hj)⟩
theorem fr_of {fa : List He.Fa} {fn : List He.DefD} {K : PySem.W.Frag} {h : Heap} {mg : Str → Option Value} (X : K.In h) (G : h.Ns mainGlobals mg) (c : He.SaysD fa fn K) {x : Str} (j : Nat) (hj : fa[j]? = some (.free x) := by rfl) : mg x = none := He.free_ok X G (c.fact j hj)
/-- the walk's end, exceptions let out as the layer has it -/
theorem walk_dl {l : PySem.W.OpenLaw} {n k : Nat} {q : Program} {loose : List Str} {XP : (Str → Option Value) → Heap → Prop} {YP : World → Heap → Prop} {d : DefRec} {x : Str} (hn : l.most = some n) (hn2 : n ≤ sizeLine) (hdf : d.params.defaults = []) (hr : Room k callerA)
    (F : ∀ (w : World) (mg : Str → Option Value) (fa : Addr) (h : Heap), YP w h → h.Ns mainGlobals mg → mg d.name = some (.ref fa) → ∃ (K : PySem.W.Frag) (fd : FuncData) (sp : Sp), K.In h ∧ (∀ (s : Shared) (u : Value), BindsTo s fd ⟨[u], []⟩ [(x, u)]) ∧
      (∀ (H : Hp) (a : Addr) (ns : List Int), ns.length ≤ n → SqL K H a (ns.map V.int) → sp [.ref a] H (fun v _ => v = .bl true) fun _ _ _ => False) ∧ ∀ base : Heap, K.In base → base.Ns mainGlobals mg → FnOk l.prog w K mg base (L2.CX l.prog w) k fa fd [x] sp) :
    PySem.W.WalkO q loose XP YP l.row.toRowW d [] (fun f vs => PySem.call f vs) := by
  refine Att.attach_call hn hdf fun w s₀ s₁ mg mb fa o pm cd doc a vs ns G Y ho hd hcd hmg hobj hints hlen hg => ?_
  obtain ⟨K, fd, sp, KX, hb, hsp, hF⟩ := F w mg fa _ Y G.T.g hmg
  refine law_call KX G.T.g G.T.b G.T.builtins G.T.nolimit hg hobj hints (Nat.le_trans hlen hn2) hr hF hb (fun H _ hS => hsp H a ns hlen hS) fun H e s' h => ?_
  obtain ⟨_, _, _, _, _, _, _, _, _, _, _, _, z⟩ := h
  exact z.elim
end DL

set_option Elab.async false
set_option linter.all false
set_option maxRecDepth 100000
set_option maxHeartbeats 4000000
namespace K05
open PySem PySem.Spec L2 DL
def topS (i : Nat) : Stmt := PySem.Challenge.pw_bendless_k05_cells_and_words.main.body.getD i (.Pass ⟨0, 0, 0, 0⟩)
structure Bl (mg : Str → Option Value) : Prop where
  abs : mg "abs" = none
  bool : mg "bool" = none
  dict : mg "dict" = none
  gcd : mg "gcd" = some (.builtin "math.gcd")
  int : mg "int" = none
  isinstance : mg "isinstance" = none
  len : mg "len" = none
  list : mg "list" = none
  range : mg "range" = none
  str : mg "str" = none
  tuple : mg "tuple" = none

abbrev s_letter_count : Stmt := topS 2
theorem sc_letter_count : FnScope ["base", "width"] ["base", "width"] (defScope s_letter_count) := ⟨rfl, rfl, rfl, by decide +kernel, rfl, by decide +kernel, by decide +kernel⟩
def b_letter_count : M Unit Fl := retM (eIfM (tstB (eBinB eqD (argN 1) (argV (cst (.int 1))))) (rdV 0) (eBin mulD (rdV 0) (rdV 0)))
def m_letter_count : DefM Unit := runDef 2 b_letter_count
theorem d_letter_count {P : Program} {w : World} {K : PySem.W.Frag} {mg : Str → Option Value} {base : Heap} (FD : Fd K mg "letter_count" s_letter_count) (B : Bl mg)  : Dx P w K mg base 1 "letter_count" s_letter_count ["base", "width"] m_letter_count :=
  dx_mk ["base", "width"] FD sc_letter_count (fun _ _ _ _ _ _ us hl => match us, hl with | [_, _], _ => rfl) fun f cdv A outer s H E g hG hr =>
    (ss_one (s_ret (e_if (t_cmpB (c_eq hr.units) (b_n 1) (b_e e_int)) (e_v 0) (e_mul (e_v 0) (e_v 0)))))
abbrev s_power : Stmt := topS 3
theorem sc_power : FnScope ["number", "exponent", "result", "square", "left"] ["number", "exponent"] (defScope s_power) := ⟨rfl, rfl, rfl, by decide +kernel, rfl, by decide +kernel, by decide +kernel⟩
def q_power_1c : M Unit Bool := tstB (eBinB gtD (argN 4) (argV (cst (.int 0))))
def q_power_2b : M Unit Fl := seqM (ifM (tstB (eBinB eqD (argV (eBin modD (rdV 4) (cst (.int 2)))) (argV (cst (.int 1))))) (asgM 2 (eBin mulD (rdV 2) (rdV 3))) (mret .nx)) (seqM (asgM 4 (eBin fdivD (rdV 4) (cst (.int 2)))) (ifM (tstB (eBinB gtD (argN 4) (argV (cst (.int 0))))) (asgM 3 (eBin mulD (rdV 3) (rdV 3))) (mret .nx)))
def b_power : M Unit Fl := seqM (parM [2, 3, 4] (lstC (cst (.int 1)) (lstC (rdV 0) (lstC (rdV 1) (mret []))))) (seqM (whM 1000000 q_power_1c q_power_2b) (retN 2))
def m_power : DefM Unit := runDef 5 b_power
theorem d_power {P : Program} {w : World} {K : PySem.W.Frag} {mg : Str → Option Value} {base : Heap} (FD : Fd K mg "power" s_power) (B : Bl mg)  : Dx P w K mg base 1 "power" s_power ["number", "exponent"] m_power :=
  dx_mk ["number", "exponent", "result", "square", "left"] FD sc_power (fun _ _ _ _ _ _ us hl => match us, hl with | [_, _], _ => rfl) fun f cdv A outer s H E g hG hr =>
    (ss_cons (s_par3 sc_power.nd (l_cons e_int (l_cons (e_v 0) (l_cons (e_v 1) l_nil)))) (ss_cons (s_while 1000000 (passes_of rfl) (t_cmpB c_gt (b_n 4) (b_e e_int)) (ss_cons (s_if (t_cmpB (c_eq hr.units) (b_e (e_mod (e_v 4) e_int)) (b_e e_int)) (ss_one (s_asg 2 sc_power.nd (e_mul (e_v 2) (e_v 3)))) ss_nil) (ss_cons (s_asg 4 sc_power.nd (e_fdiv (e_v 4) e_int)) (ss_one (s_if (t_cmpB c_gt (b_n 4) (b_e e_int)) (ss_one (s_asg 3 sc_power.nd (e_mul (e_v 3) (e_v 3)))) ss_nil))))) (ss_one (s_retV 2))))
abbrev s_fold : Stmt := topS 4
theorem sc_fold : FnScope ["digits", "unit", "parts", "at"] ["digits", "unit"] (defScope s_fold) := ⟨rfl, rfl, rfl, by decide +kernel, rfl, by decide +kernel, by decide +kernel⟩
def q_fold_1t : D → M Unit Unit := (fun d => stV 3 (.v d))
def q_fold_2e : M Unit RV := eBin addD (eBin mulD (eIx (argN 2) (rdV 3)) (rdV 1)) (eIx (argN 2) (eBin addD (rdV 3) (cst (.int 1))))
def q_fold_3c : M Unit Bool := tstB (eBinB gtD (argV (eAppB lenF (argC (argN 2) (mret [])))) (argV (cst (.int 1))))
def q_fold_4b : M Unit Fl := seqM (ifM (tstB (eBinB eqD (argV (eBin modD (eAppB lenF (argC (argN 2) (mret []))) (cst (.int 2)))) (argV (cst (.int 1))))) (asgM 2 (eApp lstD (lstC (cst (.int 0)) (strC (argN 2) (mret []))))) (mret .nx)) (seqM (asgM 2 (lcM [3] (rngM3 (lstC (cst (.int 0)) (lstC (eAppB lenF (argC (argN 2) (mret []))) (lstC (cst (.int 2)) (mret []))))) q_fold_1t (mret true) q_fold_2e)) (ifM (tstB (eBinB gtD (argV (eAppB lenF (argC (argN 2) (mret [])))) (argV (cst (.int 1))))) (asgM 1 (eBin mulD (rdV 1) (rdV 1))) (mret .nx)))
def b_fold : M Unit Fl := seqM (asgM 2 (eAppB listF (argC (argV (rdV 0)) (mret [])))) (seqM (whM 1000000 q_fold_3c q_fold_4b) (retM (eIfM (truM (argN 2)) (eIx (argN 2) (cst (.int 0))) (cst (.int 0)))))
def m_fold : DefM Unit := runDef 4 b_fold
theorem d_fold {P : Program} {w : World} {K : PySem.W.Frag} {mg : Str → Option Value} {base : Heap} (FD : Fd K mg "fold" s_fold) (B : Bl mg)  : Dx P w K mg base 1 "fold" s_fold ["digits", "unit"] m_fold :=
  dx_mk ["digits", "unit", "parts", "at"] FD sc_fold (fun _ _ _ _ _ _ us hl => match us, hl with | [_, _], _ => rfl) fun f cdv A outer s H E g hG hr =>
    (ss_cons (s_asg 2 sc_fold.nd (e_bltT b_list (by rfl) B.list (by decide +kernel) (a_cons (b_e (e_v 0)) a_nil))) (ss_cons (s_while 1000000 (passes_of rfl) (t_cmpB c_gt (b_e (e_bltB b_len (by rfl) B.len (by decide +kernel) (a_cons (b_n 2) a_nil))) (b_e e_int)) (ss_cons (s_if (t_cmpB (c_eq hr.units) (b_e (e_mod (e_bltB b_len (by rfl) B.len (by decide +kernel) (a_cons (b_n 2) a_nil)) e_int)) (b_e e_int)) (ss_one (s_asg 2 sc_fold.nd (e_lst (l_cons e_int (l_star (b_n 2) l_nil))))) ss_nil) (ss_cons (s_asg 2 sc_fold.nd (e_lc [("at", 3)] sc_fold.nd (i_range3 B.range (l_cons e_int (l_cons (e_bltB b_len (by rfl) B.len (by decide +kernel) (a_cons (b_n 2) a_nil)) (l_cons e_int l_nil)))) (fun F s H C cl fp => (g_name 3 sc_fold.nd)) bt_nil (fun F s H C cl fp => (e_add (e_mul (e_ix (b_n 2) (e_v 3)) (e_v 1)) (e_ix (b_n 2) (e_add (e_v 3) e_int)))) (ok := blkOk_by (N := ["digits", "unit", "parts", "at"]) (sc := defScope s_fold) (by decide +kernel)))) (ss_one (s_if (t_cmpB c_gt (b_e (e_bltB b_len (by rfl) B.len (by decide +kernel) (a_cons (b_n 2) a_nil))) (b_e e_int)) (ss_one (s_asg 1 sc_fold.nd (e_mul (e_v 1) (e_v 1)))) ss_nil))))) (ss_one (s_ret (e_if (t_tru (b_n 2)) (e_ix (b_n 2) e_int) e_int)))))
abbrev s_digit_of : Stmt := topS 5
theorem sc_digit_of : FnScope ["base", "width", "letter", "index"] ["base", "width", "letter", "index"] (defScope s_digit_of) := ⟨rfl, rfl, rfl, by decide +kernel, rfl, by decide +kernel, by decide +kernel⟩
def b_digit_of : M Unit Fl := seqM (ifM (tstB (eBinB eqD (argN 1) (argV (cst (.int 1))))) (retN 2) (mret .nx)) (retM (eIfM (tstB (eBinB eqD (argN 3) (argV (cst (.int 0))))) (eBin fdivD (rdV 2) (rdV 0)) (eBin modD (rdV 2) (rdV 0))))
def m_digit_of : DefM Unit := runDef 4 b_digit_of
theorem d_digit_of {P : Program} {w : World} {K : PySem.W.Frag} {mg : Str → Option Value} {base : Heap} (FD : Fd K mg "digit_of" s_digit_of) (B : Bl mg)  : Dx P w K mg base 1 "digit_of" s_digit_of ["base", "width", "letter", "index"] m_digit_of :=
  dx_mk ["base", "width", "letter", "index"] FD sc_digit_of (fun _ _ _ _ _ _ us hl => match us, hl with | [_, _, _, _], _ => rfl) fun f cdv A outer s H E g hG hr =>
    (ss_cons (s_if (t_cmpB (c_eq hr.units) (b_n 1) (b_e e_int)) (ss_one (s_retV 2)) ss_nil) (ss_one (s_ret (e_if (t_cmpB (c_eq hr.units) (b_n 3) (b_e e_int)) (e_fdiv (e_v 2) (e_v 0)) (e_mod (e_v 2) (e_v 0))))))
abbrev s_digits_for : Stmt := topS 6
theorem sc_digits_for : FnScope ["base", "width", "word", "index", "letter"] ["base", "width", "word", "index"] (defScope s_digits_for) := ⟨rfl, rfl, rfl, by decide +kernel, rfl, by decide +kernel, by decide +kernel⟩
def q_digits_for_1t : D → M Unit Unit := (fun d => stV 4 (.v d))
def q_digits_for_2e : M Unit RV := callP 4 m_digit_of (argC (argV (rdV 0)) (argC (argV (rdV 1)) (argC (argV (rdV 4)) (argC (argV (rdV 3)) (mret [])))))
def b_digits_for : M Unit Fl := retM (lcM [4] (itM (rdV 2)) q_digits_for_1t (mret true) q_digits_for_2e)
def m_digits_for : DefM Unit := runDef 5 b_digits_for
theorem d_digits_for {P : Program} {w : World} {K : PySem.W.Frag} {mg : Str → Option Value} {base : Heap} (FD : Fd K mg "digits_for" s_digits_for) (B : Bl mg) (c_digit_of : Dx P w K mg base 1 "digit_of" s_digit_of ["base", "width", "letter", "index"] m_digit_of) : Dx P w K mg base 2 "digits_for" s_digits_for ["base", "width", "word", "index"] m_digits_for :=
  dx_mk ["base", "width", "word", "index", "letter"] FD sc_digits_for (fun _ _ _ _ _ _ us hl => match us, hl with | [_, _, _, _], _ => rfl) fun f cdv A outer s H E g hG hr =>
    (ss_one (s_ret (e_lc [("letter", 4)] sc_digits_for.nd (i_seq (e_v 2)) (fun F s H C cl fp => (g_name 4 sc_digits_for.nd)) bt_nil (fun F s H C cl fp => (e_cP c_digit_of hr takes0 (a_cons (b_e (e_v 0)) (a_cons (b_e (e_v 1)) (a_cons (b_e (e_v 4)) (a_cons (b_e (e_v 3)) a_nil)))))) (ok := blkOk_by (N := ["base", "width", "word", "index", "letter"]) (sc := defScope s_digits_for) (by decide +kernel)))))
abbrev s_fraction : Stmt := topS 11
theorem sc_fraction : FnScope ["top", "bottom", "common"] ["top", "bottom"] (defScope s_fraction) := ⟨rfl, rfl, rfl, by decide +kernel, rfl, by decide +kernel, by decide +kernel⟩
def b_fraction : M Unit Fl := seqM (ifM (tstB (eBinB eqD (argN 1) (argV (cst (.int 0))))) (mbad) (mret .nx)) (seqM (ifM (tstB (eBinB ltD (argN 1) (argV (cst (.int 0))))) (parM [0, 1] (lstC (eUn negD (rdV 0)) (lstC (eUn negD (rdV 1)) (mret [])))) (mret .nx)) (seqM (asgM 2 (eAppB gcdF (argC (argN 0) (argC (argN 1) (mret []))))) (retM (eApp tupD (lstC (eBin fdivD (rdV 0) (rdV 2)) (lstC (eBin fdivD (rdV 1) (rdV 2)) (mret [])))))))
def m_fraction : DefM Unit := runDef 3 b_fraction
theorem d_fraction {P : Program} {w : World} {K : PySem.W.Frag} {mg : Str → Option Value} {base : Heap} (FD : Fd K mg "fraction" s_fraction) (B : Bl mg)  : Dx P w K mg base 1 "fraction" s_fraction ["top", "bottom"] m_fraction :=
  dx_mk ["top", "bottom", "common"] FD sc_fraction (fun _ _ _ _ _ _ us hl => match us, hl with | [_, _], _ => rfl) fun f cdv A outer s H E g hG hr =>
    (ss_cons (s_if (t_cmpB (c_eq hr.units) (b_n 1) (b_e e_int)) (ss_one s_never) ss_nil) (ss_cons (s_if (t_cmpB c_lt (b_n 1) (b_e e_int)) (ss_one (s_par sc_fraction.nd (l_cons (e_neg (e_v 0)) (l_cons (e_neg (e_v 1)) l_nil)))) ss_nil) (ss_cons (s_asg 2 sc_fraction.nd (e_bltG b_gcd (by rfl) B.gcd (a_cons (b_n 0) (a_cons (b_n 1) a_nil)))) (ss_one (s_ret (e_tup (l_cons (e_fdiv (e_v 0) (e_v 2)) (l_cons (e_fdiv (e_v 1) (e_v 2)) l_nil))))))))
abbrev s_words_of : Stmt := topS 13
theorem sc_words_of : GScope ["base", "width", "length", "behind", "start", "free", "high", "tail", "at"] ["base", "width", "length", "behind"] (defScope s_words_of) := ⟨rfl, rfl, rfl, by decide +kernel, rfl, by decide +kernel, by decide +kernel⟩
def q_words_of_1c : M Unit Bool := tAndM (tstB (eBinB geD (argN 8) (argV (cst (.int 0))))) (tstB (eBinB eqD (argV (eIx (argN 7) (rdV 8))) (argN 6)))
def q_words_of_2b : M Unit Fl := seqM (sixM 7 (cst (.int 0)) (rdV 8)) (augM 8 subD (cst (.int 1)))
def q_words_of_3c : M Unit Bool := truM (argV (cst (.bl true)))
def q_words_of_4b : GM Unit := (gSeq (gYld (eApp tupD (strC (argN 4) (strC (argN 7) (mret []))))) (gSeq (gTo (asgM 8 (eBin subD (rdV 5) (cst (.int 1))))) (gSeq (gTo (whM 1000000 q_words_of_1c q_words_of_2b)) (gSeq (gTo (ifM (tstB (eBinB ltD (argN 8) (argV (cst (.int 0))))) (mret (.rt (.v .non))) (mret .nx))) (gSeq (gTo (aixM 7 iaddD (rdV 8) (cst (.int 1)))) (fun ys => mret (.nx, ys)))))))
def b_words_of : GM Unit := (gSeq (gTo (asgM 4 (eAppB tupleF (argC (argV (rdV 3)) (mret []))))) (gSeq (gTo (asgM 5 (eBin subD (rdV 2) (eAppB lenF (argC (argN 4) (mret [])))))) (gSeq (gTo (ifM (tstB (eBinB ltD (argN 5) (argV (cst (.int 0))))) (mret (.rt (.v .non))) (mret .nx))) (gSeq (gTo (asgM 6 (eBin subD (callP 2 m_letter_count (argC (argV (rdV 0)) (argC (argV (rdV 1)) (mret [])))) (cst (.int 1))))) (gSeq (gTo (asgM 7 (eBin mulD (eApp lstD (lstC (cst (.int 0)) (mret []))) (rdV 5)))) (gSeq (gWh 1000000 q_words_of_3c q_words_of_4b) (fun ys => mret (.nx, ys))))))))
def m_words_of : DefG := runGen 9 b_words_of
theorem d_words_of {P : Program} {w : World} {K : PySem.W.Frag} {mg : Str → Option Value} {base : Heap} (FD : Fk K mg "words_of" s_words_of "behind" (.tup [])) (B : Bl mg) (c_letter_count : Dx P w K mg base 1 "letter_count" s_letter_count ["base", "width"] m_letter_count) : Gx P w K mg base 2 "words_of" s_words_of ["base", "width", "length", "behind"] [.tup []] m_words_of :=
  gx_mk1 ["base", "width", "length", "behind", "start", "free", "high", "tail", "at"] 3 FD sc_words_of (fun _ _ _ _ _ _ us ks hl hk => match us, ks, hl, hk with | [_, _, _], [_], _, _ => ⟨_, _, _, _, _, _, rfl, rfl, rfl⟩) rfl fun f cdv A outer s H E g pn hr =>
    (ys_cons (y_s (s_asg 4 sc_words_of.nd (e_bltT b_tuple (by rfl) B.tuple (by decide +kernel) (a_cons (b_e (e_v 3)) a_nil)))) (ys_cons (y_s (s_asg 5 sc_words_of.nd (e_sub (e_v 2) (e_bltB b_len (by rfl) B.len (by decide +kernel) (a_cons (b_n 4) a_nil))))) (ys_cons (y_s (s_if (t_cmpB c_lt (b_n 5) (b_e e_int)) (ss_one s_retN) ss_nil)) (ys_cons (y_s (s_asg 6 sc_words_of.nd (e_sub (e_cP c_letter_count hr takes_gcx (a_cons (b_e (e_v 0)) (a_cons (b_e (e_v 1)) a_nil))) e_int))) (ys_cons (y_s (s_asg 7 sc_words_of.nd (e_mul (e_lst (l_cons e_int l_nil)) (e_v 5)))) (ys_cons (y_while 1000000 owns_gcx (t_tru (b_e e_bl)) (ys_cons (y_yld (e_tup (l_star (b_n 4) (l_star (b_n 7) l_nil)))) (ys_cons (y_s (s_asg 8 sc_words_of.nd (e_sub (e_v 5) e_int))) (ys_cons (y_s (s_while 1000000 (passes_of rfl) (t_w (w_and (t_cmpB c_ge (b_n 8) (b_e e_int)) (w_and1 (t_cmpB (c_eq hr.units) (b_e (e_ix (b_n 7) (e_v 8))) (b_n 6))))) (ss_cons (s_six 7 e_int (e_v 8)) (ss_one (s_aug 8 i_sub sc_words_of.nd e_int))))) (ys_cons (y_s (s_if (t_cmpB c_lt (b_n 8) (b_e e_int)) (ss_one s_retN) ss_nil)) (ys_cons (y_s (s_aix 7 i_add e_int (e_v 8))) ys_nil)))))) ys_nil))))))
abbrev s_cell : Stmt := topS 14
theorem sc_cell : FnScope ["base", "width", "word", "unit", "sides", "index", "low"] ["base", "width", "word"] (defScope s_cell) := ⟨rfl, rfl, rfl, by decide +kernel, rfl, by decide +kernel, by decide +kernel⟩
def q_cell_1t : D → M Unit Unit := (fun d => stV 5 (.v d))
def q_cell_2b : M Unit Fl := seqM (asgM 6 (callP 2 m_fold (argC (argV (callP 4 m_digits_for (argC (argV (rdV 0)) (argC (argV (rdV 1)) (argC (argV (rdV 2)) (argC (argV (rdV 5)) (mret []))))))) (argC (argV (rdV 0)) (mret []))))) (dropM (metM 4 appendF (lstC (eApp tupD (lstC (callP 2 m_fraction (argC (argV (rdV 6)) (argC (argV (rdV 3)) (mret [])))) (lstC (callP 2 m_fraction (argC (argV (eBin addD (rdV 6) (cst (.int 1)))) (argC (argV (rdV 3)) (mret [])))) (mret [])))) (mret []))))
def b_cell : M Unit Fl := seqM (asgM 3 (callP 2 m_power (argC (argV (rdV 0)) (argC (argV (eAppB lenF (argC (argN 2) (mret [])))) (mret []))))) (seqM (asgM 4 (eApp lstD (mret []))) (seqM (forM (rngM1 (lstC (rdV 1) (mret []))) q_cell_1t q_cell_2b) (retM (eAppB tupleF (argC (argV (rdV 4)) (mret []))))))
def m_cell : DefM Unit := runDef 7 b_cell
theorem d_cell {P : Program} {w : World} {K : PySem.W.Frag} {mg : Str → Option Value} {base : Heap} (FD : Fd K mg "cell" s_cell) (B : Bl mg) (c_power : Dx P w K mg base 1 "power" s_power ["number", "exponent"] m_power) (c_fold : Dx P w K mg base 1 "fold" s_fold ["digits", "unit"] m_fold) (c_digits_for : Dx P w K mg base 2 "digits_for" s_digits_for ["base", "width", "word", "index"] m_digits_for) (c_fraction : Dx P w K mg base 1 "fraction" s_fraction ["top", "bottom"] m_fraction) : Dx P w K mg base 3 "cell" s_cell ["base", "width", "word"] m_cell :=
  dx_mk ["base", "width", "word", "unit", "sides", "index", "low"] FD sc_cell (fun _ _ _ _ _ _ us hl => match us, hl with | [_, _, _], _ => rfl) fun f cdv A outer s H E g hG hr =>
    (ss_cons (s_asg 3 sc_cell.nd (e_cP c_power hr (takes_of rfl rfl rfl rfl) (a_cons (b_e (e_v 0)) (a_cons (b_e (e_bltB b_len (by rfl) B.len (by decide +kernel) (a_cons (b_n 2) a_nil))) a_nil)))) (ss_cons (s_asg 4 sc_cell.nd (e_lst l_nil)) (ss_cons (s_for (passes_of rfl) rfl (i_range1 B.range (l_cons (e_v 1) l_nil)) (g_name 5 sc_cell.nd) (ss_cons (s_asg 6 sc_cell.nd (e_cP c_fold hr (takes_of rfl rfl rfl rfl) (a_cons (b_e (e_cP c_digits_for hr (takes_of rfl rfl rfl rfl) (a_cons (b_e (e_v 0)) (a_cons (b_e (e_v 1)) (a_cons (b_e (e_v 2)) (a_cons (b_e (e_v 5)) a_nil)))))) (a_cons (b_e (e_v 0)) a_nil)))) (ss_one (s_expr (e_met 4 m_append (l_cons (e_tup (l_cons (e_cP c_fraction hr (takes_of rfl rfl rfl rfl) (a_cons (b_e (e_v 6)) (a_cons (b_e (e_v 3)) a_nil))) (l_cons (e_cP c_fraction hr (takes_of rfl rfl rfl rfl) (a_cons (b_e (e_add (e_v 6) e_int)) (a_cons (b_e (e_v 3)) a_nil))) l_nil))) l_nil)))))) (ss_one (s_ret (e_bltT b_tuple (by rfl) B.tuple (by decide +kernel) (a_cons (b_e (e_v 4)) a_nil)))))))
abbrev s_corners_of : Stmt := topS 15
theorem sc_corners_of : FnScope ["base", "width", "word", "sides", "number", "one", "other"] ["base", "width", "word"] (defScope s_corners_of) := ⟨rfl, rfl, rfl, by decide +kernel, rfl, by decide +kernel, by decide +kernel⟩
def q_corners_of_1t : D → M Unit Unit := (fun d => stV 4 (.v d))
def q_corners_of_2e : M Unit RV := eApp tupD (lstC (rdV 4) (mret []))
def q_corners_of_3t : D → M Unit Unit := (fun d => stV 5 (.v d))
def q_corners_of_4u : D → M Unit Unit := (fun d => stV 6 (.v d))
def q_corners_of_5e : M Unit RV := eApp tupD (lstC (rdV 5) (lstC (rdV 6) (mret [])))
def b_corners_of : M Unit Fl := seqM (asgM 3 (callP 3 m_cell (argC (argV (rdV 0)) (argC (argV (rdV 1)) (argC (argV (rdV 2)) (mret [])))))) (seqM (ifM (tstB (eBinB eqD (argN 1) (argV (cst (.int 1))))) (retM (lcM [4] (itM (eIx (argN 3) (cst (.int 0)))) q_corners_of_1t (mret true) q_corners_of_2e)) (mret .nx)) (retM (lc2M [5, 6] [6] (itM (eIx (argN 3) (cst (.int 0)))) q_corners_of_3t (mret true) (itM (eIx (argN 3) (cst (.int 1)))) q_corners_of_4u (mret true) q_corners_of_5e)))
def m_corners_of : DefM Unit := runDef 7 b_corners_of
theorem d_corners_of {P : Program} {w : World} {K : PySem.W.Frag} {mg : Str → Option Value} {base : Heap} (FD : Fd K mg "corners_of" s_corners_of) (B : Bl mg) (c_cell : Dx P w K mg base 3 "cell" s_cell ["base", "width", "word"] m_cell) : Dx P w K mg base 4 "corners_of" s_corners_of ["base", "width", "word"] m_corners_of :=
  dx_mk ["base", "width", "word", "sides", "number", "one", "other"] FD sc_corners_of (fun _ _ _ _ _ _ us hl => match us, hl with | [_, _, _], _ => rfl) fun f cdv A outer s H E g hG hr =>
    (ss_cons (s_asg 3 sc_corners_of.nd (e_cP c_cell hr (takes_of rfl rfl rfl rfl) (a_cons (b_e (e_v 0)) (a_cons (b_e (e_v 1)) (a_cons (b_e (e_v 2)) a_nil))))) (ss_cons (s_if (t_cmpB (c_eq hr.units) (b_n 1) (b_e e_int)) (ss_one (s_ret (e_lc [("number", 4)] sc_corners_of.nd (i_seq (e_ix (b_n 3) e_int)) (fun F s H C cl fp => (g_name 4 sc_corners_of.nd)) bt_nil (fun F s H C cl fp => (e_tup (l_cons (e_v 4) l_nil))) (ok := blkOk_by (N := ["base", "width", "word", "sides", "number", "one", "other"]) (sc := defScope s_corners_of) (by decide +kernel))))) ss_nil) (ss_one (s_ret (e_lc2 [("one", 5), ("other", 6)] [6] sc_corners_of.nd (i_seq (e_ix (b_n 3) e_int)) (fun F s H C cl fp => (g_name 5 sc_corners_of.nd)) bt_nil (fun F s H C cl fp => (i_seq (e_ix (b_n 3) e_int))) (fun F s H C cl fp => (g_name 6 sc_corners_of.nd)) bt_nil (fun F s H C cl fp => (e_tup (l_cons (e_v 5) (l_cons (e_v 6) l_nil)))) (ok := blkOk_by (N := ["base", "width", "word", "sides", "number", "one", "other"]) (sc := defScope s_corners_of) (by decide +kernel)))))))
abbrev s_level_points : Stmt := topS 16
theorem sc_level_points : GScope ["base", "width", "n", "unit", "one", "other"] ["base", "width", "n"] (defScope s_level_points) := ⟨rfl, rfl, rfl, by decide +kernel, rfl, by decide +kernel, by decide +kernel⟩
def q_level_points_1t : D → M Unit Unit := (fun d => stV 5 (.v d))
def q_level_points_2b : GM Unit := (gSeq (gYld (eApp tupD (lstC (callP 2 m_fraction (argC (argV (rdV 4)) (argC (argV (rdV 3)) (mret [])))) (lstC (callP 2 m_fraction (argC (argV (rdV 5)) (argC (argV (rdV 3)) (mret [])))) (mret []))))) (fun ys => mret (.nx, ys)))
def q_level_points_3t : D → M Unit Unit := (fun d => stV 4 (.v d))
def q_level_points_4b : GM Unit := (gSeq (gIf (tstB (eBinB eqD (argN 1) (argV (cst (.int 1))))) (gSeq (gYld (eApp tupD (lstC (callP 2 m_fraction (argC (argV (rdV 4)) (argC (argV (rdV 3)) (mret [])))) (mret [])))) (fun ys => mret (.nx, ys))) (gSeq (gFor (rngM1 (lstC (eBin addD (rdV 3) (cst (.int 1))) (mret []))) q_level_points_1t q_level_points_2b) (fun ys => mret (.nx, ys)))) (fun ys => mret (.nx, ys)))
def b_level_points : GM Unit := (gSeq (gTo (asgM 3 (callP 2 m_power (argC (argV (rdV 0)) (argC (argV (rdV 2)) (mret [])))))) (gSeq (gFor (rngM1 (lstC (eBin addD (rdV 3) (cst (.int 1))) (mret []))) q_level_points_3t q_level_points_4b) (fun ys => mret (.nx, ys))))
def m_level_points : DefG := runGen 6 b_level_points
theorem d_level_points {P : Program} {w : World} {K : PySem.W.Frag} {mg : Str → Option Value} {base : Heap} (FD : Fd K mg "level_points" s_level_points) (B : Bl mg) (c_power : Dx P w K mg base 1 "power" s_power ["number", "exponent"] m_power) (c_fraction : Dx P w K mg base 1 "fraction" s_fraction ["top", "bottom"] m_fraction) : Gx P w K mg base 2 "level_points" s_level_points ["base", "width", "n"] [] m_level_points :=
  gx_mk ["base", "width", "n", "unit", "one", "other"] FD sc_level_points (fun _ _ _ _ _ _ us hl => match us, hl with | [_, _, _], _ => rfl) fun f cdv A outer s H E g pn hr =>
    (ys_cons (y_s (s_asg 3 sc_level_points.nd (e_cP c_power hr takes_gcx (a_cons (b_e (e_v 0)) (a_cons (b_e (e_v 2)) a_nil))))) (ys_cons (y_for owns_gcx rfl (i_range1 B.range (l_cons (e_add (e_v 3) e_int) l_nil)) (g_name 4 sc_level_points.nd) (ys_cons (y_if (t_cmpB (c_eq hr.units) (b_n 1) (b_e e_int)) (ys_cons (y_yld (e_tup (l_cons (e_cP c_fraction hr takes_gcx (a_cons (b_e (e_v 4)) (a_cons (b_e (e_v 3)) a_nil))) l_nil))) ys_nil) (ys_cons (y_for owns_gcx rfl (i_range1 B.range (l_cons (e_add (e_v 3) e_int) l_nil)) (g_name 5 sc_level_points.nd) (ys_cons (y_yld (e_tup (l_cons (e_cP c_fraction hr takes_gcx (a_cons (b_e (e_v 4)) (a_cons (b_e (e_v 3)) a_nil))) (l_cons (e_cP c_fraction hr takes_gcx (a_cons (b_e (e_v 5)) (a_cons (b_e (e_v 3)) a_nil))) l_nil)))) ys_nil)) ys_nil)) ys_nil)) ys_nil))
abbrev s__law_draw : Stmt := topS 19
theorem sc__law_draw : FnScope ["box", "size", "bit", "digit"] ["box", "size"] (defScope s__law_draw) := ⟨rfl, rfl, rfl, by decide +kernel, rfl, by decide +kernel, by decide +kernel⟩
def b__law_draw : M Bx Fl := seqM (bxSt 0 4 (eBin addD (bxRd 0 4) (cst (.int 1)))) (seqM (ifM (tAndM (tstB (eBinB eqD (argV (bxRd 0 2)) (argV (cst (.int 0))))) (tstB (eBinB ltD (argV (bxRd 0 1)) (argV (eAppB lenF (argC (argV (bxRd 0 0)) (mret []))))))) (seqM (asgM 2 (eIx (argV (bxRd 0 0)) (bxRd 0 1))) (seqM (bxSt 0 1 (eBin addD (bxRd 0 1) (cst (.int 1)))) (ifM (tstB (eBinB geD (argN 2) (argV (eBin powD (cst (.int 10)) (cst (.int 18)))))) (seqM (bxSt 0 2 (rdV 2)) (bxSt 0 5 (cst (.int 60)))) (bxSt 0 3 (eBin modD (eAppB intF (argC (argV (eBin addD (eBin addD (eBin mulD (bxRd 0 3) (cst (.int 75403))) (eBin mulD (eBin modD (eAppB intF (argC (argN 2) (mret []))) (cst (.int 2147483563))) (cst (.int 40009)))) (cst (.int 307)))) (mret []))) (cst (.int 2147483549))))))) (mret .nx)) (seqM (ifM (tstB (eBinB gtD (argV (bxRd 0 2)) (argV (cst (.int 0))))) (seqM (asgM 3 (eBin modD (eAppB intF (argC (argV (bxRd 0 2)) (mret []))) (rdV 1))) (seqM (bxSt 0 5 (eBin subD (bxRd 0 5) (cst (.int 1)))) (seqM (bxSt 0 2 (eIfM (tstB (eBinB gtD (argV (bxRd 0 5)) (argV (cst (.int 0))))) (eBin fdivD (bxRd 0 2) (rdV 1)) (cst (.int 0)))) (retN 3)))) (mret .nx)) (seqM (bxSt 0 3 (eBin modD (eAppB intF (argC (argV (eBin addD (eBin addD (eBin powD (bxRd 0 3) (cst (.int 3))) (eBin mulD (bxRd 0 4) (cst (.int 1000003)))) (cst (.int 70001)))) (mret []))) (cst (.int 2147483549)))) (retM (eBin modD (eAppB intF (argC (argV (eBin addD (eBin fdivD (bxRd 0 3) (cst (.int 89))) (eBin mulD (eBin modD (eAppB intF (argC (argV (bxRd 0 3)) (mret []))) (cst (.int 6869))) (cst (.int 73))))) (mret []))) (rdV 1))))))
def m__law_draw : DefM Bx := runDef 4 b__law_draw
theorem d__law_draw {P : Program} {w : World} {K : PySem.W.Frag} {mg : Str → Option Value} {base : Heap} (FD : Fd K mg "_law_draw" s__law_draw) (B : Bl mg)  : Dx P w K mg base 1 "_law_draw" s__law_draw ["box", "size"] m__law_draw :=
  dx_mk ["box", "size", "bit", "digit"] FD sc__law_draw (fun _ _ _ _ _ _ us hl => match us, hl with | [_, _], _ => rfl) fun f cdv A outer s H E g hG hr =>
    (ss_cons (s_bx 0 4 hG (e_add (e_bx 0 4 hG) e_int)) (ss_cons (s_if (t_w (w_and (t_cmpB (c_eq hr.units) (b_e (e_bx 0 2 hG)) (b_e e_int)) (w_and1 (t_cmpB c_lt (b_e (e_bx 0 1 hG)) (b_e (e_bltB b_len (by rfl) B.len (by decide +kernel) (a_cons (b_e (e_bx 0 0 hG)) a_nil))))))) (ss_cons (s_asg 2 sc__law_draw.nd (e_ix (b_e (e_bx 0 0 hG)) (e_bx 0 1 hG))) (ss_cons (s_bx 0 1 hG (e_add (e_bx 0 1 hG) e_int)) (ss_one (s_if (t_cmpB c_ge (b_n 2) (b_e (e_pow e_int e_int))) (ss_cons (s_bx 0 2 hG (e_v 2)) (ss_one (s_bx 0 5 hG e_int))) (ss_one (s_bx 0 3 hG (e_mod (e_bltT b_int (by rfl) B.int (by decide +kernel) (a_cons (b_e (e_add (e_add (e_mul (e_bx 0 3 hG) e_int) (e_mul (e_mod (e_bltT b_int (by rfl) B.int (by decide +kernel) (a_cons (b_n 2) a_nil)) e_int) e_int)) e_int)) a_nil)) e_int))))))) ss_nil) (ss_cons (s_if (t_cmpB c_gt (b_e (e_bx 0 2 hG)) (b_e e_int)) (ss_cons (s_asg 3 sc__law_draw.nd (e_mod (e_bltT b_int (by rfl) B.int (by decide +kernel) (a_cons (b_e (e_bx 0 2 hG)) a_nil)) (e_v 1))) (ss_cons (s_bx 0 5 hG (e_sub (e_bx 0 5 hG) e_int)) (ss_cons (s_bx 0 2 hG (e_if (t_cmpB c_gt (b_e (e_bx 0 5 hG)) (b_e e_int)) (e_fdiv (e_bx 0 2 hG) (e_v 1)) e_int)) (ss_one (s_retV 3))))) ss_nil) (ss_cons (s_bx 0 3 hG (e_mod (e_bltT b_int (by rfl) B.int (by decide +kernel) (a_cons (b_e (e_add (e_add (e_pow (e_bx 0 3 hG) e_int) (e_mul (e_bx 0 4 hG) e_int)) e_int)) a_nil)) e_int)) (ss_one (s_ret (e_mod (e_bltT b_int (by rfl) B.int (by decide +kernel) (a_cons (b_e (e_add (e_fdiv (e_bx 0 3 hG) e_int) (e_mul (e_mod (e_bltT b_int (by rfl) B.int (by decide +kernel) (a_cons (b_e (e_bx 0 3 hG)) a_nil)) e_int) e_int))) a_nil)) (e_v 1))))))))
abbrev s__law_of : Stmt := topS 20
theorem sc__law_of : FnScope ["box", "menu"] ["box", "menu"] (defScope s__law_of) := ⟨rfl, rfl, rfl, by decide +kernel, rfl, by decide +kernel, by decide +kernel⟩
def b__law_of : M Bx Fl := retM (eIx (argN 1) (callB 2 m__law_draw (argC (argV (rdV 0)) (argC (argV (eAppB lenF (argC (argN 1) (mret [])))) (mret [])))))
def m__law_of : DefM Bx := runDef 2 b__law_of
theorem d__law_of {P : Program} {w : World} {K : PySem.W.Frag} {mg : Str → Option Value} {base : Heap} (FD : Fd K mg "_law_of" s__law_of) (B : Bl mg) (c__law_draw : Dx P w K mg base 1 "_law_draw" s__law_draw ["box", "size"] m__law_draw) : Dx P w K mg base 2 "_law_of" s__law_of ["box", "menu"] m__law_of :=
  dx_mk ["box", "menu"] FD sc__law_of (fun _ _ _ _ _ _ us hl => match us, hl with | [_, _], _ => rfl) fun f cdv A outer s H E g hG hr =>
    (ss_one (s_ret (e_ix (b_n 1) (e_cB hG c__law_draw hr (takes_of rfl rfl rfl rfl) (a_cons (b_e (e_v 0)) (a_cons (b_e (e_bltB b_len (by rfl) B.len (by decide +kernel) (a_cons (b_n 1) a_nil))) a_nil))))))
abbrev s__law_like : Stmt := topS 21
theorem sc__law_like : FnScope ["told", "due", "key", "k"] ["told", "due"] (defScope s__law_like) := ⟨rfl, rfl, rfl, by decide +kernel, rfl, by decide +kernel, by decide +kernel⟩
def q__law_like_1t (self : DefM Unit) : D → M Unit Unit := (fun d => stV 3 (.v d))
def q__law_like_2b (self : DefM Unit) : M Unit Fl := ifM (tNotM (truM (argV (callP 2 self (argC (argV (eIx (argN 0) (rdV 3))) (argC (argV (eIx (argN 1) (rdV 3))) (mret []))))))) (retM (cst (.bl false))) (mret .nx)
def b__law_like (self : DefM Unit) : M Unit Fl := seqM (ifM (truM (argV (isiM "bool" (argN 1)))) (retM (eAndM (isiM "bool" (argN 0)) (eBinB eqD (argN 0) (argN 1)))) (mret .nx)) (seqM (ifM (truM (argV (isiM "int" (argN 1)))) (retM (eAndM (isiM "int" (argN 0)) (eAndM (eNotM (isiM "bool" (argN 0))) (eBinB eqD (argN 0) (argN 1))))) (mret .nx)) (seqM (ifM (truM (argV (isiM "str" (argN 1)))) (retM (eAndM (isiM "str" (argN 0)) (eBinB eqD (argN 0) (argN 1)))) (mret .nx)) (seqM (ifM (truM (argV (isiM "dict" (argN 1)))) mbad (mret .nx)) (seqM (ifM (tOrM (truM (argV (isiM "list" (argN 1)))) (truM (argV (isiM "tuple" (argN 1))))) (seqM (ifM (tOrM (tstB (eBinB neD (argV (isiM "list" (argN 0))) (argV (isiM "list" (argN 1))))) (tstB (eBinB neD (argV (isiM "tuple" (argN 0))) (argV (isiM "tuple" (argN 1)))))) (retM (cst (.bl false))) (mret .nx)) (seqM (ifM (tstB (eBinB neD (argV (eAppB lenF (argC (argN 0) (mret [])))) (argV (eAppB lenF (argC (argN 1) (mret [])))))) (retM (cst (.bl false))) (mret .nx)) (seqM (forM (rngM1 (lstC (eAppB lenF (argC (argN 1) (mret []))) (mret []))) (q__law_like_1t self) (q__law_like_2b self)) (retM (cst (.bl true)))))) (mret .nx)) (retM (eAndM (eUn isND (rdV 1)) (eUn isND (rdV 0))))))))
def m__law_like : Nat → DefM Unit
  | 0 => bad
  | n + 1 => runDef 4 (b__law_like (m__law_like n))
theorem e__law_like {P : Program} {w : World} {K : PySem.W.Frag} {mg : Str → Option Value} {base : Heap} (FD : Fd K mg "_law_like" s__law_like) (B : Bl mg)  {k : Nat} {self : DefM Unit} (hL : 0 ≤ k) (c__law_like : Dx P w K mg base k "_law_like" s__law_like ["told", "due"] self) : Dx P w K mg base (k + 1) "_law_like" s__law_like ["told", "due"] (runDef 4 (b__law_like self)) :=
  dx_mk ["told", "due", "key", "k"] FD sc__law_like (fun _ _ _ _ _ _ us hl => match us, hl with | [_, _], _ => rfl) fun f cdv A outer s H E g hG hr =>
    (ss_cons (s_if (t_tru (b_e (e_isi "bool" B.isinstance B.bool (b_n 1)))) (ss_one (s_ret (e_and (e_isi "bool" B.isinstance B.bool (b_n 0)) (e_one (e_cmpB (c_eq hr.units) (b_n 0) (b_n 1)))))) ss_nil) (ss_cons (s_if (t_tru (b_e (e_isi "int" B.isinstance B.int (b_n 1)))) (ss_one (s_ret (e_and (e_isi "int" B.isinstance B.int (b_n 0)) (e_and (e_not (e_isi "bool" B.isinstance B.bool (b_n 0))) (e_one (e_cmpB (c_eq hr.units) (b_n 0) (b_n 1))))))) ss_nil) (ss_cons (s_if (t_tru (b_e (e_isi "str" B.isinstance B.str (b_n 1)))) (ss_one (s_ret (e_and (e_isi "str" B.isinstance B.str (b_n 0)) (e_one (e_cmpB (c_eq hr.units) (b_n 0) (b_n 1)))))) ss_nil) (ss_cons (s_if (t_tru (b_e (e_isi "dict" B.isinstance B.dict (b_n 1)))) ss_never ss_nil) (ss_cons (s_if (t_w (w_or (t_tru (b_e (e_isi "list" B.isinstance B.list (b_n 1)))) (w_or1 (t_tru (b_e (e_isi "tuple" B.isinstance B.tuple (b_n 1))))))) (ss_cons (s_if (t_w (w_or (t_cmpB (c_ne hr.units) (b_e (e_isi "list" B.isinstance B.list (b_n 0))) (b_e (e_isi "list" B.isinstance B.list (b_n 1)))) (w_or1 (t_cmpB (c_ne hr.units) (b_e (e_isi "tuple" B.isinstance B.tuple (b_n 0))) (b_e (e_isi "tuple" B.isinstance B.tuple (b_n 1))))))) (ss_one (s_ret e_bl)) ss_nil) (ss_cons (s_if (t_cmpB (c_ne hr.units) (b_e (e_bltB b_len (by rfl) B.len (by decide +kernel) (a_cons (b_n 0) a_nil))) (b_e (e_bltB b_len (by rfl) B.len (by decide +kernel) (a_cons (b_n 1) a_nil)))) (ss_one (s_ret e_bl)) ss_nil) (ss_cons (s_for (passes_of rfl) rfl (i_range1 B.range (l_cons (e_bltB b_len (by rfl) B.len (by decide +kernel) (a_cons (b_n 1) a_nil)) l_nil)) (g_name 3 sc__law_like.nd) (ss_one (s_if (t_not (t_tru (b_e (e_cP c__law_like hr (takes_of rfl rfl rfl rfl) (a_cons (b_e (e_ix (b_n 0) (e_v 3))) (a_cons (b_e (e_ix (b_n 1) (e_v 3))) a_nil)) (hk := by omega))))) (ss_one (s_ret e_bl)) ss_nil))) (ss_one (s_ret e_bl))))) ss_nil) (ss_one (s_ret (e_and (e_isN (e_v 1)) (e_one (e_isN (e_v 0)))))))))))
theorem d__law_like {P : Program} {w : World} {K : PySem.W.Frag} {mg : Str → Option Value} {base : Heap} (FD : Fd K mg "_law_like" s__law_like) (B : Bl mg)  : ∀ n : Nat, Dx P w K mg base (0 + n) "_law_like" s__law_like ["told", "due"] (m__law_like n)
  | 0 => dx_bad 0 FD (fun _ _ _ _ _ _ us hl => match us, hl with | [_, _], _ => rfl)
  | n + 1 => e__law_like FD B  (Nat.le_add_right _ _) (d__law_like FD B  n)
abbrev s__law_low : Stmt := topS 22
theorem sc__law_low : FnScope ["p", "q", "a", "b"] ["p", "q"] (defScope s__law_low) := ⟨rfl, rfl, rfl, by decide +kernel, rfl, by decide +kernel, by decide +kernel⟩
def q__law_low_1c : M Unit Bool := tstB (eBinB gtD (argN 3) (argV (cst (.int 0))))
def q__law_low_2b : M Unit Fl := parM [2, 3] (lstC (rdV 3) (lstC (eBin modD (eAppB intF (argC (argN 2) (mret []))) (rdV 3)) (mret [])))
def b__law_low : M Unit Fl := seqM (parM [2, 3] (lstC (eAppB absF (argC (argN 0) (mret []))) (lstC (eAppB absF (argC (argN 1) (mret []))) (mret [])))) (seqM (whM 1000000 q__law_low_1c q__law_low_2b) (retM (eIfM (tstB (eBinB gtD (argN 1) (argV (cst (.int 0))))) (eApp tupD (lstC (eBin fdivD (rdV 0) (rdV 2)) (lstC (eBin fdivD (rdV 1) (rdV 2)) (mret [])))) (eApp tupD (lstC (eBin subD (cst (.int 0)) (eBin fdivD (rdV 0) (rdV 2))) (lstC (eBin subD (cst (.int 0)) (eBin fdivD (rdV 1) (rdV 2))) (mret [])))))))
def m__law_low : DefM Unit := runDef 4 b__law_low
theorem d__law_low {P : Program} {w : World} {K : PySem.W.Frag} {mg : Str → Option Value} {base : Heap} (FD : Fd K mg "_law_low" s__law_low) (B : Bl mg)  : Dx P w K mg base 1 "_law_low" s__law_low ["p", "q"] m__law_low :=
  dx_mk ["p", "q", "a", "b"] FD sc__law_low (fun _ _ _ _ _ _ us hl => match us, hl with | [_, _], _ => rfl) fun f cdv A outer s H E g hG hr =>
    (ss_cons (s_par sc__law_low.nd (l_cons (e_bltB b_abs (by rfl) B.abs (by decide +kernel) (a_cons (b_n 0) a_nil)) (l_cons (e_bltB b_abs (by rfl) B.abs (by decide +kernel) (a_cons (b_n 1) a_nil)) l_nil))) (ss_cons (s_while 1000000 (passes_of rfl) (t_cmpB c_gt (b_n 3) (b_e e_int)) (ss_one (s_par sc__law_low.nd (l_cons (e_v 3) (l_cons (e_mod (e_bltT b_int (by rfl) B.int (by decide +kernel) (a_cons (b_n 2) a_nil)) (e_v 3)) l_nil))))) (ss_one (s_ret (e_if (t_cmpB c_gt (b_n 1) (b_e e_int)) (e_tup (l_cons (e_fdiv (e_v 0) (e_v 2)) (l_cons (e_fdiv (e_v 1) (e_v 2)) l_nil))) (e_tup (l_cons (e_sub e_int (e_fdiv (e_v 0) (e_v 2))) (l_cons (e_sub e_int (e_fdiv (e_v 1) (e_v 2))) l_nil))))))))
abbrev s__law_plus : Stmt := topS 23
theorem sc__law_plus : FnScope ["x", "y"] ["x", "y"] (defScope s__law_plus) := ⟨rfl, rfl, rfl, by decide +kernel, rfl, by decide +kernel, by decide +kernel⟩
def b__law_plus : M Unit Fl := retM (callP 2 m__law_low (argC (argV (eBin addD (eBin mulD (eIx (argN 0) (cst (.int 0))) (eIx (argN 1) (cst (.int 1)))) (eBin mulD (eIx (argN 1) (cst (.int 0))) (eIx (argN 0) (cst (.int 1)))))) (argC (argV (eBin mulD (eIx (argN 0) (cst (.int 1))) (eIx (argN 1) (cst (.int 1))))) (mret []))))
def m__law_plus : DefM Unit := runDef 2 b__law_plus
theorem d__law_plus {P : Program} {w : World} {K : PySem.W.Frag} {mg : Str → Option Value} {base : Heap} (FD : Fd K mg "_law_plus" s__law_plus) (B : Bl mg) (c__law_low : Dx P w K mg base 1 "_law_low" s__law_low ["p", "q"] m__law_low) : Dx P w K mg base 2 "_law_plus" s__law_plus ["x", "y"] m__law_plus :=
  dx_mk ["x", "y"] FD sc__law_plus (fun _ _ _ _ _ _ us hl => match us, hl with | [_, _], _ => rfl) fun f cdv A outer s H E g hG hr =>
    (ss_one (s_ret (e_cP c__law_low hr (takes_of rfl rfl rfl rfl) (a_cons (b_e (e_add (e_mul (e_ix (b_n 0) e_int) (e_ix (b_n 1) e_int)) (e_mul (e_ix (b_n 1) e_int) (e_ix (b_n 0) e_int)))) (a_cons (b_e (e_mul (e_ix (b_n 0) e_int) (e_ix (b_n 1) e_int))) a_nil)))))
abbrev s__law_minus : Stmt := topS 24
theorem sc__law_minus : FnScope ["x", "y"] ["x", "y"] (defScope s__law_minus) := ⟨rfl, rfl, rfl, by decide +kernel, rfl, by decide +kernel, by decide +kernel⟩
def b__law_minus : M Unit Fl := retM (callP 2 m__law_low (argC (argV (eBin subD (eBin mulD (eIx (argN 0) (cst (.int 0))) (eIx (argN 1) (cst (.int 1)))) (eBin mulD (eIx (argN 1) (cst (.int 0))) (eIx (argN 0) (cst (.int 1)))))) (argC (argV (eBin mulD (eIx (argN 0) (cst (.int 1))) (eIx (argN 1) (cst (.int 1))))) (mret []))))
def m__law_minus : DefM Unit := runDef 2 b__law_minus
theorem d__law_minus {P : Program} {w : World} {K : PySem.W.Frag} {mg : Str → Option Value} {base : Heap} (FD : Fd K mg "_law_minus" s__law_minus) (B : Bl mg) (c__law_low : Dx P w K mg base 1 "_law_low" s__law_low ["p", "q"] m__law_low) : Dx P w K mg base 2 "_law_minus" s__law_minus ["x", "y"] m__law_minus :=
  dx_mk ["x", "y"] FD sc__law_minus (fun _ _ _ _ _ _ us hl => match us, hl with | [_, _], _ => rfl) fun f cdv A outer s H E g hG hr =>
    (ss_one (s_ret (e_cP c__law_low hr (takes_of rfl rfl rfl rfl) (a_cons (b_e (e_sub (e_mul (e_ix (b_n 0) e_int) (e_ix (b_n 1) e_int)) (e_mul (e_ix (b_n 1) e_int) (e_ix (b_n 0) e_int)))) (a_cons (b_e (e_mul (e_ix (b_n 0) e_int) (e_ix (b_n 1) e_int))) a_nil)))))
abbrev s__law_power : Stmt := topS 25
theorem sc__law_power : FnScope ["b", "many", "made", "k"] ["b", "many"] (defScope s__law_power) := ⟨rfl, rfl, rfl, by decide +kernel, rfl, by decide +kernel, by decide +kernel⟩
def q__law_power_1t : D → M Unit Unit := (fun d => stV 3 (.v d))
def q__law_power_2b : M Unit Fl := asgM 2 (eBin mulD (rdV 2) (rdV 0))
def b__law_power : M Unit Fl := seqM (asgM 2 (cst (.int 1))) (seqM (forM (rngM1 (lstC (rdV 1) (mret []))) q__law_power_1t q__law_power_2b) (retN 2))
def m__law_power : DefM Unit := runDef 4 b__law_power
theorem d__law_power {P : Program} {w : World} {K : PySem.W.Frag} {mg : Str → Option Value} {base : Heap} (FD : Fd K mg "_law_power" s__law_power) (B : Bl mg)  : Dx P w K mg base 1 "_law_power" s__law_power ["b", "many"] m__law_power :=
  dx_mk ["b", "many", "made", "k"] FD sc__law_power (fun _ _ _ _ _ _ us hl => match us, hl with | [_, _], _ => rfl) fun f cdv A outer s H E g hG hr =>
    (ss_cons (s_asg 2 sc__law_power.nd e_int) (ss_cons (s_for (passes_of rfl) rfl (i_range1 B.range (l_cons (e_v 1) l_nil)) (g_name 3 sc__law_power.nd) (ss_one (s_asg 2 sc__law_power.nd (e_mul (e_v 2) (e_v 0))))) (ss_one (s_retV 2))))
abbrev s__law_digit : Stmt := topS 26
theorem sc__law_digit : FnScope ["b", "k", "a", "i"] ["b", "k", "a", "i"] (defScope s__law_digit) := ⟨rfl, rfl, rfl, by decide +kernel, rfl, by decide +kernel, by decide +kernel⟩
def b__law_digit : M Unit Fl := seqM (ifM (tstB (eBinB eqD (argN 1) (argV (cst (.int 1))))) (retN 2) (mret .nx)) (retM (eIfM (tstB (eBinB eqD (argN 3) (argV (cst (.int 0))))) (eBin fdivD (rdV 2) (rdV 0)) (eBin modD (eAppB intF (argC (argN 2) (mret []))) (rdV 0))))
def m__law_digit : DefM Unit := runDef 4 b__law_digit
theorem d__law_digit {P : Program} {w : World} {K : PySem.W.Frag} {mg : Str → Option Value} {base : Heap} (FD : Fd K mg "_law_digit" s__law_digit) (B : Bl mg)  : Dx P w K mg base 1 "_law_digit" s__law_digit ["b", "k", "a", "i"] m__law_digit :=
  dx_mk ["b", "k", "a", "i"] FD sc__law_digit (fun _ _ _ _ _ _ us hl => match us, hl with | [_, _, _, _], _ => rfl) fun f cdv A outer s H E g hG hr =>
    (ss_cons (s_if (t_cmpB (c_eq hr.units) (b_n 1) (b_e e_int)) (ss_one (s_retV 2)) ss_nil) (ss_one (s_ret (e_if (t_cmpB (c_eq hr.units) (b_n 3) (b_e e_int)) (e_fdiv (e_v 2) (e_v 0)) (e_mod (e_bltT b_int (by rfl) B.int (by decide +kernel) (a_cons (b_n 2) a_nil)) (e_v 0))))))
abbrev s__law_signs : Stmt := topS 27
theorem sc__law_signs : FnScope ["box", "size", "many", "k"] ["box", "size", "many"] (defScope s__law_signs) := ⟨rfl, rfl, rfl, by decide +kernel, rfl, by decide +kernel, by decide +kernel⟩
def q__law_signs_1t : D → M Bx Unit := (fun d => stV 3 (.v d))
def q__law_signs_2e : M Bx RV := callB 2 m__law_draw (argC (argV (rdV 0)) (argC (argV (rdV 1)) (mret [])))
def b__law_signs : M Bx Fl := retM (eAppB tupleF (argC (argV (lcM [3] (rngM1 (lstC (rdV 2) (mret []))) q__law_signs_1t (mret true) q__law_signs_2e)) (mret [])))
def m__law_signs : DefM Bx := runDef 4 b__law_signs
theorem d__law_signs {P : Program} {w : World} {K : PySem.W.Frag} {mg : Str → Option Value} {base : Heap} (FD : Fd K mg "_law_signs" s__law_signs) (B : Bl mg) (c__law_draw : Dx P w K mg base 1 "_law_draw" s__law_draw ["box", "size"] m__law_draw) : Dx P w K mg base 2 "_law_signs" s__law_signs ["box", "size", "many"] m__law_signs :=
  dx_mk ["box", "size", "many", "k"] FD sc__law_signs (fun _ _ _ _ _ _ us hl => match us, hl with | [_, _, _], _ => rfl) fun f cdv A outer s H E g hG hr =>
    (ss_one (s_ret (e_bltT b_tuple (by rfl) B.tuple (by decide +kernel) (a_cons (b_e (e_lc [("k", 3)] sc__law_signs.nd (i_range1 B.range (l_cons (e_v 2) l_nil)) (fun F s H C cl fp => (g_name 3 sc__law_signs.nd)) bt_nil (fun F s H C cl fp => (e_cB hG c__law_draw hr takes0 (a_cons (b_e (e_v 0)) (a_cons (b_e (e_v 1)) a_nil)))) (ok := blkOk_by (N := ["box", "size", "many", "k"]) (sc := defScope s__law_signs) (by decide +kernel)))) a_nil))))
abbrev s__law_room : Stmt := topS 28
theorem sc__law_room : FnScope ["box", "k"] ["box"] (defScope s__law_room) := ⟨rfl, rfl, rfl, by decide +kernel, rfl, by decide +kernel, by decide +kernel⟩
def b__law_room : M Bx Fl := seqM (asgM 1 (eBin addD (cst (.int 1)) (eBin fdivD (callB 2 m__law_draw (argC (argV (rdV 0)) (argC (argV (cst (.int 3))) (mret [])))) (cst (.int 2))))) (retM (eApp tupD (lstC (eBin addD (cst (.int 2)) (callB 2 m__law_draw (argC (argV (rdV 0)) (argC (argV (eIfM (tstB (eBinB eqD (argN 1) (argV (cst (.int 2))))) (cst (.int 3)) (cst (.int 9)))) (mret []))))) (lstC (rdV 1) (mret [])))))
def m__law_room : DefM Bx := runDef 2 b__law_room
theorem d__law_room {P : Program} {w : World} {K : PySem.W.Frag} {mg : Str → Option Value} {base : Heap} (FD : Fd K mg "_law_room" s__law_room) (B : Bl mg) (c__law_draw : Dx P w K mg base 1 "_law_draw" s__law_draw ["box", "size"] m__law_draw) : Dx P w K mg base 2 "_law_room" s__law_room ["box"] m__law_room :=
  dx_mk ["box", "k"] FD sc__law_room (fun _ _ _ _ _ _ us hl => match us, hl with | [_], _ => rfl) fun f cdv A outer s H E g hG hr =>
    (ss_cons (s_asg 1 sc__law_room.nd (e_add e_int (e_fdiv (e_cB hG c__law_draw hr (takes_of rfl rfl rfl rfl) (a_cons (b_e (e_v 0)) (a_cons (b_e e_int) a_nil))) e_int))) (ss_one (s_ret (e_tup (l_cons (e_add e_int (e_cB hG c__law_draw hr (takes_of rfl rfl rfl rfl) (a_cons (b_e (e_v 0)) (a_cons (b_e (e_if (t_cmpB (c_eq hr.units) (b_n 1) (b_e e_int)) e_int e_int)) a_nil)))) (l_cons (e_v 1) l_nil))))))
abbrev s__law_ends : Stmt := topS 29
theorem sc__law_ends : FnScope ["b", "k", "signs", "made", "i", "reach", "under", "a"] ["b", "k", "signs"] (defScope s__law_ends) := ⟨rfl, rfl, rfl, by decide +kernel, rfl, by decide +kernel, by decide +kernel⟩
def q__law_ends_1t : D → M Unit Unit := (fun d => stV 7 (.v d))
def q__law_ends_2b : M Unit Fl := parM [5, 6] (lstC (eBin addD (eBin mulD (rdV 5) (rdV 0)) (callP 4 m__law_digit (argC (argV (rdV 0)) (argC (argV (rdV 1)) (argC (argV (rdV 7)) (argC (argV (rdV 4)) (mret []))))))) (lstC (eBin mulD (rdV 6) (rdV 0)) (mret [])))
def q__law_ends_3t : D → M Unit Unit := (fun d => stV 4 (.v d))
def q__law_ends_4b : M Unit Fl := seqM (asgT (eApp tupD (lstC (cst (.int 0)) (lstC (cst (.int 1)) (mret [])))) (gtM 2 (gsC (fun d => stV 5 (.v d)) (gsC (fun d => stV 6 (.v d)) (fun ds => match ds with | [] => mret () | _ => mbad))))) (seqM (forM (itM (rdV 2)) q__law_ends_1t q__law_ends_2b) (dropM (metM 3 appendF (lstC (eApp tupD (lstC (callP 2 m__law_low (argC (argV (rdV 5)) (argC (argV (rdV 6)) (mret [])))) (lstC (callP 2 m__law_low (argC (argV (eBin addD (rdV 5) (cst (.int 1)))) (argC (argV (rdV 6)) (mret [])))) (mret [])))) (mret [])))))
def b__law_ends : M Unit Fl := seqM (asgM 3 (eApp lstD (mret []))) (seqM (forM (rngM1 (lstC (rdV 1) (mret []))) q__law_ends_3t q__law_ends_4b) (retM (eAppB tupleF (argC (argV (rdV 3)) (mret [])))))
def m__law_ends : DefM Unit := runDef 8 b__law_ends
theorem d__law_ends {P : Program} {w : World} {K : PySem.W.Frag} {mg : Str → Option Value} {base : Heap} (FD : Fd K mg "_law_ends" s__law_ends) (B : Bl mg) (c__law_low : Dx P w K mg base 1 "_law_low" s__law_low ["p", "q"] m__law_low) (c__law_digit : Dx P w K mg base 1 "_law_digit" s__law_digit ["b", "k", "a", "i"] m__law_digit) : Dx P w K mg base 2 "_law_ends" s__law_ends ["b", "k", "signs"] m__law_ends :=
  dx_mk ["b", "k", "signs", "made", "i", "reach", "under", "a"] FD sc__law_ends (fun _ _ _ _ _ _ us hl => match us, hl with | [_, _, _], _ => rfl) fun f cdv A outer s H E g hG hr =>
    (ss_cons (s_asg 3 sc__law_ends.nd (e_lst l_nil)) (ss_cons (s_for (passes_of rfl) rfl (i_range1 B.range (l_cons (e_v 1) l_nil)) (g_name 4 sc__law_ends.nd) (ss_cons (s_asgT (e_tup (l_cons e_int (l_cons e_int l_nil))) (g_tup rfl (gs_cons (g_name 5 sc__law_ends.nd) (gs_cons (g_name 6 sc__law_ends.nd) gs_nil)))) (ss_cons (s_for (passes_of rfl) rfl (i_seq (e_v 2)) (g_name 7 sc__law_ends.nd) (ss_one (s_par sc__law_ends.nd (l_cons (e_add (e_mul (e_v 5) (e_v 0)) (e_cP c__law_digit hr (takes_of rfl rfl rfl rfl) (a_cons (b_e (e_v 0)) (a_cons (b_e (e_v 1)) (a_cons (b_e (e_v 7)) (a_cons (b_e (e_v 4)) a_nil)))))) (l_cons (e_mul (e_v 6) (e_v 0)) l_nil))))) (ss_one (s_expr (e_met 3 m_append (l_cons (e_tup (l_cons (e_cP c__law_low hr (takes_of rfl rfl rfl rfl) (a_cons (b_e (e_v 5)) (a_cons (b_e (e_v 6)) a_nil))) (l_cons (e_cP c__law_low hr (takes_of rfl rfl rfl rfl) (a_cons (b_e (e_add (e_v 5) e_int)) (a_cons (b_e (e_v 6)) a_nil))) l_nil))) l_nil))))))) (ss_one (s_ret (e_bltT b_tuple (by rfl) B.tuple (by decide +kernel) (a_cons (b_e (e_v 3)) a_nil))))))
abbrev s__law_cell_asked : Stmt := topS 30
theorem sc__law_cell_asked : FnScope ["box", "b", "k", "signs", "ends", "due", "told"] ["box", "b", "k", "signs"] (defScope s__law_cell_asked) := ⟨rfl, rfl, rfl, by decide +kernel, rfl, by decide +kernel, by decide +kernel⟩
def b__law_cell_asked : M Bx Fl := seqM (asgM 4 (callP 3 m__law_ends (argC (argV (rdV 1)) (argC (argV (rdV 2)) (argC (argV (rdV 3)) (mret [])))))) (seqM (ifM (tNotM (truM (argV (callP 2 (m__law_like 6) (argC (argV (eApp lstD (lstC (callP 3 m_cell (argC (argV (rdV 1)) (argC (argV (rdV 2)) (argC (argV (rdV 3)) (mret []))))) (lstC (callP 3 m_cell (kwA 0 3 [2, 1, 0] (mret []) (argC (argV (rdV 3)) (argC (argV (rdV 2)) (argC (argV (rdV 1)) (mret [])))))) (mret []))))) (argC (argV (eApp lstD (lstC (rdV 4) (lstC (rdV 4) (mret []))))) (mret []))))))) (retM (cst (.bl false))) (mret .nx)) (seqM (ifM (tstB (eBinB eqD (argN 2) (argV (cst (.int 1))))) (asgM 5 (eApp lstD (lstC (eApp tupD (lstC (eIx (argV (eIx (argN 4) (cst (.int 0)))) (cst (.int 0))) (mret []))) (lstC (eApp tupD (lstC (eIx (argV (eIx (argN 4) (cst (.int 0)))) (cst (.int 1))) (mret []))) (mret []))))) (asgM 5 (eApp lstD (lstC (eApp tupD (lstC (eIx (argV (eIx (argN 4) (cst (.int 0)))) (cst (.int 0))) (lstC (eIx (argV (eIx (argN 4) (cst (.int 1)))) (cst (.int 0))) (mret [])))) (lstC (eApp tupD (lstC (eIx (argV (eIx (argN 4) (cst (.int 0)))) (cst (.int 0))) (lstC (eIx (argV (eIx (argN 4) (cst (.int 1)))) (cst (.int 1))) (mret [])))) (lstC (eApp tupD (lstC (eIx (argV (eIx (argN 4) (cst (.int 0)))) (cst (.int 1))) (lstC (eIx (argV (eIx (argN 4) (cst (.int 1)))) (cst (.int 0))) (mret [])))) (lstC (eApp tupD (lstC (eIx (argV (eIx (argN 4) (cst (.int 0)))) (cst (.int 1))) (lstC (eIx (argV (eIx (argN 4) (cst (.int 1)))) (cst (.int 1))) (mret [])))) (mret [])))))))) (seqM (asgM 6 (callP 3 m_corners_of (argC (argV (rdV 1)) (argC (argV (rdV 2)) (argC (argV (rdV 3)) (mret [])))))) (seqM (ifM (tNotM (truM (argV (callP 2 (m__law_like 6) (argC (argN 6) (argC (argV (rdV 5)) (mret []))))))) (retM (cst (.bl false))) (mret .nx)) (seqM (dropM (metM 6 reverseF (mret []))) (seqM (dropM (metM 6 appendF (lstC (eIx (argN 6) (cst (.int 0))) (mret [])))) (retM (callP 2 (m__law_like 6) (argC (argV (callP 3 m_corners_of (kwA 0 3 [1, 2, 0] (mret []) (argC (argV (rdV 3)) (argC (argV (rdV 1)) (argC (argV (rdV 2)) (mret []))))))) (argC (argV (rdV 5)) (mret [])))))))))))
def m__law_cell_asked : DefM Bx := runDef 7 b__law_cell_asked
theorem d__law_cell_asked {P : Program} {w : World} {K : PySem.W.Frag} {mg : Str → Option Value} {base : Heap} (FD : Fd K mg "_law_cell_asked" s__law_cell_asked) (B : Bl mg) (c_cell : Dx P w K mg base 3 "cell" s_cell ["base", "width", "word"] m_cell) (c_corners_of : Dx P w K mg base 4 "corners_of" s_corners_of ["base", "width", "word"] m_corners_of) (c__law_like : Dx P w K mg base 6 "_law_like" s__law_like ["told", "due"] (m__law_like 6)) (c__law_ends : Dx P w K mg base 2 "_law_ends" s__law_ends ["b", "k", "signs"] m__law_ends) : Dx P w K mg base 7 "_law_cell_asked" s__law_cell_asked ["box", "b", "k", "signs"] m__law_cell_asked :=
  dx_mk ["box", "b", "k", "signs", "ends", "due", "told"] FD sc__law_cell_asked (fun _ _ _ _ _ _ us hl => match us, hl with | [_, _, _, _], _ => rfl) fun f cdv A outer s H E g hG hr =>
    (ss_cons (s_asg 4 sc__law_cell_asked.nd (e_cP c__law_ends hr (takes_of rfl rfl rfl rfl) (a_cons (b_e (e_v 1)) (a_cons (b_e (e_v 2)) (a_cons (b_e (e_v 3)) a_nil))))) (ss_cons (s_if (t_not (t_tru (b_e (e_cP c__law_like hr (takes_of rfl rfl rfl rfl) (a_cons (b_e (e_lst (l_cons (e_cP c_cell hr (takes_of rfl rfl rfl rfl) (a_cons (b_e (e_v 1)) (a_cons (b_e (e_v 2)) (a_cons (b_e (e_v 3)) a_nil)))) (l_cons (e_kP0 (ks := ["word", "width", "base"]) [2, 1, 0] c_cell hr (takes_of rfl rfl rfl rfl) (fun _ _ _ _ _ _ us ws hl hw => match us, ws, hl, hw with | [], [_, _, _], _, _ => rfl) (k_cons (b_e (e_v 3)) (k_cons (b_e (e_v 2)) (k_cons (b_e (e_v 1)) k_nil)))) l_nil)))) (a_cons (b_e (e_lst (l_cons (e_v 4) (l_cons (e_v 4) l_nil)))) a_nil)))))) (ss_one (s_ret e_bl)) ss_nil) (ss_cons (s_if (t_cmpB (c_eq hr.units) (b_n 2) (b_e e_int)) (ss_one (s_asg 5 sc__law_cell_asked.nd (e_lst (l_cons (e_tup (l_cons (e_ix (b_e (e_ix (b_n 4) e_int)) e_int) l_nil)) (l_cons (e_tup (l_cons (e_ix (b_e (e_ix (b_n 4) e_int)) e_int) l_nil)) l_nil))))) (ss_one (s_asg 5 sc__law_cell_asked.nd (e_lst (l_cons (e_tup (l_cons (e_ix (b_e (e_ix (b_n 4) e_int)) e_int) (l_cons (e_ix (b_e (e_ix (b_n 4) e_int)) e_int) l_nil))) (l_cons (e_tup (l_cons (e_ix (b_e (e_ix (b_n 4) e_int)) e_int) (l_cons (e_ix (b_e (e_ix (b_n 4) e_int)) e_int) l_nil))) (l_cons (e_tup (l_cons (e_ix (b_e (e_ix (b_n 4) e_int)) e_int) (l_cons (e_ix (b_e (e_ix (b_n 4) e_int)) e_int) l_nil))) (l_cons (e_tup (l_cons (e_ix (b_e (e_ix (b_n 4) e_int)) e_int) (l_cons (e_ix (b_e (e_ix (b_n 4) e_int)) e_int) l_nil))) l_nil)))))))) (ss_cons (s_asg 6 sc__law_cell_asked.nd (e_cP c_corners_of hr (takes_of rfl rfl rfl rfl) (a_cons (b_e (e_v 1)) (a_cons (b_e (e_v 2)) (a_cons (b_e (e_v 3)) a_nil))))) (ss_cons (s_if (t_not (t_tru (b_e (e_cP c__law_like hr (takes_of rfl rfl rfl rfl) (a_cons (b_n 6) (a_cons (b_e (e_v 5)) a_nil)))))) (ss_one (s_ret e_bl)) ss_nil) (ss_cons (s_expr (e_met0 6 m_reverse)) (ss_cons (s_expr (e_met 6 m_append (l_cons (e_ix (b_n 6) e_int) l_nil))) (ss_one (s_ret (e_cP c__law_like hr (takes_of rfl rfl rfl rfl) (a_cons (b_e (e_kP0 (ks := ["word", "base", "width"]) [1, 2, 0] c_corners_of hr (takes_of rfl rfl rfl rfl) (fun _ _ _ _ _ _ us ws hl hw => match us, ws, hl, hw with | [], [_, _, _], _, _ => rfl) (k_cons (b_e (e_v 3)) (k_cons (b_e (e_v 1)) (k_cons (b_e (e_v 2)) k_nil))))) (a_cons (b_e (e_v 5)) a_nil))))))))))))
abbrev s__law_within : Stmt := topS 31
theorem sc__law_within : FnScope ["x", "y", "i"] ["x", "y"] (defScope s__law_within) := ⟨rfl, rfl, rfl, by decide +kernel, rfl, by decide +kernel, by decide +kernel⟩
def q__law_within_1t : D → M Unit Unit := (fun d => stV 2 (.v d))
def q__law_within_2b : M Unit Fl := ifM (tOrM (tstB (eBinB ltD (argV (eIx (argV (callP 2 m__law_minus (argC (argV (eIx (argV (eIx (argN 0) (rdV 2))) (cst (.int 0)))) (argC (argV (eIx (argV (eIx (argN 1) (rdV 2))) (cst (.int 0)))) (mret []))))) (cst (.int 0)))) (argV (cst (.int 0))))) (tstB (eBinB ltD (argV (eIx (argV (callP 2 m__law_minus (argC (argV (eIx (argV (eIx (argN 1) (rdV 2))) (cst (.int 1)))) (argC (argV (eIx (argV (eIx (argN 0) (rdV 2))) (cst (.int 1)))) (mret []))))) (cst (.int 0)))) (argV (cst (.int 0)))))) (retM (cst (.bl false))) (mret .nx)
def b__law_within : M Unit Fl := seqM (forM (rngM1 (lstC (eAppB lenF (argC (argN 0) (mret []))) (mret []))) q__law_within_1t q__law_within_2b) (retM (cst (.bl true)))
def m__law_within : DefM Unit := runDef 3 b__law_within
theorem d__law_within {P : Program} {w : World} {K : PySem.W.Frag} {mg : Str → Option Value} {base : Heap} (FD : Fd K mg "_law_within" s__law_within) (B : Bl mg) (c__law_minus : Dx P w K mg base 2 "_law_minus" s__law_minus ["x", "y"] m__law_minus) : Dx P w K mg base 3 "_law_within" s__law_within ["x", "y"] m__law_within :=
  dx_mk ["x", "y", "i"] FD sc__law_within (fun _ _ _ _ _ _ us hl => match us, hl with | [_, _], _ => rfl) fun f cdv A outer s H E g hG hr =>
    (ss_cons (s_for (passes_of rfl) rfl (i_range1 B.range (l_cons (e_bltB b_len (by rfl) B.len (by decide +kernel) (a_cons (b_n 0) a_nil)) l_nil)) (g_name 2 sc__law_within.nd) (ss_one (s_if (t_w (w_or (t_cmpB c_lt (b_e (e_ix (b_e (e_cP c__law_minus hr (takes_of rfl rfl rfl rfl) (a_cons (b_e (e_ix (b_e (e_ix (b_n 0) (e_v 2))) e_int)) (a_cons (b_e (e_ix (b_e (e_ix (b_n 1) (e_v 2))) e_int)) a_nil)))) e_int)) (b_e e_int)) (w_or1 (t_cmpB c_lt (b_e (e_ix (b_e (e_cP c__law_minus hr (takes_of rfl rfl rfl rfl) (a_cons (b_e (e_ix (b_e (e_ix (b_n 1) (e_v 2))) e_int)) (a_cons (b_e (e_ix (b_e (e_ix (b_n 0) (e_v 2))) e_int)) a_nil)))) e_int)) (b_e e_int))))) (ss_one (s_ret e_bl)) ss_nil))) (ss_one (s_ret e_bl)))
abbrev s__law_nested : Stmt := topS 32
theorem sc__law_nested : FnScope ["box", "b", "k", "signs", "size", "at", "sides", "a", "told", "i", "wide", "step", "d"] ["box", "b", "k", "signs"] (defScope s__law_nested) := ⟨rfl, rfl, rfl, by decide +kernel, rfl, by decide +kernel, by decide +kernel⟩
def q__law_nested_1t : D → M Bx Unit := (fun d => stV 9 (.v d))
def q__law_nested_2b : M Bx Fl := seqM (asgM 10 (callP 2 m__law_minus (argC (argV (eIx (argV (eIx (argN 6) (rdV 9))) (cst (.int 1)))) (argC (argV (eIx (argV (eIx (argN 6) (rdV 9))) (cst (.int 0)))) (mret []))))) (seqM (asgM 11 (callP 2 m__law_low (argC (argV (eIx (argN 10) (cst (.int 0)))) (argC (argV (eBin mulD (eIx (argN 10) (cst (.int 1))) (rdV 1))) (mret []))))) (seqM (asgM 12 (callP 4 m__law_digit (argC (argV (rdV 1)) (argC (argV (rdV 2)) (argC (argV (rdV 7)) (argC (argV (rdV 9)) (mret []))))))) (seqM (ifM (tNotM (truM (argV (callP 2 (m__law_like 6) (argC (argV (eIx (argV (eIx (argN 8) (rdV 9))) (cst (.int 0)))) (argC (argV (callP 2 m__law_plus (argC (argV (eIx (argV (eIx (argN 6) (rdV 9))) (cst (.int 0)))) (argC (argV (callP 2 m__law_low (argC (argV (eBin mulD (eIx (argN 11) (cst (.int 0))) (rdV 12))) (argC (argV (eIx (argN 11) (cst (.int 1)))) (mret []))))) (mret []))))) (mret []))))))) (retM (cst (.bl false))) (mret .nx)) (ifM (tNotM (truM (argV (callP 2 (m__law_like 6) (argC (argV (callP 2 m__law_minus (argC (argV (eIx (argV (eIx (argN 8) (rdV 9))) (cst (.int 1)))) (argC (argV (eIx (argV (eIx (argN 8) (rdV 9))) (cst (.int 0)))) (mret []))))) (argC (argV (rdV 11)) (mret []))))))) (retM (cst (.bl false))) (mret .nx)))))
def b__law_nested : M Bx Fl := seqM (asgM 4 (eIfM (tstB (eBinB eqD (argN 2) (argV (cst (.int 1))))) (rdV 1) (eBin mulD (rdV 1) (rdV 1)))) (seqM (asgM 5 (callB 2 m__law_draw (argC (argV (rdV 0)) (argC (argV (eBin addD (eAppB lenF (argC (argN 3) (mret []))) (cst (.int 1)))) (mret []))))) (seqM (ifM (tNotM (truM (argV (callP 2 m__law_within (argC (argV (callP 3 m_cell (argC (argV (rdV 1)) (argC (argV (rdV 2)) (argC (argV (rdV 3)) (mret [])))))) (argC (argV (callP 3 m__law_ends (argC (argV (rdV 1)) (argC (argV (rdV 2)) (argC (argV (eSl (argN 3) (mret none) (partM (rdV 5)))) (mret [])))))) (mret []))))))) (retM (cst (.bl false))) (mret .nx)) (seqM (parM [6, 7] (lstC (callP 3 m__law_ends (argC (argV (rdV 1)) (argC (argV (rdV 2)) (argC (argV (eSl (argN 3) (mret none) (partM (rdV 5)))) (mret []))))) (lstC (callB 2 m__law_draw (argC (argV (rdV 0)) (argC (argV (rdV 4)) (mret [])))) (mret [])))) (seqM (asgM 8 (callP 3 m_cell (argC (argV (rdV 1)) (argC (argV (rdV 2)) (argC (argV (eBin addD (eSl (argN 3) (mret none) (partM (rdV 5))) (eApp tupD (lstC (rdV 7) (mret []))))) (mret [])))))) (seqM (forM (rngM1 (lstC (rdV 2) (mret []))) q__law_nested_1t q__law_nested_2b) (retM (cst (.bl true))))))))
def m__law_nested : DefM Bx := runDef 13 b__law_nested
theorem d__law_nested {P : Program} {w : World} {K : PySem.W.Frag} {mg : Str → Option Value} {base : Heap} (FD : Fd K mg "_law_nested" s__law_nested) (B : Bl mg) (c_cell : Dx P w K mg base 3 "cell" s_cell ["base", "width", "word"] m_cell) (c__law_draw : Dx P w K mg base 1 "_law_draw" s__law_draw ["box", "size"] m__law_draw) (c__law_like : Dx P w K mg base 6 "_law_like" s__law_like ["told", "due"] (m__law_like 6)) (c__law_low : Dx P w K mg base 1 "_law_low" s__law_low ["p", "q"] m__law_low) (c__law_plus : Dx P w K mg base 2 "_law_plus" s__law_plus ["x", "y"] m__law_plus) (c__law_minus : Dx P w K mg base 2 "_law_minus" s__law_minus ["x", "y"] m__law_minus) (c__law_digit : Dx P w K mg base 1 "_law_digit" s__law_digit ["b", "k", "a", "i"] m__law_digit) (c__law_ends : Dx P w K mg base 2 "_law_ends" s__law_ends ["b", "k", "signs"] m__law_ends) (c__law_within : Dx P w K mg base 3 "_law_within" s__law_within ["x", "y"] m__law_within) : Dx P w K mg base 7 "_law_nested" s__law_nested ["box", "b", "k", "signs"] m__law_nested :=
  dx_mk ["box", "b", "k", "signs", "size", "at", "sides", "a", "told", "i", "wide", "step", "d"] FD sc__law_nested (fun _ _ _ _ _ _ us hl => match us, hl with | [_, _, _, _], _ => rfl) fun f cdv A outer s H E g hG hr =>
    (ss_cons (s_asg 4 sc__law_nested.nd (e_if (t_cmpB (c_eq hr.units) (b_n 2) (b_e e_int)) (e_v 1) (e_mul (e_v 1) (e_v 1)))) (ss_cons (s_asg 5 sc__law_nested.nd (e_cB hG c__law_draw hr (takes_of rfl rfl rfl rfl) (a_cons (b_e (e_v 0)) (a_cons (b_e (e_add (e_bltB b_len (by rfl) B.len (by decide +kernel) (a_cons (b_n 3) a_nil)) e_int)) a_nil)))) (ss_cons (s_if (t_not (t_tru (b_e (e_cP c__law_within hr (takes_of rfl rfl rfl rfl) (a_cons (b_e (e_cP c_cell hr (takes_of rfl rfl rfl rfl) (a_cons (b_e (e_v 1)) (a_cons (b_e (e_v 2)) (a_cons (b_e (e_v 3)) a_nil))))) (a_cons (b_e (e_cP c__law_ends hr (takes_of rfl rfl rfl rfl) (a_cons (b_e (e_v 1)) (a_cons (b_e (e_v 2)) (a_cons (b_e (e_sl (b_n 3) p_none (p_some (e_v 5)))) a_nil))))) a_nil)))))) (ss_one (s_ret e_bl)) ss_nil) (ss_cons (s_par sc__law_nested.nd (l_cons (e_cP c__law_ends hr (takes_of rfl rfl rfl rfl) (a_cons (b_e (e_v 1)) (a_cons (b_e (e_v 2)) (a_cons (b_e (e_sl (b_n 3) p_none (p_some (e_v 5)))) a_nil)))) (l_cons (e_cB hG c__law_draw hr (takes_of rfl rfl rfl rfl) (a_cons (b_e (e_v 0)) (a_cons (b_e (e_v 4)) a_nil))) l_nil))) (ss_cons (s_asg 8 sc__law_nested.nd (e_cP c_cell hr (takes_of rfl rfl rfl rfl) (a_cons (b_e (e_v 1)) (a_cons (b_e (e_v 2)) (a_cons (b_e (e_add (e_sl (b_n 3) p_none (p_some (e_v 5))) (e_tup (l_cons (e_v 7) l_nil)))) a_nil))))) (ss_cons (s_for (passes_of rfl) rfl (i_range1 B.range (l_cons (e_v 2) l_nil)) (g_name 9 sc__law_nested.nd) (ss_cons (s_asg 10 sc__law_nested.nd (e_cP c__law_minus hr (takes_of rfl rfl rfl rfl) (a_cons (b_e (e_ix (b_e (e_ix (b_n 6) (e_v 9))) e_int)) (a_cons (b_e (e_ix (b_e (e_ix (b_n 6) (e_v 9))) e_int)) a_nil)))) (ss_cons (s_asg 11 sc__law_nested.nd (e_cP c__law_low hr (takes_of rfl rfl rfl rfl) (a_cons (b_e (e_ix (b_n 10) e_int)) (a_cons (b_e (e_mul (e_ix (b_n 10) e_int) (e_v 1))) a_nil)))) (ss_cons (s_asg 12 sc__law_nested.nd (e_cP c__law_digit hr (takes_of rfl rfl rfl rfl) (a_cons (b_e (e_v 1)) (a_cons (b_e (e_v 2)) (a_cons (b_e (e_v 7)) (a_cons (b_e (e_v 9)) a_nil)))))) (ss_cons (s_if (t_not (t_tru (b_e (e_cP c__law_like hr (takes_of rfl rfl rfl rfl) (a_cons (b_e (e_ix (b_e (e_ix (b_n 8) (e_v 9))) e_int)) (a_cons (b_e (e_cP c__law_plus hr (takes_of rfl rfl rfl rfl) (a_cons (b_e (e_ix (b_e (e_ix (b_n 6) (e_v 9))) e_int)) (a_cons (b_e (e_cP c__law_low hr (takes_of rfl rfl rfl rfl) (a_cons (b_e (e_mul (e_ix (b_n 11) e_int) (e_v 12))) (a_cons (b_e (e_ix (b_n 11) e_int)) a_nil)))) a_nil)))) a_nil)))))) (ss_one (s_ret e_bl)) ss_nil) (ss_one (s_if (t_not (t_tru (b_e (e_cP c__law_like hr (takes_of rfl rfl rfl rfl) (a_cons (b_e (e_cP c__law_minus hr (takes_of rfl rfl rfl rfl) (a_cons (b_e (e_ix (b_e (e_ix (b_n 8) (e_v 9))) e_int)) (a_cons (b_e (e_ix (b_e (e_ix (b_n 8) (e_v 9))) e_int)) a_nil)))) (a_cons (b_e (e_v 11)) a_nil)))))) (ss_one (s_ret e_bl)) ss_nil))))))) (ss_one (s_ret e_bl))))))))
abbrev s__law_points_asked : Stmt := topS 33
theorem sc__law_points_asked : FnScope ["box", "b", "k", "most", "many", "level", "under", "row", "due", "j", "x"] ["box", "b", "k"] (defScope s__law_points_asked) := ⟨rfl, rfl, rfl, by decide +kernel, rfl, by decide +kernel, by decide +kernel⟩
def q__law_points_asked_1t : D → M Bx Unit := (fun d => stV 5 (.v d))
def q__law_points_asked_2b : M Bx Fl := ifM (tstB (eBinB leD (argV (callP 2 m__law_power (argC (argV (rdV 1)) (argC (argV (rdV 5)) (mret []))))) (argN 3))) (asgM 4 (rdV 5)) (mret .nx)
def q__law_points_asked_3t : D → M Bx Unit := (fun d => stV 9 (.v d))
def q__law_points_asked_4e : M Bx RV := callP 2 m__law_low (argC (argV (rdV 9)) (argC (argV (rdV 6)) (mret [])))
def q__law_points_asked_5t : D → M Bx Unit := (fun d => stV 10 (.v d))
def q__law_points_asked_6e : M Bx RV := eApp tupD (lstC (rdV 10) (mret []))
def q__law_points_asked_7t : D → M Bx Unit := (fun d => stV 9 (.v d))
def q__law_points_asked_8e : M Bx RV := eApp tupD (lstC (eIx (argN 7) (eBin fdivD (rdV 9) (eAppB lenF (argC (argN 7) (mret []))))) (lstC (eIx (argN 7) (eBin modD (eAppB intF (argC (argN 9) (mret []))) (eAppB lenF (argC (argN 7) (mret []))))) (mret [])))
def b__law_points_asked : M Bx Fl := seqM (parM [3, 4] (lstC (eIfM (tstB (eBinB eqD (argN 2) (argV (cst (.int 1))))) (cst (.int 200)) (cst (.int 14))) (lstC (cst (.int 0)) (mret [])))) (seqM (forM (rngM2 (lstC (cst (.int 1)) (lstC (cst (.int 9)) (mret [])))) q__law_points_asked_1t q__law_points_asked_2b) (seqM (asgM 4 (callB 2 m__law_draw (argC (argV (rdV 0)) (argC (argV (eBin addD (rdV 4) (cst (.int 1)))) (mret []))))) (seqM (asgM 6 (callP 2 m__law_power (argC (argV (rdV 1)) (argC (argV (rdV 4)) (mret []))))) (seqM (asgM 7 (lcM [9] (rngM1 (lstC (eBin addD (rdV 6) (cst (.int 1))) (mret []))) q__law_points_asked_3t (mret true) q__law_points_asked_4e)) (seqM (asgM 8 (lcM [10] (itM (rdV 7)) q__law_points_asked_5t (mret true) q__law_points_asked_6e)) (seqM (ifM (tstB (eBinB eqD (argN 2) (argV (cst (.int 2))))) (asgM 8 (lcM [9] (rngM1 (lstC (eBin mulD (eAppB lenF (argC (argN 7) (mret []))) (eAppB lenF (argC (argN 7) (mret [])))) (mret []))) q__law_points_asked_7t (mret true) q__law_points_asked_8e)) (mret .nx)) (retM (eAndM (callP 2 (m__law_like 6) (argC (argV (callG 3 m_level_points (dflM [] (argC (argV (rdV 1)) (argC (argV (rdV 2)) (argC (argV (rdV 4)) (mret []))))))) (argC (argV (rdV 8)) (mret [])))) (callP 2 (m__law_like 6) (argC (argV (callG 3 m_level_points (kwA 0 3 [2, 1, 0] (mret []) (argC (argV (rdV 4)) (argC (argV (rdV 2)) (argC (argV (rdV 1)) (mret []))))))) (argC (argV (rdV 8)) (mret []))))))))))))
def m__law_points_asked : DefM Bx := runDef 11 b__law_points_asked
theorem d__law_points_asked {P : Program} {w : World} {K : PySem.W.Frag} {mg : Str → Option Value} {base : Heap} (FD : Fd K mg "_law_points_asked" s__law_points_asked) (B : Bl mg) (c_level_points : Gx P w K mg base 2 "level_points" s_level_points ["base", "width", "n"] [] m_level_points) (c__law_draw : Dx P w K mg base 1 "_law_draw" s__law_draw ["box", "size"] m__law_draw) (c__law_like : Dx P w K mg base 6 "_law_like" s__law_like ["told", "due"] (m__law_like 6)) (c__law_low : Dx P w K mg base 1 "_law_low" s__law_low ["p", "q"] m__law_low) (c__law_power : Dx P w K mg base 1 "_law_power" s__law_power ["b", "many"] m__law_power) : Dx P w K mg base 7 "_law_points_asked" s__law_points_asked ["box", "b", "k"] m__law_points_asked :=
  dx_mk ["box", "b", "k", "most", "many", "level", "under", "row", "due", "j", "x"] FD sc__law_points_asked (fun _ _ _ _ _ _ us hl => match us, hl with | [_, _, _], _ => rfl) fun f cdv A outer s H E g hG hr =>
    (ss_cons (s_par sc__law_points_asked.nd (l_cons (e_if (t_cmpB (c_eq hr.units) (b_n 2) (b_e e_int)) e_int e_int) (l_cons e_int l_nil))) (ss_cons (s_for (passes_of rfl) rfl (i_range2 B.range (l_cons e_int (l_cons e_int l_nil))) (g_name 5 sc__law_points_asked.nd) (ss_one (s_if (t_cmpB c_le (b_e (e_cP c__law_power hr (takes_of rfl rfl rfl rfl) (a_cons (b_e (e_v 1)) (a_cons (b_e (e_v 5)) a_nil)))) (b_n 3)) (ss_one (s_asg 4 sc__law_points_asked.nd (e_v 5))) ss_nil))) (ss_cons (s_asg 4 sc__law_points_asked.nd (e_cB hG c__law_draw hr (takes_of rfl rfl rfl rfl) (a_cons (b_e (e_v 0)) (a_cons (b_e (e_add (e_v 4) e_int)) a_nil)))) (ss_cons (s_asg 6 sc__law_points_asked.nd (e_cP c__law_power hr (takes_of rfl rfl rfl rfl) (a_cons (b_e (e_v 1)) (a_cons (b_e (e_v 4)) a_nil)))) (ss_cons (s_asg 7 sc__law_points_asked.nd (e_lc [("j", 9)] sc__law_points_asked.nd (i_range1 B.range (l_cons (e_add (e_v 6) e_int) l_nil)) (fun F s H C cl fp => (g_name 9 sc__law_points_asked.nd)) bt_nil (fun F s H C cl fp => (e_cP c__law_low hr takes0 (a_cons (b_e (e_v 9)) (a_cons (b_e (e_v 6)) a_nil)))) (ok := blkOk_by (N := ["box", "b", "k", "most", "many", "level", "under", "row", "due", "j", "x"]) (sc := defScope s__law_points_asked) (by decide +kernel)))) (ss_cons (s_setLc 8 [("x", 10)] sc__law_points_asked.nd (i_seq (e_v 7)) (fun F s H C cl fp => (g_name 10 sc__law_points_asked.nd)) bt_nil (fun F s H C cl fp => (e_tup (l_cons (e_v 10) l_nil))) (ok := blkOk_by (N := ["box", "b", "k", "most", "many", "level", "under", "row", "due", "j", "x"]) (sc := defScope s__law_points_asked) (by decide +kernel))) (ss_cons (s_if (t_cmpB (c_eq hr.units) (b_n 2) (b_e e_int)) (ss_one (s_setLc 8 [("j", 9)] sc__law_points_asked.nd (i_range1 B.range (l_cons (e_mul (e_bltB b_len (by rfl) B.len (by decide +kernel) (a_cons (b_n 7) a_nil)) (e_bltB b_len (by rfl) B.len (by decide +kernel) (a_cons (b_n 7) a_nil))) l_nil)) (fun F s H C cl fp => (g_name 9 sc__law_points_asked.nd)) bt_nil (fun F s H C cl fp => (e_tup (l_cons (e_ix (b_n 7) (e_fdiv (e_v 9) (e_bltB b_len (by rfl) B.len (by decide +kernel) (a_cons (b_n 7) a_nil)))) (l_cons (e_ix (b_n 7) (e_mod (e_bltT b_int (by rfl) B.int (by decide +kernel) (a_cons (b_n 9) a_nil)) (e_bltB b_len (by rfl) B.len (by decide +kernel) (a_cons (b_n 7) a_nil)))) l_nil)))) (ok := blkOk_by (N := ["box", "b", "k", "most", "many", "level", "under", "row", "due", "j", "x"]) (sc := defScope s__law_points_asked) (by decide +kernel)))) ss_nil) (ss_one (s_ret (e_and (e_cP c__law_like hr (takes_of rfl rfl rfl rfl) (a_cons (b_e (e_gP c_level_points hr B.list (a_cons (b_e (e_v 1)) (a_cons (b_e (e_v 2)) (a_cons (b_e (e_v 4)) a_nil))))) (a_cons (b_e (e_v 8)) a_nil))) (e_one (e_cP c__law_like hr (takes_of rfl rfl rfl rfl) (a_cons (b_e (e_gK0 (ks := ["n", "width", "base"]) [2, 1, 0] c_level_points hr B.list (fun _ _ _ _ _ _ us ws hl hw => match us, ws, hl, hw with | [], [_, _, _], _, _ => rfl) (k_cons (b_e (e_v 4)) (k_cons (b_e (e_v 2)) (k_cons (b_e (e_v 1)) k_nil))))) (a_cons (b_e (e_v 8)) a_nil))))))))))))))
abbrev s__law_word_at : Stmt := topS 34
theorem sc__law_word_at : FnScope ["size", "many", "j", "signs", "rest", "turn"] ["size", "many", "j"] (defScope s__law_word_at) := ⟨rfl, rfl, rfl, by decide +kernel, rfl, by decide +kernel, by decide +kernel⟩
def q__law_word_at_1t : D → M Unit Unit := (fun d => stV 5 (.v d))
def q__law_word_at_2b : M Unit Fl := seqM (dropM (metM 3 appendF (lstC (eBin modD (eAppB intF (argC (argN 4) (mret []))) (rdV 0)) (mret [])))) (asgM 4 (eBin fdivD (rdV 4) (rdV 0)))
def b__law_word_at : M Unit Fl := seqM (parO 3 4 (eApp lstD (mret [])) (rdV 2)) (seqM (forM (rngM1 (lstC (rdV 1) (mret []))) q__law_word_at_1t q__law_word_at_2b) (seqM (dropM (metM 3 reverseF (mret []))) (retM (eAppB tupleF (argC (argV (rdV 3)) (mret []))))))
def m__law_word_at : DefM Unit := runDef 6 b__law_word_at
theorem d__law_word_at {P : Program} {w : World} {K : PySem.W.Frag} {mg : Str → Option Value} {base : Heap} (FD : Fd K mg "_law_word_at" s__law_word_at) (B : Bl mg)  : Dx P w K mg base 1 "_law_word_at" s__law_word_at ["size", "many", "j"] m__law_word_at :=
  dx_mk ["size", "many", "j", "signs", "rest", "turn"] FD sc__law_word_at (fun _ _ _ _ _ _ us hl => match us, hl with | [_, _, _], _ => rfl) fun f cdv A outer s H E g hG hr =>
    (ss_cons (s_parO sc__law_word_at.nd (e_lst l_nil) (fun F => (e_v 2))) (ss_cons (s_for (passes_of rfl) rfl (i_range1 B.range (l_cons (e_v 1) l_nil)) (g_name 5 sc__law_word_at.nd) (ss_cons (s_expr (e_met 3 m_append (l_cons (e_mod (e_bltT b_int (by rfl) B.int (by decide +kernel) (a_cons (b_n 4) a_nil)) (e_v 0)) l_nil))) (ss_one (s_asg 4 sc__law_word_at.nd (e_fdiv (e_v 4) (e_v 0)))))) (ss_cons (s_expr (e_met0 3 m_reverse)) (ss_one (s_ret (e_bltT b_tuple (by rfl) B.tuple (by decide +kernel) (a_cons (b_e (e_v 3)) a_nil)))))))
abbrev s__law_words_asked : Stmt := topS 35
theorem sc__law_words_asked : FnScope ["box", "b", "k", "size", "many", "turn", "due", "ahead", "more", "short", "j"] ["box", "b", "k"] (defScope s__law_words_asked) := ⟨rfl, rfl, rfl, by decide +kernel, rfl, by decide +kernel, by decide +kernel⟩
def q__law_words_asked_1t : D → M Bx Unit := (fun d => stV 5 (.v d))
def q__law_words_asked_2b : M Bx Fl := ifM (tstB (eBinB leD (argV (callP 2 m__law_power (argC (argV (rdV 3)) (argC (argV (rdV 5)) (mret []))))) (argV (cst (.int 130))))) (asgM 4 (rdV 5)) (mret .nx)
def q__law_words_asked_3t : D → M Bx Unit := (fun d => stV 10 (.v d))
def q__law_words_asked_4e : M Bx RV := callP 3 m__law_word_at (argC (argV (rdV 3)) (argC (argV (rdV 4)) (argC (argV (rdV 10)) (mret []))))
def q__law_words_asked_5t : D → M Bx Unit := (fun d => stV 10 (.v d))
def q__law_words_asked_6e : M Bx RV := eBin addD (rdV 7) (callP 3 m__law_word_at (argC (argV (rdV 3)) (argC (argV (eBin subD (rdV 8) (eAppB lenF (argC (argN 7) (mret []))))) (argC (argV (rdV 10)) (mret [])))))
def b__law_words_asked : M Bx Fl := seqM (asgT (eApp tupD (lstC (eIfM (tstB (eBinB eqD (argN 2) (argV (cst (.int 1))))) (rdV 1) (eBin mulD (rdV 1) (rdV 1))) (lstC (cst (.int 0)) (mret [])))) (gtM 2 (gsC (fun d => stV 3 (.v d)) (gsC (fun d => stV 4 (.v d)) (fun ds => match ds with | [] => mret () | _ => mbad))))) (seqM (forM (rngM2 (lstC (cst (.int 1)) (lstC (cst (.int 8)) (mret [])))) q__law_words_asked_1t q__law_words_asked_2b) (seqM (asgM 4 (callB 2 m__law_draw (argC (argV (rdV 0)) (argC (argV (eBin addD (rdV 4) (cst (.int 1)))) (mret []))))) (seqM (asgM 6 (lcM [10] (rngM1 (lstC (callP 2 m__law_power (argC (argV (rdV 3)) (argC (argV (rdV 4)) (mret [])))) (mret []))) q__law_words_asked_3t (mret true) q__law_words_asked_4e)) (seqM (ifM (tNotM (truM (argV (callP 2 (m__law_like 6) (argC (argV (callG 4 m_words_of (dflM [.tup []] (argC (argV (rdV 1)) (argC (argV (rdV 2)) (argC (argV (rdV 4)) (mret []))))))) (argC (argV (rdV 6)) (mret []))))))) (retM (cst (.bl false))) (mret .nx)) (seqM (asgM 7 (callB 3 m__law_signs (argC (argV (rdV 0)) (argC (argV (rdV 3)) (argC (argV (callB 2 m__law_draw (argC (argV (rdV 0)) (argC (argV (cst (.int 9))) (mret []))))) (mret [])))))) (seqM (asgM 8 (eBin addD (eAppB lenF (argC (argN 7) (mret []))) (callB 2 m__law_draw (argC (argV (rdV 0)) (argC (argV (eBin addD (rdV 4) (cst (.int 1)))) (mret [])))))) (seqM (asgM 6 (lcM [10] (rngM1 (lstC (callP 2 m__law_power (argC (argV (rdV 3)) (argC (argV (eBin subD (rdV 8) (eAppB lenF (argC (argN 7) (mret []))))) (mret [])))) (mret []))) q__law_words_asked_5t (mret true) q__law_words_asked_6e)) (seqM (ifM (tOrM (tNotM (truM (argV (callP 2 (m__law_like 6) (argC (argV (callG 4 m_words_of (kwA 3 1 [0, 1, 2, 3] (argC (argV (rdV 1)) (argC (argV (rdV 2)) (argC (argV (rdV 8)) (mret [])))) (argC (argV (rdV 7)) (mret []))))) (argC (argV (rdV 6)) (mret []))))))) (tNotM (truM (argV (callP 2 (m__law_like 6) (argC (argV (callG 4 m_words_of (kwA 0 4 [3, 2, 1, 0] (mret []) (argC (argV (eAppB listF (argC (argV (rdV 7)) (mret [])))) (argC (argV (rdV 8)) (argC (argV (rdV 2)) (argC (argV (rdV 1)) (mret [])))))))) (argC (argV (rdV 6)) (mret [])))))))) (retM (cst (.bl false))) (mret .nx)) (seqM (ifM (tstB (eBinB eqD (argN 7) (argV (eApp tupD (mret []))))) (retM (callP 2 (m__law_like 6) (argC (argV (eApp lstD (lstC (callG 4 m_words_of (dflM [.tup []] (argC (argV (rdV 1)) (argC (argV (rdV 2)) (argC (argV (cst (.int 0))) (mret [])))))) (lstC (callG 4 m_words_of (kwA 3 1 [0, 1, 2, 3] (argC (argV (rdV 1)) (argC (argV (rdV 2)) (argC (argV (cst (.int 0))) (mret [])))) (argC (argV (rdV 7)) (mret [])))) (mret []))))) (argC (argV (eApp lstD (lstC (eApp lstD (lstC (eApp tupD (mret [])) (mret []))) (lstC (eApp lstD (lstC (eApp tupD (mret [])) (mret []))) (mret []))))) (mret []))))) (mret .nx)) (seqM (asgM 9 (callB 2 m__law_draw (argC (argV (rdV 0)) (argC (argV (eAppB lenF (argC (argN 7) (mret [])))) (mret []))))) (retM (callP 2 (m__law_like 6) (argC (argV (eApp lstD (lstC (callG 4 m_words_of (kwA 3 1 [0, 1, 2, 3] (argC (argV (rdV 1)) (argC (argV (rdV 2)) (argC (argV (rdV 9)) (mret [])))) (argC (argV (rdV 7)) (mret [])))) (lstC (callG 4 m_words_of (kwA 3 1 [0, 1, 2, 3] (argC (argV (rdV 1)) (argC (argV (rdV 2)) (argC (argV (eAppB lenF (argC (argN 7) (mret [])))) (mret [])))) (argC (argV (rdV 7)) (mret [])))) (mret []))))) (argC (argV (eApp lstD (lstC (eApp lstD (mret [])) (lstC (eApp lstD (lstC (rdV 7) (mret []))) (mret []))))) (mret [])))))))))))))))
def m__law_words_asked : DefM Bx := runDef 11 b__law_words_asked
theorem d__law_words_asked {P : Program} {w : World} {K : PySem.W.Frag} {mg : Str → Option Value} {base : Heap} (FD : Fd K mg "_law_words_asked" s__law_words_asked) (B : Bl mg) (c_words_of : Gx P w K mg base 2 "words_of" s_words_of ["base", "width", "length", "behind"] [.tup []] m_words_of) (c__law_draw : Dx P w K mg base 1 "_law_draw" s__law_draw ["box", "size"] m__law_draw) (c__law_like : Dx P w K mg base 6 "_law_like" s__law_like ["told", "due"] (m__law_like 6)) (c__law_power : Dx P w K mg base 1 "_law_power" s__law_power ["b", "many"] m__law_power) (c__law_signs : Dx P w K mg base 2 "_law_signs" s__law_signs ["box", "size", "many"] m__law_signs) (c__law_word_at : Dx P w K mg base 1 "_law_word_at" s__law_word_at ["size", "many", "j"] m__law_word_at) : Dx P w K mg base 7 "_law_words_asked" s__law_words_asked ["box", "b", "k"] m__law_words_asked :=
  dx_mk ["box", "b", "k", "size", "many", "turn", "due", "ahead", "more", "short", "j"] FD sc__law_words_asked (fun _ _ _ _ _ _ us hl => match us, hl with | [_, _, _], _ => rfl) fun f cdv A outer s H E g hG hr =>
    (ss_cons (s_asgT (e_tup (l_cons (e_if (t_cmpB (c_eq hr.units) (b_n 2) (b_e e_int)) (e_v 1) (e_mul (e_v 1) (e_v 1))) (l_cons e_int l_nil))) (g_tup rfl (gs_cons (g_name 3 sc__law_words_asked.nd) (gs_cons (g_name 4 sc__law_words_asked.nd) gs_nil)))) (ss_cons (s_for (passes_of rfl) rfl (i_range2 B.range (l_cons e_int (l_cons e_int l_nil))) (g_name 5 sc__law_words_asked.nd) (ss_one (s_if (t_cmpB c_le (b_e (e_cP c__law_power hr (takes_of rfl rfl rfl rfl) (a_cons (b_e (e_v 3)) (a_cons (b_e (e_v 5)) a_nil)))) (b_e e_int)) (ss_one (s_asg 4 sc__law_words_asked.nd (e_v 5))) ss_nil))) (ss_cons (s_asg 4 sc__law_words_asked.nd (e_cB hG c__law_draw hr (takes_of rfl rfl rfl rfl) (a_cons (b_e (e_v 0)) (a_cons (b_e (e_add (e_v 4) e_int)) a_nil)))) (ss_cons (s_setLc 6 [("j", 10)] sc__law_words_asked.nd (i_range1 B.range (l_cons (e_cP c__law_power hr (takes_of rfl rfl rfl rfl) (a_cons (b_e (e_v 3)) (a_cons (b_e (e_v 4)) a_nil))) l_nil)) (fun F s H C cl fp => (g_name 10 sc__law_words_asked.nd)) bt_nil (fun F s H C cl fp => (e_cP c__law_word_at hr takes0 (a_cons (b_e (e_v 3)) (a_cons (b_e (e_v 4)) (a_cons (b_e (e_v 10)) a_nil))))) (ok := blkOk_by (N := ["box", "b", "k", "size", "many", "turn", "due", "ahead", "more", "short", "j"]) (sc := defScope s__law_words_asked) (by decide +kernel))) (ss_cons (s_if (t_not (t_tru (b_e (e_cP c__law_like hr (takes_of rfl rfl rfl rfl) (a_cons (b_e (e_gP c_words_of hr B.list (a_cons (b_e (e_v 1)) (a_cons (b_e (e_v 2)) (a_cons (b_e (e_v 4)) a_nil))))) (a_cons (b_e (e_v 6)) a_nil)))))) (ss_one (s_ret e_bl)) ss_nil) (ss_cons (s_asg 7 sc__law_words_asked.nd (e_cB hG c__law_signs hr (takes_of rfl rfl rfl rfl) (a_cons (b_e (e_v 0)) (a_cons (b_e (e_v 3)) (a_cons (b_e (e_cB hG c__law_draw hr (takes_of rfl rfl rfl rfl) (a_cons (b_e (e_v 0)) (a_cons (b_e e_int) a_nil)))) a_nil))))) (ss_cons (s_asg 8 sc__law_words_asked.nd (e_add (e_bltB b_len (by rfl) B.len (by decide +kernel) (a_cons (b_n 7) a_nil)) (e_cB hG c__law_draw hr (takes_of rfl rfl rfl rfl) (a_cons (b_e (e_v 0)) (a_cons (b_e (e_add (e_v 4) e_int)) a_nil))))) (ss_cons (s_setLc 6 [("j", 10)] sc__law_words_asked.nd (i_range1 B.range (l_cons (e_cP c__law_power hr (takes_of rfl rfl rfl rfl) (a_cons (b_e (e_v 3)) (a_cons (b_e (e_sub (e_v 8) (e_bltB b_len (by rfl) B.len (by decide +kernel) (a_cons (b_n 7) a_nil)))) a_nil))) l_nil)) (fun F s H C cl fp => (g_name 10 sc__law_words_asked.nd)) bt_nil (fun F s H C cl fp => (e_add (e_v 7) (e_cP c__law_word_at hr takes0 (a_cons (b_e (e_v 3)) (a_cons (b_e (e_sub (e_v 8) (e_bltB b_len (by rfl) B.len (by decide +kernel) (a_cons (b_n 7) a_nil)))) (a_cons (b_e (e_v 10)) a_nil)))))) (ok := blkOk_by (N := ["box", "b", "k", "size", "many", "turn", "due", "ahead", "more", "short", "j"]) (sc := defScope s__law_words_asked) (by decide +kernel))) (ss_cons (s_if (t_w (w_or (t_not (t_tru (b_e (e_cP c__law_like hr (takes_of rfl rfl rfl rfl) (a_cons (b_e (e_gK (ks := ["behind"]) [0, 1, 2, 3] c_words_of hr B.list (fun _ _ _ _ _ _ us ws hl hw => match us, ws, hl, hw with | [_, _, _], [_], _, _ => rfl) (a_cons (b_e (e_v 1)) (a_cons (b_e (e_v 2)) (a_cons (b_e (e_v 8)) a_nil))) (k_cons (b_e (e_v 7)) k_nil))) (a_cons (b_e (e_v 6)) a_nil)))))) (w_or1 (t_not (t_tru (b_e (e_cP c__law_like hr (takes_of rfl rfl rfl rfl) (a_cons (b_e (e_gK0 (ks := ["behind", "length", "width", "base"]) [3, 2, 1, 0] c_words_of hr B.list (fun _ _ _ _ _ _ us ws hl hw => match us, ws, hl, hw with | [], [_, _, _, _], _, _ => rfl) (k_cons (b_e (e_bltT b_list (by rfl) B.list (by decide +kernel) (a_cons (b_e (e_v 7)) a_nil))) (k_cons (b_e (e_v 8)) (k_cons (b_e (e_v 2)) (k_cons (b_e (e_v 1)) k_nil)))))) (a_cons (b_e (e_v 6)) a_nil))))))))) (ss_one (s_ret e_bl)) ss_nil) (ss_cons (s_if (t_cmpB (c_eq hr.units) (b_n 7) (b_e (e_tup l_nil))) (ss_one (s_ret (e_cP c__law_like hr (takes_of rfl rfl rfl rfl) (a_cons (b_e (e_lst (l_cons (e_gP c_words_of hr B.list (a_cons (b_e (e_v 1)) (a_cons (b_e (e_v 2)) (a_cons (b_e e_int) a_nil)))) (l_cons (e_gK (ks := ["behind"]) [0, 1, 2, 3] c_words_of hr B.list (fun _ _ _ _ _ _ us ws hl hw => match us, ws, hl, hw with | [_, _, _], [_], _, _ => rfl) (a_cons (b_e (e_v 1)) (a_cons (b_e (e_v 2)) (a_cons (b_e e_int) a_nil))) (k_cons (b_e (e_v 7)) k_nil)) l_nil)))) (a_cons (b_e (e_lst (l_cons (e_lst (l_cons (e_tup l_nil) l_nil)) (l_cons (e_lst (l_cons (e_tup l_nil) l_nil)) l_nil)))) a_nil))))) ss_nil) (ss_cons (s_asg 9 sc__law_words_asked.nd (e_cB hG c__law_draw hr (takes_of rfl rfl rfl rfl) (a_cons (b_e (e_v 0)) (a_cons (b_e (e_bltB b_len (by rfl) B.len (by decide +kernel) (a_cons (b_n 7) a_nil))) a_nil)))) (ss_one (s_ret (e_cP c__law_like hr (takes_of rfl rfl rfl rfl) (a_cons (b_e (e_lst (l_cons (e_gK (ks := ["behind"]) [0, 1, 2, 3] c_words_of hr B.list (fun _ _ _ _ _ _ us ws hl hw => match us, ws, hl, hw with | [_, _, _], [_], _, _ => rfl) (a_cons (b_e (e_v 1)) (a_cons (b_e (e_v 2)) (a_cons (b_e (e_v 9)) a_nil))) (k_cons (b_e (e_v 7)) k_nil)) (l_cons (e_gK (ks := ["behind"]) [0, 1, 2, 3] c_words_of hr B.list (fun _ _ _ _ _ _ us ws hl hw => match us, ws, hl, hw with | [_, _, _], [_], _, _ => rfl) (a_cons (b_e (e_v 1)) (a_cons (b_e (e_v 2)) (a_cons (b_e (e_bltB b_len (by rfl) B.len (by decide +kernel) (a_cons (b_n 7) a_nil))) a_nil))) (k_cons (b_e (e_v 7)) k_nil)) l_nil)))) (a_cons (b_e (e_lst (l_cons (e_lst l_nil) (l_cons (e_lst (l_cons (e_v 7) l_nil)) l_nil)))) a_nil))))))))))))))))
abbrev s__law_box : Stmt := topS 18
theorem sc__law_box : FnScope ["script", "mixed", "bit"] ["script"] (defScope s__law_box) := ⟨rfl, rfl, rfl, by decide +kernel, rfl, by decide +kernel, by decide +kernel⟩
theorem d__law_box {P : Program} {w : World} {K : PySem.W.Frag} {mg : Str → Option Value} {base : Heap} (FD : Fd K mg "_law_box" s__law_box) (B : Bl mg) : Dbox P w K mg base 1 "_law_box" s__law_box := by
  obtain ⟨f, fd, F, gl⟩ := FD
  refine ⟨f, fd, F, gl, F.ok sc__law_box (fun vs H Q E ⟨a, ns, e, _⟩ => by rw [e]; rfl) (fun cdv A outer s H vs Q E hr h => ⟨tBox K, ?_, box_run h⟩), F.bindsN fun _ _ _ _ _ _ us hl => match us, hl with | [_], _ => rfl⟩
  exact pss_cons (ps_set sc__law_box.nd (i := 1) rfl (Or.inl rfl) pe_int) (pss_cons (ps_for (passes_of rfl) rfl (pi_list (pe_slice sl_list (pe_var (i := 0) rfl (Or.inl rfl)) po_none (po_some pe_int))) (pg_name (i := 2) sc__law_box.nd rfl (Or.inl rfl))
    (pss_one (ps_set (i := 1) sc__law_box.nd rfl (Or.inl rfl) (pe_op op_mod (pe_callTy call_int1 rfl B.int (by decide +kernel) (pa_cons (pe_op op_add (pe_op op_add (pe_op op_mulW (pe_var (i := 1) rfl (Or.inl rfl)) pe_int) (pe_op op_mod (pe_callTy call_int1 rfl B.int (by decide +kernel) (pa_cons (pe_var (i := 2) rfl (Or.inl rfl)) pa_nil)) pe_int)) pe_int) pa_nil)) pe_int))))
    (pss_one (ps_ret (pe_lst (pa_cons (pe_callTy call_list_of rfl B.list (by decide +kernel) (pa_cons (pe_slice sl_list (pe_var (i := 0) rfl (Or.inl rfl)) po_none (po_some pe_int)) pa_nil)) (pa_cons pe_int (pa_cons pe_int (pa_cons (pe_var (i := 1) rfl (Or.inl rfl)) (pa_cons pe_int (pa_cons pe_int pa_nil))))))))))
abbrev s_law : Stmt := topS 36
theorem sc_law : FnScope ["script", "box", "turn", "b", "k", "size", "signs", "many", "alike", "j"] ["script"] (defScope s_law) := ⟨rfl, rfl, rfl, by decide +kernel, rfl, by decide +kernel, by decide +kernel⟩
def q_law_1t : D → M Bx Unit := (fun d => stV 9 (.v d))
def q_law_2e : M Bx RV := rdV 8
def q_law_3t : D → M Bx Unit := (fun d => stV 7 (.v d))
def q_law_4b : M Bx Fl := seqM (asgM 8 (callB 2 m__law_of (argC (argV (rdV 1)) (argC (argV (eApp lstD (lstC (cst (.int 0)) (lstC (eBin subD (rdV 5) (cst (.int 1))) (lstC (callB 2 m__law_draw (argC (argV (rdV 1)) (argC (argV (rdV 5)) (mret [])))) (mret [])))))) (mret []))))) (ifM (tNotM (truM (argV (callB 4 m__law_cell_asked (argC (argV (rdV 1)) (argC (argV (rdV 3)) (argC (argV (rdV 4)) (argC (argV (eAppB tupleF (argC (argV (lcM [9] (rngM1 (lstC (eBin addD (rdV 7) (cst (.int 1))) (mret []))) q_law_1t (mret true) q_law_2e)) (mret [])))) (mret []))))))))) (retM (cst (.bl false))) (mret .nx))
def q_law_5t : D → M Bx Unit := (fun d => stV 2 (.v d))
def q_law_6b : M Bx Fl := seqM (asgT (callB 1 m__law_room (argC (argV (rdV 1)) (mret []))) (gtM 2 (gsC (fun d => stV 3 (.v d)) (gsC (fun d => stV 4 (.v d)) (fun ds => match ds with | [] => mret () | _ => mbad))))) (seqM (asgM 5 (eIfM (tstB (eBinB eqD (argN 4) (argV (cst (.int 1))))) (rdV 3) (eBin mulD (rdV 3) (rdV 3)))) (seqM (asgM 6 (callB 3 m__law_signs (argC (argV (rdV 1)) (argC (argV (rdV 5)) (argC (argV (eIfM (tstB (eBinB eqD (argV (callB 2 m__law_draw (argC (argV (rdV 1)) (argC (argV (cst (.int 10))) (mret []))))) (argV (cst (.int 0))))) (callB 2 m__law_draw (argC (argV (rdV 1)) (argC (argV (cst (.int 300))) (mret [])))) (callB 2 m__law_draw (argC (argV (rdV 1)) (argC (argV (cst (.int 9))) (mret [])))))) (mret [])))))) (seqM (ifM (tOrM (tNotM (truM (argV (callB 4 m__law_cell_asked (argC (argV (rdV 1)) (argC (argV (rdV 3)) (argC (argV (rdV 4)) (argC (argV (rdV 6)) (mret []))))))))) (tNotM (truM (argV (callB 4 m__law_cell_asked (argC (argV (rdV 1)) (argC (argV (rdV 3)) (argC (argV (rdV 4)) (argC (argV (eApp tupD (mret []))) (mret [])))))))))) (retM (cst (.bl false))) (mret .nx)) (seqM (ifM (tOrM (tNotM (truM (argV (callB 4 m__law_nested (argC (argV (rdV 1)) (argC (argV (rdV 3)) (argC (argV (rdV 4)) (argC (argV (eSl (argN 6) (mret none) (partM (cst (.int 40))))) (mret []))))))))) (tOrM (tNotM (truM (argV (callB 3 m__law_points_asked (argC (argV (rdV 1)) (argC (argV (rdV 3)) (argC (argV (rdV 4)) (mret [])))))))) (tNotM (truM (argV (callB 3 m__law_words_asked (argC (argV (rdV 1)) (argC (argV (rdV 3)) (argC (argV (rdV 4)) (mret [])))))))))) (retM (cst (.bl false))) (mret .nx)) (forM (rngM1 (lstC (cst (.int 3)) (mret []))) q_law_3t q_law_4b)))))
def b_law : M Bx Fl := seqM (forM (rngM1 (lstC (cst (.int 3)) (mret []))) q_law_5t q_law_6b) (retM (cst (.bl true)))
theorem d_law {P : Program} {w : World} {K : PySem.W.Frag} {mg : Str → Option Value} {base : Heap} {f : Addr} {fd : FuncData} (F : FunD K "law" "law" (defArgs s_law) (defBody s_law) (defScope s_law) [] [] f fd) (B : Bl mg) (c_box : Dbox P w K mg base 1 "_law_box" s__law_box) (c__law_draw : Dx P w K mg base 1 "_law_draw" s__law_draw ["box", "size"] m__law_draw) (c__law_of : Dx P w K mg base 2 "_law_of" s__law_of ["box", "menu"] m__law_of) (c__law_signs : Dx P w K mg base 2 "_law_signs" s__law_signs ["box", "size", "many"] m__law_signs) (c__law_room : Dx P w K mg base 2 "_law_room" s__law_room ["box"] m__law_room) (c__law_cell_asked : Dx P w K mg base 7 "_law_cell_asked" s__law_cell_asked ["box", "b", "k", "signs"] m__law_cell_asked) (c__law_nested : Dx P w K mg base 7 "_law_nested" s__law_nested ["box", "b", "k", "signs"] m__law_nested) (c__law_points_asked : Dx P w K mg base 7 "_law_points_asked" s__law_points_asked ["box", "b", "k"] m__law_points_asked) (c__law_words_asked : Dx P w K mg base 7 "_law_words_asked" s__law_words_asked ["box", "b", "k"] m__law_words_asked) (hm : ∀ ns : List Int, ns.length ≤ 63 → lawR 10 b_law ns) : FnOk P w K mg base (L2.CX P w) 8 f fd ["script"] (spLaw K) :=
  F.ok sc_law (fun vs H Q E ⟨a, ns, e, _⟩ => by rw [e]; rfl) (fun cdv A outer s H vs Q E hr h => ⟨_, pss_cons (ps_box (W := fun c d _ H => E c d H) (i := 1) (j := 0) c_box hr (takes_of rfl rfl rfl rfl) sc_law.nd) (ss_lw (W := fun c d _ H => E c d H) fun g hG =>
    (ss_cons (s_for (passes_of rfl) rfl (i_range1 B.range (l_cons e_int l_nil)) (g_name 2 sc_law.nd) (ss_cons (s_asgT (e_cB hG c__law_room hr (takes_of rfl rfl rfl rfl) (a_cons (b_e (e_v 1)) a_nil)) (g_tup rfl (gs_cons (g_name 3 sc_law.nd) (gs_cons (g_name 4 sc_law.nd) gs_nil)))) (ss_cons (s_asg 5 sc_law.nd (e_if (t_cmpB (c_eq hr.units) (b_n 4) (b_e e_int)) (e_v 3) (e_mul (e_v 3) (e_v 3)))) (ss_cons (s_asg 6 sc_law.nd (e_cB hG c__law_signs hr (takes_of rfl rfl rfl rfl) (a_cons (b_e (e_v 1)) (a_cons (b_e (e_v 5)) (a_cons (b_e (e_if (t_cmpB (c_eq hr.units) (b_e (e_cB hG c__law_draw hr (takes_of rfl rfl rfl rfl) (a_cons (b_e (e_v 1)) (a_cons (b_e e_int) a_nil)))) (b_e e_int)) (e_cB hG c__law_draw hr (takes_of rfl rfl rfl rfl) (a_cons (b_e (e_v 1)) (a_cons (b_e e_int) a_nil))) (e_cB hG c__law_draw hr (takes_of rfl rfl rfl rfl) (a_cons (b_e (e_v 1)) (a_cons (b_e e_int) a_nil))))) a_nil))))) (ss_cons (s_if (t_w (w_or (t_not (t_tru (b_e (e_cB hG c__law_cell_asked hr (takes_of rfl rfl rfl rfl) (a_cons (b_e (e_v 1)) (a_cons (b_e (e_v 3)) (a_cons (b_e (e_v 4)) (a_cons (b_e (e_v 6)) a_nil)))))))) (w_or1 (t_not (t_tru (b_e (e_cB hG c__law_cell_asked hr (takes_of rfl rfl rfl rfl) (a_cons (b_e (e_v 1)) (a_cons (b_e (e_v 3)) (a_cons (b_e (e_v 4)) (a_cons (b_e (e_tup l_nil)) a_nil))))))))))) (ss_one (s_ret e_bl)) ss_nil) (ss_cons (s_if (t_w (w_or (t_not (t_tru (b_e (e_cB hG c__law_nested hr (takes_of rfl rfl rfl rfl) (a_cons (b_e (e_v 1)) (a_cons (b_e (e_v 3)) (a_cons (b_e (e_v 4)) (a_cons (b_e (e_sl (b_n 6) p_none (p_some e_int))) a_nil)))))))) (w_or (t_not (t_tru (b_e (e_cB hG c__law_points_asked hr (takes_of rfl rfl rfl rfl) (a_cons (b_e (e_v 1)) (a_cons (b_e (e_v 3)) (a_cons (b_e (e_v 4)) a_nil))))))) (w_or1 (t_not (t_tru (b_e (e_cB hG c__law_words_asked hr (takes_of rfl rfl rfl rfl) (a_cons (b_e (e_v 1)) (a_cons (b_e (e_v 3)) (a_cons (b_e (e_v 4)) a_nil))))))))))) (ss_one (s_ret e_bl)) ss_nil) (ss_one (s_for (passes_of rfl) rfl (i_range1 B.range (l_cons e_int l_nil)) (g_name 7 sc_law.nd) (ss_cons (s_asg 8 sc_law.nd (e_cB hG c__law_of hr (takes_of rfl rfl rfl rfl) (a_cons (b_e (e_v 1)) (a_cons (b_e (e_lst (l_cons e_int (l_cons (e_sub (e_v 5) e_int) (l_cons (e_cB hG c__law_draw hr (takes_of rfl rfl rfl rfl) (a_cons (b_e (e_v 1)) (a_cons (b_e (e_v 5)) a_nil))) l_nil))))) a_nil)))) (ss_one (s_if (t_not (t_tru (b_e (e_cB hG c__law_cell_asked hr (takes_of rfl rfl rfl rfl) (a_cons (b_e (e_v 1)) (a_cons (b_e (e_v 3)) (a_cons (b_e (e_v 4)) (a_cons (b_e (e_bltT b_tuple (by rfl) B.tuple (by decide +kernel) (a_cons (b_e (e_lc [("j", 9)] sc_law.nd (i_range1 B.range (l_cons (e_add (e_v 7) e_int) l_nil)) (fun F s H C cl fp => (g_name 9 sc_law.nd)) bt_nil (fun F s H C cl fp => (e_v 8)) (ok := blkOk_by (N := ["script", "box", "turn", "b", "k", "size", "signs", "many", "alike", "j"]) (sc := defScope s_law) (by decide +kernel)))) a_nil))) a_nil)))))))) (ss_one (s_ret e_bl)) ss_nil))))))))))) (ss_one (s_ret e_bl)))), law_run (N := ["script", "box", "turn", "b", "k", "size", "signs", "many", "alike", "j"]) (by decide) hm h⟩)
end K05

set_option Elab.async false
set_option linter.all false
set_option maxRecDepth 100000
set_option maxHeartbeats 0
namespace K05
open PySem PySem.Spec PyProof.Rows L2 DL
abbrev sc_law_n : Nat := 10
def fn : List He.DefD := ([defD "letter_count" s_letter_count, defD "power" s_power, defD "fold" s_fold, defD "digit_of" s_digit_of, defD "digits_for" s_digits_for, defD "fraction" s_fraction, ⟨("words_of", none), "words_of", "words_of", defArgs s_words_of, defBody s_words_of, defScope s_words_of, [], [("behind", .adr (kwAt ("words_of", none) "behind"))]⟩, defD "cell" s_cell, defD "corners_of" s_corners_of, defD "level_points" s_level_points, defD "_law_draw" s__law_draw, defD "_law_of" s__law_of]) ++ ([defD "_law_like" s__law_like, defD "_law_low" s__law_low, defD "_law_plus" s__law_plus, defD "_law_minus" s__law_minus, defD "_law_power" s__law_power, defD "_law_digit" s__law_digit, defD "_law_signs" s__law_signs, defD "_law_room" s__law_room, defD "_law_ends" s__law_ends, defD "_law_cell_asked" s__law_cell_asked, defD "_law_within" s__law_within, defD "_law_nested" s__law_nested]) ++ ([defD "_law_points_asked" s__law_points_asked, defD "_law_word_at" s__law_word_at, defD "_law_words_asked" s__law_words_asked, defD "_law_box" s__law_box, defD "law" s_law])
def fa : List He.Fa := ([.glo "letter_count", .glo "power", .glo "fold", .glo "digit_of", .glo "digits_for", .glo "fraction", .glo "words_of", .glo "cell", .glo "corners_of", .glo "level_points", .glo "_law_draw", .glo "_law_of"]) ++ ([.glo "_law_like", .glo "_law_low", .glo "_law_plus", .glo "_law_minus", .glo "_law_power", .glo "_law_digit", .glo "_law_signs", .glo "_law_room", .glo "_law_ends", .glo "_law_cell_asked", .glo "_law_within", .glo "_law_nested"]) ++ ([.glo "_law_points_asked", .glo "_law_word_at", .glo "_law_words_asked", .glo "_law_box", .glo "law", .free "abs", .free "bool", .free "dict", .free "int", .free "isinstance", .free "len", .free "list"]) ++ ([.free "range", .free "str", .free "tuple"])
def xs : List (PySem.W.Frag → Bool) := [bltB "gcd" "math.gcd", tup0B (kwAt ("words_of", none) "behind")]
abbrev R : PySem.W.OpenRow := PySem.W.OpenLaw.row PySem.Challenge.rw_bendless_k05_cells_and_words
abbrev hk : PySem.W.Hook := hookX 4 fa fn xs
def ob (s : PySem.W.SharedT) : AlX := obsXG 4 fa fn xs (HandSHeadRun.getT s)
theorem ob_eq (s : PySem.W.SharedT) : ob s = hk.obs s.abs := obsXG_eq (HandSHeadRun.getT_eq s)
def loose : List Str := (["letter_count", "power", "fold", "digit_of", "digits_for", "BendlessError", "Unlike", "fraction", "words_of", "cell", "corners_of", "level_points"] : List Str) ++ (["_law_box", "_law_draw", "_law_of", "_law_like", "_law_low", "_law_plus", "_law_minus", "_law_power", "_law_digit", "_law_signs", "_law_room", "_law_ends"] : List Str) ++ (["_law_cell_asked", "_law_within", "_law_nested", "_law_points_asked", "_law_word_at", "_law_words_asked"] : List Str)
theorem run (w : World) : HandSHeadRun.RunEqI R (PySem.W.view R.prog [0, 36]) hk ob 2400 loose w := by
  unfold HandSHeadRun.RunEqI
  kernel_rfl
theorem bl {K : PySem.W.Frag} {h : Heap} {mg : Str → Option Value} (X : K.In h) (G : h.Ns mainGlobals mg) (c : SaysX fa fn xs K) : Bl mg := {
  abs := fr_of X G c.d 29
  bool := fr_of X G c.d 30
  dict := fr_of X G c.d 31
  int := fr_of X G c.d 32
  isinstance := fr_of X G c.d 33
  len := fr_of X G c.d 34
  list := fr_of X G c.d 35
  range := fr_of X G c.d 36
  str := fr_of X G c.d 37
  tuple := fr_of X G c.d 38
  gcd := bltB_ok X G (c.own 0) }
theorem facts {P : Program} {w : World} {K : PySem.W.Frag} {h : Heap} {mg : Str → Option Value} {f : Addr} (X : K.In h) (G : h.Ns mainGlobals mg) (hfa : mg ("law" : Str) = some (.ref f)) (c : SaysX fa fn xs K) (hm : ∀ ns : List Int, ns.length ≤ 63 → lawR sc_law_n b_law ns) :
    ∃ fd : FuncData, (∀ (s : Shared) (v : Value), BindsTo s fd ⟨[v], []⟩ [("script", v)]) ∧ ∀ base : Heap, K.In base → base.Ns mainGlobals mg → FnOk P w K mg base (L2.CX P w) 8 f fd ["script"] (spLaw K) := by
  have B := bl X G c
  have F_letter_count : Fd K mg "letter_count" s_letter_count := fd_of X G c.d 0 0
  have F_power : Fd K mg "power" s_power := fd_of X G c.d 1 1
  have F_fold : Fd K mg "fold" s_fold := fd_of X G c.d 2 2
  have F_digit_of : Fd K mg "digit_of" s_digit_of := fd_of X G c.d 3 3
  have F_digits_for : Fd K mg "digits_for" s_digits_for := fd_of X G c.d 4 4
  have F_fraction : Fd K mg "fraction" s_fraction := fd_of X G c.d 5 5
  have F_words_of : Fk K mg "words_of" s_words_of "behind" (.tup []) := by
    obtain ⟨fd, F⟩ := c.d.def_ 6 (d := ⟨("words_of", none), "words_of", "words_of", defArgs s_words_of, defBody s_words_of, defScope s_words_of, [], [("behind", .adr (kwAt ("words_of", none) "behind"))]⟩) rfl
    exact ⟨_, fd, _, F, He.glo_ok X G (c.d.fact 6 (f := .glo "words_of") rfl), fun bx H => tup0B_ok (c.own 1 (x := tup0B (kwAt ("words_of", none) "behind"))) bx H⟩
  have F_cell : Fd K mg "cell" s_cell := fd_of X G c.d 7 7
  have F_corners_of : Fd K mg "corners_of" s_corners_of := fd_of X G c.d 8 8
  have F_level_points : Fd K mg "level_points" s_level_points := fd_of X G c.d 9 9
  have F__law_draw : Fd K mg "_law_draw" s__law_draw := fd_of X G c.d 10 10
  have F__law_of : Fd K mg "_law_of" s__law_of := fd_of X G c.d 11 11
  have F__law_like : Fd K mg "_law_like" s__law_like := fd_of X G c.d 12 12
  have F__law_low : Fd K mg "_law_low" s__law_low := fd_of X G c.d 13 13
  have F__law_plus : Fd K mg "_law_plus" s__law_plus := fd_of X G c.d 14 14
  have F__law_minus : Fd K mg "_law_minus" s__law_minus := fd_of X G c.d 15 15
  have F__law_power : Fd K mg "_law_power" s__law_power := fd_of X G c.d 16 16
  have F__law_digit : Fd K mg "_law_digit" s__law_digit := fd_of X G c.d 17 17
  have F__law_signs : Fd K mg "_law_signs" s__law_signs := fd_of X G c.d 18 18
  have F__law_room : Fd K mg "_law_room" s__law_room := fd_of X G c.d 19 19
  have F__law_ends : Fd K mg "_law_ends" s__law_ends := fd_of X G c.d 20 20
  have F__law_cell_asked : Fd K mg "_law_cell_asked" s__law_cell_asked := fd_of X G c.d 21 21
  have F__law_within : Fd K mg "_law_within" s__law_within := fd_of X G c.d 22 22
  have F__law_nested : Fd K mg "_law_nested" s__law_nested := fd_of X G c.d 23 23
  have F__law_points_asked : Fd K mg "_law_points_asked" s__law_points_asked := fd_of X G c.d 24 24
  have F__law_word_at : Fd K mg "_law_word_at" s__law_word_at := fd_of X G c.d 25 25
  have F__law_words_asked : Fd K mg "_law_words_asked" s__law_words_asked := fd_of X G c.d 26 26
  have F__law_box : Fd K mg "_law_box" s__law_box := fd_of X G c.d 27 27
  obtain ⟨fd, F⟩ := c.d.def_ 28 (d := defD "law" s_law) rfl
  have e := hfa.symm.trans (He.glo_ok X G (c.d.fact 28 (f := .glo "law") rfl))
  cases e
  have b := FunD.bindsA (ps := ["script"]) F fun _ _ _ _ _ _ us hl => match us, hl with | [_], _ => rfl
  refine ⟨fd, fun s v => b s [v] rfl, fun base _ _ => ?_⟩
  have c_letter_count := d_letter_count (P := P) (w := w) (base := base) F_letter_count B 
  have c_power := d_power (P := P) (w := w) (base := base) F_power B 
  have c_fold := d_fold (P := P) (w := w) (base := base) F_fold B 
  have c_digit_of := d_digit_of (P := P) (w := w) (base := base) F_digit_of B 
  have c_digits_for := d_digits_for (P := P) (w := w) (base := base) F_digits_for B c_digit_of
  have c_fraction := d_fraction (P := P) (w := w) (base := base) F_fraction B 
  have c_words_of := d_words_of (P := P) (w := w) (base := base) F_words_of B c_letter_count
  have c_cell := d_cell (P := P) (w := w) (base := base) F_cell B c_power c_fold c_digits_for c_fraction
  have c_corners_of := d_corners_of (P := P) (w := w) (base := base) F_corners_of B c_cell
  have c_level_points := d_level_points (P := P) (w := w) (base := base) F_level_points B c_power c_fraction
  have c__law_draw := d__law_draw (P := P) (w := w) (base := base) F__law_draw B 
  have c__law_of := d__law_of (P := P) (w := w) (base := base) F__law_of B c__law_draw
  have c__law_like := d__law_like (P := P) (w := w) (base := base) F__law_like B  6
  have c__law_low := d__law_low (P := P) (w := w) (base := base) F__law_low B 
  have c__law_plus := d__law_plus (P := P) (w := w) (base := base) F__law_plus B c__law_low
  have c__law_minus := d__law_minus (P := P) (w := w) (base := base) F__law_minus B c__law_low
  have c__law_power := d__law_power (P := P) (w := w) (base := base) F__law_power B 
  have c__law_digit := d__law_digit (P := P) (w := w) (base := base) F__law_digit B 
  have c__law_signs := d__law_signs (P := P) (w := w) (base := base) F__law_signs B c__law_draw
  have c__law_room := d__law_room (P := P) (w := w) (base := base) F__law_room B c__law_draw
  have c__law_ends := d__law_ends (P := P) (w := w) (base := base) F__law_ends B c__law_low c__law_digit
  have c__law_cell_asked := d__law_cell_asked (P := P) (w := w) (base := base) F__law_cell_asked B c_cell c_corners_of c__law_like c__law_ends
  have c__law_within := d__law_within (P := P) (w := w) (base := base) F__law_within B c__law_minus
  have c__law_nested := d__law_nested (P := P) (w := w) (base := base) F__law_nested B c_cell c__law_draw c__law_like c__law_low c__law_plus c__law_minus c__law_digit c__law_ends c__law_within
  have c__law_points_asked := d__law_points_asked (P := P) (w := w) (base := base) F__law_points_asked B c_level_points c__law_draw c__law_like c__law_low c__law_power
  have c__law_word_at := d__law_word_at (P := P) (w := w) (base := base) F__law_word_at B 
  have c__law_words_asked := d__law_words_asked (P := P) (w := w) (base := base) F__law_words_asked B c_words_of c__law_draw c__law_like c__law_power c__law_signs c__law_word_at
  have c__law_box := d__law_box (P := P) (w := w) (base := base) F__law_box B 
  exact d_law F B c__law_box c__law_draw c__law_of c__law_signs c__law_room c__law_cell_asked c__law_nested c__law_points_asked c__law_words_asked hm
end K05
section
open PySem PySem.W PySem.Calls PyProof.Rows
theorem head_of (hm : ∀ ns : List Int, ns.length ≤ 63 → DL.lawR 10 K05.b_law ns) : PySem.Challenge.rw_bendless_k05_cells_and_words.Holds := by
  w_on; o_law
  refine HandSHeadRun.head_imp (r := OpenLaw.row PySem.Challenge.rw_bendless_k05_cells_and_words) (q := view (OpenLaw.row PySem.Challenge.rw_bendless_k05_cells_and_words).prog [0, 36]) (H := K05.hk) (ob := K05.ob) (M := 2400) (loose := K05.loose) (d := HandSHeadRun.topDef (OpenLaw.row PySem.Challenge.rw_bendless_k05_cells_and_words).prog 36) (kwd := []) K05.ob_eq
    K05.run (by kernel_rfl) (by kernel_rfl) (by kernel_rfl) (by rfl) (by first | assumption | decide +kernel) (by decide +kernel) ⟨rfl, rfl, rfl, rfl, rfl, by decide +kernel⟩ ?hw ?hc
  case hw => w_witness2
  case hc =>
    refine DL.walk_dl (l := PySem.Challenge.rw_bendless_k05_cells_and_words) (n := 63) (k := 8) (x := "script") rfl (by decide) (by kernel_rfl) ⟨rfl, by decide, by decide⟩ ?F
    case F =>
      intro w mg fa h Y G hmg0
      obtain ⟨K, KX, c⟩ := Y
      have hmg : mg ("law" : PySem.Str) = some (.ref fa) := by
        have e : (HandSHeadRun.topDef (OpenLaw.row PySem.Challenge.rw_bendless_k05_cells_and_words).prog 36).name = ("law" : PySem.Str) := by kernel_rfl
        rw [← e]
        exact hmg0
      obtain ⟨fd, hb, hF⟩ := K05.facts (P := (PySem.Challenge.rw_bendless_k05_cells_and_words).prog) (w := w) KX G hmg c hm
      exact ⟨K, fd, DL.spLaw K, KX, hb, fun H a ns hl hS => ⟨a, ns, rfl, hS, hl, fun _ => rfl⟩, hF⟩
end

set_option Elab.async false
set_option linter.all false
set_option maxRecDepth 100000
namespace DL
open PySem PySem.Spec L2
/-! ### mirrors are worked out: one rule a form, at a state that is there -/
def bnd {σ α γ : Type} (o : Out σ α) (k : α → σ → Out σ γ) : Out σ γ := match o with
  | .ok a s => k a s
  | .exc x s => .exc x s
  | .bad => .bad
def optO {σ α : Type} (o : Option α) (s : σ) : Out σ α := match o with
  | some a => .ok a s
  | none => .bad
section
variable {σ α γ β : Type} {a : α} {s : S β} {k : α → σ → Out σ γ} {t : σ} {x : Exc}
@[simp] theorem bnd_ok : bnd (.ok a t) k = k a t := id rfl
@[simp] theorem bnd_exc : bnd (.exc x t : Out σ α) k = .exc x t := id rfl
@[simp] theorem bnd_bad : bnd (.bad : Out σ α) k = .bad := id rfl
@[simp] theorem optO_some : optO (some a) t = .ok a t := id rfl
@[simp] theorem optO_none : (optO (none : Option α) t) = .bad := id rfl
@[simp] theorem mret_ap : (mret a : M β α) s = .ok a s := id rfl
@[simp] theorem mbad_ap : (mbad : M β α) s = .bad := id rfl
@[simp] theorem mbind_ap {γ : Type} {m : M β α} {k : α → M β γ} : mbind m k s = bnd (m s) k := by
  unfold mbind bnd
  cases m s <;> rfl
@[simp] theorem mIte_t {m n : M β α} : mIte true m n s = m s := id rfl
@[simp] theorem mIte_f {m n : M β α} : mIte false m n s = n s := id rfl
@[simp] theorem opt_ap {o : Option α} : (opt o : M β α) s = optO o s := by
  unfold opt optO
  cases o <;> rfl
@[simp] theorem cst_ap {d : D} : (cst d : M β RV) s = .ok (.v d) s := id rfl
@[simp] theorem rv_v {d : D} : (RV.v d).d = d := id rfl
@[simp] theorem rv_o {ds : List D} : (RV.o ds).d = .lst ds := id rfl
@[simp] theorem sv_v {d : D} : sv (.v d) = .v d := id rfl
@[simp] theorem sv_o {ds : List D} : sv (.o ds) = .o ds := id rfl
def rdO {β : Type} (i : Nat) (sl : List Slot) (b : β) : Option Slot → Out (S β) RV
  | some (.v d) => .ok (.v d) ⟨sl, b⟩
  | some (.o ds) => .ok (.v (.lst ds)) ⟨sl.set i (.v (.lst ds)), b⟩
  | _ => .bad
@[simp] theorem rdO_v {i : Nat} {sl : List Slot} {b : β} {d : D} : rdO i sl b (some (.v d)) = .ok (.v d) ⟨sl, b⟩ := id rfl
@[simp] theorem rdO_o {i : Nat} {sl : List Slot} {b : β} {ds : List D} : rdO i sl b (some (.o ds)) = .ok (.v (.lst ds)) ⟨sl.set i (.v (.lst ds)), b⟩ := id rfl
@[simp] theorem rdV_ap {i : Nat} {sl : List Slot} {b : β} : rdV i ⟨sl, b⟩ = rdO i sl b sl[i]? := by
  show (match sl[i]? with | some (.v d) => _ | some (.o ds) => _ | _ => _) = _
  cases sl[i]? with
  | none => rfl
  | some k => cases k <;> rfl
end
section
variable {β : Type} {s : S β} {m ma mb mc : M β RV} {na nb : M β Arg} {ms : M β (List Arg)} {ls : M β (List D)} {c c1 c2 : M β Bool} {f f' : D → D → Option RV} {u : D → Option RV} {F : List D → Option RV} {sl : List Slot} {b : β} {fl fl' : M β Fl} {mi : M β (List D)} {t : D → M β Unit} {ts : List D → M β Unit} {i : Nat} {g g' : GM β}
@[simp] theorem eBin_ap : eBin f ma mb s = mbind ma (fun x => mbind mb fun y => opt (f x.d y.d)) s := id rfl
@[simp] theorem eUn_ap : eUn u ma s = mbind ma (fun x => opt (u x.d)) s := id rfl
@[simp] theorem eApp_ap : eApp F ls s = mbind ls (fun x => opt (F x)) s := id rfl
@[simp] theorem tstB_ap : tstB m s = mbind m (fun r => opt (asB r.d)) s := id rfl
@[simp] theorem argV_ap : argV m s = mbind m (fun r => mret (.v r.d)) s := id rfl
@[simp] theorem argC_ap : argC na ms s = mbind na (fun a => mbind ms fun as => mret (a :: as)) s := id rfl
@[simp] theorem lstC_ap : lstC m ls s = mbind m (fun r => mbind ls fun ds => mret (r.d :: ds)) s := id rfl
def naO (i : Nat) (s : S β) : Option D → Out (S β) Arg
  | some _ => .ok (.b i) s
  | none => .bad
@[simp] theorem naO_some {i : Nat} {d : D} : naO i s (some d) = .ok (.b i) s := id rfl
@[simp] theorem argN_ap {i : Nat} : argN i ⟨sl, b⟩ = naO i ⟨sl, b⟩ ((sl[i]?).bind slotC) := by
  show (match (sl[i]?).bind slotC with | some _ => _ | none => _) = _
  cases (sl[i]?).bind slotC <;> rfl
@[simp] theorem slotC_v {d : D} : slotC (.v d) = some d := id rfl
@[simp] theorem slotC_o {ds : List D} : slotC (.o ds) = some (.lst ds) := id rfl
@[simp] theorem resL_nil : resL sl [] = some [] := id rfl
@[simp] theorem resL_v {d : D} {as : List Arg} : resL sl (.v d :: as) = (resL sl as).map (d :: ·) := id rfl
def cons2 : Option D → Option (List D) → Option (List D)
  | some d, some ds => some (d :: ds)
  | _, _ => none
@[simp] theorem cons2_some {d : D} {ds : List D} : cons2 (some d) (some ds) = some (d :: ds) := id rfl
@[simp] theorem resL_b {i : Nat} {as : List Arg} : resL sl (.b i :: as) = cons2 ((sl[i]?).bind slotC) (resL sl as) := by
  show (match (sl[i]?).bind slotC, resL sl as with | some d, some ds => _ | _, _ => _) = _
  cases (sl[i]?).bind slotC <;> cases resL sl as <;> rfl
@[simp] theorem rsl_ap {as : List Arg} : (rsl as : M β (List D)) ⟨sl, b⟩ = optO (resL sl as) ⟨sl, b⟩ := by
  show (match resL sl as with | some ds => _ | none => _) = _
  cases resL sl as <;> rfl
@[simp] theorem noB_nil : noB [] = true := id rfl
@[simp] theorem noB_v {d : D} {as : List Arg} : noB (.v d :: as) = noB as := by simp [noB, isV]
@[simp] theorem noB_b {i : Nat} {as : List Arg} : noB (.b i :: as) = false := by simp [noB, isV]
@[simp] theorem scalR_v {d : D} : scalR (.v d) = scalD d := id rfl
@[simp] theorem scalR_o {ds : List D} : scalR (.o ds) = false := id rfl
@[simp] theorem scalD_int {i : Int} : scalD (.int i) = true := id rfl
@[simp] theorem scalD_bl {i : Bool} : scalD (.bl i) = true := id rfl
@[simp] theorem scalD_non : scalD .non = true := id rfl
@[simp] theorem scalD_str {i : Str} : scalD (.str i) = true := id rfl
@[simp] theorem okR_def {as : List Arg} {r : RV} : okR as r = (noB as || scalR r) := id rfl
/-- what an operation let through -/
def filR (as : List Arg) (o : Option RV) : Option RV := o.filter (okR as)
@[simp] theorem filR_some {as : List Arg} {r : RV} : filR as (some r) = if okR as r then some r else none := by simp [filR, Option.filter]
@[simp] theorem eBinB_ap : eBinB f na nb s = mbind na (fun x => mbind nb fun y => mbind (rsl [x, y]) fun ds => opt (filR [x, y] (ap2 f ds))) s := id rfl
@[simp] theorem eAppB_ap : eAppB F ms s = mbind ms (fun as => mbind (rsl as) fun ds => opt (filR as (F ds))) s := id rfl
@[simp] theorem ap2_two {d e : D} : ap2 f [d, e] = f d e := id rfl
def trO : List D → Option Bool
  | [d] => truD d
  | _ => none
@[simp] theorem trO_one {d : D} : trO [d] = truD d := id rfl
@[simp] theorem truM_ap : truM na s = mbind na (fun x => mbind (rsl [x]) fun ds => opt (trO ds)) s := id rfl
@[simp] theorem tAndM_ap : tAndM c1 c2 s = mbind c1 (fun k => mIte k c2 (mret false)) s := id rfl
@[simp] theorem tOrM_ap : tOrM c1 c2 s = mbind c1 (fun k => mIte k (mret true) c2) s := id rfl
@[simp] theorem tNotM_ap : tNotM c s = mbind c (fun k => mret (!k)) s := id rfl
@[simp] theorem eAndM_ap : eAndM ma mb s = mbind ma (fun r => mbind (opt (asB r.d)) fun k => mIte k mb (mret (.v (.bl false)))) s := id rfl
@[simp] theorem eOrM_ap : eOrM ma mb s = mbind ma (fun r => mbind (opt (asB r.d)) fun k => mIte k (mret (.v (.bl true))) mb) s := id rfl
@[simp] theorem eNotM_ap : eNotM ma s = mbind ma (fun r => mbind (opt (asB r.d)) fun k => mret (.v (.bl (!k)))) s := id rfl
@[simp] theorem eIfM_ap : eIfM c ma mb s = mbind c (fun k => mIte k ma mb) s := id rfl
@[simp] theorem eChain_ap : eChain f f' ma mb mc s = mbind ma (fun x => mbind mb fun y => mbind (opt (f x.d y.d)) fun z => mbind (opt (asB z.d)) fun k => mIte k (mbind mc fun w => opt (f' y.d w.d)) (mret (.v (.bl false)))) s := id rfl
def ixO (y : D) : List D → Option RV
  | [d] => ixD d y
  | _ => none
@[simp] theorem ixO_one {y d : D} : ixO y [d] = ixD d y := id rfl
@[simp] theorem eIx_ap : eIx na m s = mbind na (fun x => mbind m fun y => mbind (rsl [x]) fun ds => opt (ixO y.d ds)) s := id rfl
@[simp] theorem partM_ap : partM m s = mbind m (fun r => mbind (opt (asI r.d)) fun i => mret (some i)) s := id rfl
def slO (l h : Option Int) : List D → Option RV
  | [d] => slD d l h
  | _ => none
@[simp] theorem slO_one {l h : Option Int} {d : D} : slO l h [d] = slD d l h := id rfl
@[simp] theorem eSl_ap {lo hi : M β (Option Int)} : eSl na lo hi s = mbind na (fun x => mbind lo fun l => mbind hi fun h => mbind (rsl [x]) fun ds => opt (slO l h ds)) s := id rfl
def hdO (T : String) (ds : List D) : Option RV := ds.head?.bind (isiD T)
@[simp] theorem hdO_one {T : String} {d : D} : hdO T [d] = isiD T d := id rfl
@[simp] theorem isiM_ap {T : String} : isiM T na s = mbind na (fun x => mbind (rsl [x]) fun ds => opt (hdO T ds)) s := id rfl
def itH (ds : List D) : Option (List D) := ds.head?.bind itD
@[simp] theorem itH_one {d : D} : itH [d] = itD d := id rfl
@[simp] theorem strC_ap : strC na ls s = mbind na (fun a => mbind (rsl [a]) fun ds => mbind (opt (itH ds)) fun es => mbind ls fun fs => mret (es ++ fs)) s := id rfl
/-! defs -/
def finO : Out (S β) Fl → Out β RV
  | .ok .nx s => .ok (.v .non) s.bx
  | .ok (.rt r) s => .ok r s.bx
  | .exc x s => .exc x s.bx
  | _ => .bad
@[simp] theorem finO_nx : finO (.ok .nx s) = .ok (.v .non) s.bx := id rfl
@[simp] theorem finO_rt {r : RV} : finO (.ok (.rt r) s) = .ok r s.bx := id rfl
@[simp] theorem runDef_ap {n : Nat} {mb : M β Fl} {ds : List D} : runDef n mb ds b = finO (mb ⟨ds.map Slot.v ++ List.replicate (n - ds.length) Slot.no, b⟩) := id rfl
def finG : Out (S Unit) (Fl × List D) → Option (List D)
  | .ok (.nx, out) _ => some out
  | .ok (.rt (.v .non), out) _ => some out
  | _ => none
@[simp] theorem finG_nx {out : List D} {s : S Unit} : finG (.ok (.nx, out) s) = some out := id rfl
@[simp] theorem finG_rt {out : List D} {s : S Unit} : finG (.ok (.rt (.v .non), out) s) = some out := id rfl
@[simp] theorem runGen_ap {n : Nat} {mb : GM Unit} {ds : List D} : runGen n mb ds = finG (mb [] ⟨ds.map Slot.v ++ List.replicate (n - ds.length) Slot.no, ()⟩) := by
  unfold runGen finG
  rcases mb [] ⟨ds.map Slot.v ++ List.replicate (n - ds.length) Slot.no, ()⟩ with ⟨⟨f, out⟩, s⟩ | _ | _
  · cases f with
    | rt r => cases r with
      | v d => cases d <;> rfl
      | o _ => rfl
    | _ => rfl
  · rfl
  · rfl
/-! calls -/
def outO (as : List Arg) (o : Out Unit RV) (s : S β) : Out (S β) RV := outP as o s
@[simp] theorem outO_ok {as : List Arg} {r : RV} : outO as (.ok r ()) s = if okR as r then .ok r s else .bad := by
  simp only [outO, outP]
  cases okR as r <;> rfl
@[simp] theorem callP_ap {n : Nat} {md : DefM Unit} : callP n md ms s = mbind ms (fun as => mIte (as.length == n) (mbind (rsl as) fun ds s => outO as (md ds ()) s) mbad) s := id rfl
def outC (o : Out β RV) (s : S β) : Out (S β) RV := outB o s
@[simp] theorem outC_ok {r : RV} {b' : β} : outC (.ok r b') ⟨sl, b⟩ = .ok r ⟨sl, b'⟩ := id rfl
@[simp] theorem callB_ap {n : Nat} {md : DefM β} : callB n md ms s = mbind ms (fun as => mIte (as.length == n && noB as) (mbind (rsl as) fun ds s => outC (md ds s.bx) s) mbad) s := id rfl
@[simp] theorem callG_ap {n : Nat} {md : DefG} : callG n md ms s = mbind ms (fun as => mIte (as.length == n && noB as) (mbind (rsl as) fun ds => mbind (opt (md ds)) fun out => mret (.o out)) mbad) s := id rfl
@[simp] theorem dflM_ap {dfl : List D} : dflM dfl ms s = mbind ms (fun as => mret (as ++ dfl.map Arg.v)) s := id rfl
@[simp] theorem kwA_ap {n nk : Nat} {pi : List Nat} {mk : M β (List Arg)} : kwA n nk pi ms mk s = mbind ms (fun as => mbind mk fun bs => mIte (as.length == n && bs.length == nk) (mret (perm pi (as ++ bs))) mbad) s := id rfl
/-! statements -/
@[simp] theorem noX_ok {α : Type} {m : M β α} {a : α} {s' : S β} (h : m s = .ok a s') : noX m s = .ok a s' := by simp [noX, h]
def nxO {α : Type} : Out (S β) α → Out (S β) α
  | .ok a s => .ok a s
  | _ => .bad
@[simp] theorem nxO_ok {α : Type} {a : α} : nxO (.ok a s) = .ok a s := id rfl
theorem noX_ap {α : Type} {m : M β α} : noX m s = nxO (m s) := by
  unfold noX nxO
  cases m s <;> rfl
@[simp] theorem seqM_ap : seqM fl fl' s = mbind fl (thenM fl') s := id rfl
@[simp] theorem thenM_nx : thenM fl .nx = fl := id rfl
@[simp] theorem thenM_rt {r : RV} : thenM fl (.rt r) = mret (.rt r) := id rfl
@[simp] theorem thenM_bk : thenM fl .bk = mret .bk := id rfl
@[simp] theorem thenM_ct : thenM fl .ct = mret .ct := id rfl
@[simp] theorem dropM_ap : dropM m s = mbind m (fun _ => mret .nx) s := id rfl
@[simp] theorem retM_ap : retM m s = mbind m (fun r => mret (.rt r)) s := id rfl
def rnO (s : S β) : Option Slot → Out (S β) Fl
  | some (.v d) => .ok (.rt (.v d)) s
  | some (.o ds) => .ok (.rt (.o ds)) s
  | _ => .bad
@[simp] theorem rnO_v {d : D} : rnO s (some (.v d)) = .ok (.rt (.v d)) s := id rfl
@[simp] theorem rnO_o {ds : List D} : rnO s (some (.o ds)) = .ok (.rt (.o ds)) s := id rfl
@[simp] theorem retN_ap : retN i ⟨sl, b⟩ = rnO ⟨sl, b⟩ sl[i]? := by
  show (match sl[i]? with | some (.v d) => _ | some (.o ds) => _ | _ => _) = _
  cases sl[i]? with
  | none => rfl
  | some k => cases k <;> rfl
@[simp] theorem asgM_ap : asgM i m s = mbind m (fun r => mbind (stV i r) fun _ => mret .nx) s := id rfl
@[simp] theorem asgT_ap : asgT m t s = mbind m (fun r => mbind (noX (t r.d)) fun _ => mret .nx) s := id rfl
@[simp] theorem ifM_ap : ifM c fl fl' s = mbind c (fun k => mIte k fl fl') s := id rfl
def stO (i : Nat) (r : RV) (sl : List Slot) (b : β) : Option Slot → Out (S β) Unit
  | some _ => .ok () ⟨sl.set i (sv r), b⟩
  | none => .bad
@[simp] theorem stO_some {r : RV} {k : Slot} : stO i r sl b (some k) = .ok () ⟨sl.set i (sv r), b⟩ := id rfl
@[simp] theorem stV_ap {r : RV} : stV i r ⟨sl, b⟩ = stO i r sl b sl[i]? := by
  show (match sl[i]? with | some _ => _ | none => _) = _
  cases sl[i]? <;> rfl
@[simp] theorem gsC_cons {d : D} {ds : List D} : gsC t ts (d :: ds) = mbind (t d) fun _ => ts ds := id rfl
@[simp] theorem gtM_tup {n : Nat} {ds : List D} : gtM n ts (.tup ds) s = if ds.length = n then ts ds s else .bad := by
  show (if ds.length = n then ts ds else mbad) s = _
  split <;> rfl
def parK (is : List Nat) (ds : List D) : M β Fl := match is, ds with
  | [i, j], [d, e] => mbind (stV i (.v d)) fun _ => mbind (stV j (.v e)) fun _ => mret .nx
  | [i, j, k], [d, e, h] => mbind (stV i (.v d)) fun _ => mbind (stV j (.v e)) fun _ => mbind (stV k (.v h)) fun _ => mret .nx
  | _, _ => mbad
@[simp] theorem parM_ap {is : List Nat} : parM is ls s = mbind ls (parK is) s := id rfl
@[simp] theorem parK_2 {i j : Nat} {d e : D} : (parK [i, j] [d, e] : M β Fl) = mbind (stV i (.v d)) fun _ => mbind (stV j (.v e)) fun _ => mret .nx := id rfl
@[simp] theorem parK_3 {i j k : Nat} {d e h : D} : (parK [i, j, k] [d, e, h] : M β Fl) = mbind (stV i (.v d)) fun _ => mbind (stV j (.v e)) fun _ => mbind (stV k (.v h)) fun _ => mret .nx := id rfl
@[simp] theorem parO_ap {i j : Nat} : parO i j ma mb s = mbind ma (fun r => mbind (noX mb) fun q => mbind (stV i r) fun _ => mbind (stV j q) fun _ => mret .nx) s := id rfl
def agO (i : Nat) (fo : D → D → Option RV) (m : M β RV) (s : S β) : Option Slot → Out (S β) Fl
  | some (.v d) => mbind m (fun y => mbind (opt (fo d y.d)) fun r => mbind (stV i r) fun _ => mret .nx) s
  | _ => .bad
@[simp] theorem agO_v {fo : D → D → Option RV} {d : D} : agO i fo m s (some (.v d)) = mbind m (fun y => mbind (opt (fo d y.d)) fun r => mbind (stV i r) fun _ => mret .nx) s := id rfl
@[simp] theorem augM_ap {fo : D → D → Option RV} : augM i fo m ⟨sl, b⟩ = agO i fo m ⟨sl, b⟩ sl[i]? := by
  show (match sl[i]? with | some (.v d) => _ | _ => _) = _
  cases sl[i]? with
  | none => rfl
  | some k => cases k <;> rfl
def owO (s : S β) : Option Slot → Out (S β) (List D)
  | some (.o ds) => .ok ds s
  | _ => .bad
@[simp] theorem owO_o {ds : List D} : owO s (some (.o ds)) = .ok ds s := id rfl
@[simp] theorem ownAt_ap : (ownAt i : M β (List D)) ⟨sl, b⟩ = owO ⟨sl, b⟩ sl[i]? := by
  show (match sl[i]? with | some (.o ds) => _ | _ => _) = _
  cases sl[i]? with
  | none => rfl
  | some k => cases k <;> rfl
@[simp] theorem putO_ap {ds : List D} : (putO i ds : M β Unit) ⟨sl, b⟩ = .ok () ⟨sl.set i (.o ds), b⟩ := id rfl
@[simp] theorem metM_ap {f : List D → List D → Option (D × List D)} : metM i f ls s = mbind (ownAt i) (fun _ => mbind ls fun as => mbind (ownAt i) fun ds => mbind (opt (f ds as)) fun q => mbind (putO i q.2) fun _ => mret (.v q.1)) s := id rfl
@[simp] theorem sixM_ap : sixM i ma mb s = mbind ma (fun r => mbind (ownAt i) fun _ => mbind mb fun y => mbind (ownAt i) fun ds => mbind (opt ((asI y.d).bind fun k => ixN ds.length k)) fun j => mbind (putO i (ds.set j r.d)) fun _ => mret .nx) s := id rfl
@[simp] theorem aixM_ap {fo : D → D → Option RV} : aixM i fo ma mb s = mbind (ownAt i) (fun _ => mbind ma fun y => mbind (ownAt i) fun ds => mbind (opt ((asI y.d).bind fun k => atI ds k)) fun d => mbind mb fun z => mbind (opt ((fo d z.d).filter scalR)) fun r =>
  mbind (ownAt i) fun ds' => mbind (opt ((asI y.d).bind fun k => ixN ds'.length k)) fun j => mbind (putO i (ds'.set j r.d)) fun _ => mret .nx) s := id rfl
@[simp] theorem forM_ap : forM mi t fl s = mbind mi (frM t fl) s := id rfl
@[simp] theorem itM_ap : itM m s = mbind m (fun r => opt (itD r.d)) s := id rfl
@[simp] theorem rngM1_ap : rngM1 ls s = mbind ls (fun ds => opt (rngD1 ds)) s := id rfl
@[simp] theorem rngM2_ap : rngM2 ls s = mbind ls (fun ds => opt (rngD2 ds)) s := id rfl
@[simp] theorem rngM3_ap : rngM3 ls s = mbind ls (fun ds => opt (rngD3 ds)) s := id rfl
@[simp] theorem itD_lst {ds : List D} : itD (.lst ds) = some ds := id rfl
@[simp] theorem itD_tup {ds : List D} : itD (.tup ds) = some ds := id rfl
@[simp] theorem lcM_ap {own : List Nat} {e : M β RV} : lcM own mi t c e s = mbind mi (fun ds s => mIte (wipeOk s.sl own) (mbind (noX (lcL own t c e [] ds)) fun acc s' => .ok (.o acc) { s' with sl := restS s.sl s'.sl own }) mbad s) s := id rfl
@[simp] theorem lc2M_ap {own own1 : List Nat} {mi1 : M β (List D)} {t1 : D → M β Unit} {c1 : M β Bool} {e : M β RV} : lc2M own own1 mi t c mi1 t1 c1 e s = mbind mi (fun ds s => mIte (wipeOk s.sl own) (mbind (noX (lc2L own own1 t c mi1 t1 c1 e [] ds)) fun acc s' => .ok (.o acc) { s' with sl := restS s.sl s'.sl own }) mbad s) s := id rfl
@[simp] theorem frM_nil : frM t fl [] = mret .nx := id rfl
@[simp] theorem loopK_nx : loopK fl .nx = fl := id rfl
@[simp] theorem loopK_ct : loopK fl .ct = fl := id rfl
@[simp] theorem loopK_bk : loopK fl .bk = mret .nx := id rfl
@[simp] theorem loopK_rt {r : RV} : loopK fl (.rt r) = mret (.rt r) := id rfl
/-! generators -/
@[simp] theorem gTo_ap {ys : List D} : gTo fl ys s = mbind fl (fun f => mret (f, ys)) s := id rfl
@[simp] theorem gYld_ap {ys : List D} : gYld m ys s = mIte (decide (ys.length < sizeLine)) (mbind m fun r => mret (.nx, ys ++ [r.d])) mbad s := id rfl
@[simp] theorem gSeq_ap {ys : List D} : gSeq g g' ys s = mbind (g ys) (gThn g') s := id rfl
@[simp] theorem gThn_nx {ys : List D} : gThn g (.nx, ys) = g ys := id rfl
@[simp] theorem gThn_rt {r : RV} {ys : List D} : gThn g (.rt r, ys) = mret (.rt r, ys) := id rfl
@[simp] theorem gIf_ap {ys : List D} : gIf c g g' ys s = mbind c (fun k => mIte k (g ys) (g' ys)) s := id rfl
@[simp] theorem gFor_ap {ys : List D} : gFor mi t g ys s = mbind mi (fun ds => gFr t g ds ys) s := id rfl
@[simp] theorem gLoop_nx {ys : List D} : gLoop g (.nx, ys) = g ys := id rfl
@[simp] theorem gLoop_rt {r : RV} {ys : List D} : gLoop g (.rt r, ys) = mret (.rt r, ys) := id rfl
@[simp] theorem sz0 : (0 : Nat) ≤ sizeLine := Nat.zero_le _
@[simp] theorem sz1 : (1 : Nat) ≤ sizeLine := by rw [sizeLine_eq]; decide
@[simp] theorem sz2 : (2 : Nat) ≤ sizeLine := by rw [sizeLine_eq]; decide
@[simp] theorem sz3 : (3 : Nat) ≤ sizeLine := by rw [sizeLine_eq]; decide
@[simp] theorem sz4 : (4 : Nat) ≤ sizeLine := by rw [sizeLine_eq]; decide
@[simp] theorem sz5 : (5 : Nat) ≤ sizeLine := by rw [sizeLine_eq]; decide
@[simp] theorem sz6 : (6 : Nat) ≤ sizeLine := by rw [sizeLine_eq]; decide
@[simp] theorem sz00 : (0 : Nat) < sizeLine := by rw [sizeLine_eq]; decide
theorem szlt {n : Nat} (h : n < 1000000) : n < sizeLine := by rw [sizeLine_eq]; omega
theorem szle {n : Nat} (h : n < 1000000) : n ≤ sizeLine := Nat.le_of_lt (szlt h)
/-! operations -/
section
variable {i j : Int} {x y : List D} {d : D} {p : Int → Int → Bool}
@[simp] theorem addD_int : addD (.int i) (.int j) = some (.v (.int (i + j))) := id rfl
@[simp] theorem iaddD_int : iaddD (.int i) (.int j) = some (.v (.int (i + j))) := id rfl
@[simp] theorem subD_int : subD (.int i) (.int j) = some (.v (.int (i - j))) := id rfl
@[simp] theorem mulD_int : mulD (.int i) (.int j) = if mulOk i j then some (.v (.int (i * j))) else none := id rfl
@[simp] theorem fdivD_int : fdivD (.int i) (.int j) = if 0 < j ∧ j.natAbs.log2 < 9000 then some (.v (.int (i / j))) else none := id rfl
@[simp] theorem modD_int : modD (.int i) (.int j) = if 0 < j then some (.v (.int (i % j))) else none := id rfl
@[simp] theorem powD_int : powD (.int i) (.int j) = if 0 ≤ j ∧ j ≤ 1000000 ∧ i.natAbs < 2 ^ 64 then some (.v (.int (i ^ j.toNat))) else none := id rfl
@[simp] theorem negD_int : negD (.int i) = some (.v (.int (-i))) := id rfl
@[simp] theorem ltD_int : ltD (.int i) (.int j) = some (.v (.bl (decide (i < j)))) := id rfl
@[simp] theorem leD_int : leD (.int i) (.int j) = some (.v (.bl (decide (i ≤ j)))) := id rfl
@[simp] theorem gtD_int : gtD (.int i) (.int j) = some (.v (.bl (decide (j < i)))) := id rfl
@[simp] theorem geD_int : geD (.int i) (.int j) = some (.v (.bl (decide (j ≤ i)))) := id rfl
@[simp] theorem asB_bl {b : Bool} : asB (.bl b) = some b := id rfl
@[simp] theorem asI_int : asI (.int i) = some i := id rfl
@[simp] theorem atI_cast {α : Type} {xs : List α} {n : Nat} : atI xs (n : Int) = xs[n]? := by
  unfold atI ixN
  rw [if_pos (Int.natCast_nonneg n)]
  by_cases h : n < xs.length
  · rw [if_pos (by omega)]; simp
  · rw [if_neg (by omega), List.getElem?_eq_none (by omega)]; rfl
@[simp] theorem atI_0 {α : Type} {xs : List α} : atI xs 0 = xs[0]? := atI_cast (n := 0)
@[simp] theorem atI_1 {α : Type} {xs : List α} : atI xs 1 = xs[1]? := atI_cast (n := 1)
@[simp] theorem atI_2 {α : Type} {xs : List α} : atI xs 2 = xs[2]? := atI_cast (n := 2)
theorem atI_nn {α : Type} {xs : List α} (h : 0 ≤ i) : atI xs i = xs[i.toNat]? := by
  obtain ⟨n, rfl⟩ := Int.eq_ofNat_of_zero_le h
  simp
@[simp] theorem ixD_lst : ixD (.lst x) (.int i) = (atI x i).map .v := id rfl
@[simp] theorem ixD_tup : ixD (.tup x) (.int i) = (atI x i).map .v := id rfl
@[simp] theorem tupD_def : tupD x = if x.length ≤ sizeLine then some (.v (.tup x)) else none := id rfl
@[simp] theorem lstD_def : lstD x = if x.length ≤ sizeLine then some (.o x) else none := id rfl
theorem rngD1_int : rngD1 [.int i] = if -(2 ^ 62) ≤ i ∧ i < 2 ^ 62 then some (rgL 0 i) else none := rfl
theorem rngD2_int : rngD2 [.int i, .int j] = if -(2 ^ 62) ≤ i ∧ i < 2 ^ 62 ∧ -(2 ^ 62) ≤ j ∧ j < 2 ^ 62 then some (rgL i j) else none := rfl
theorem rng1_nat {n : Nat} (h : n < 1000000) : rngD1 [.int (n : Int)] = some (rgL 0 (n : Int)) := by rw [rngD1_int, if_pos (by omega)]
theorem rng2_nat {n m : Nat} (h : n < 1000000) (h' : m < 1000000) : rngD2 [.int (n : Int), .int (m : Int)] = some (rgL (n : Int) (m : Int)) := by rw [rngD2_int, if_pos (by omega)]
@[simp] theorem lenF_lst : lenF [.lst x] = some (.v (.int x.length)) := id rfl
@[simp] theorem lenF_tup : lenF [.tup x] = some (.v (.int x.length)) := id rfl
@[simp] theorem intF_int : intF [.int i] = some (.v (.int i)) := id rfl
@[simp] theorem absF_int : absF [.int i] = some (.v (.int (i.natAbs : Int))) := by
  have : (if i < 0 then -i else i) = (i.natAbs : Int) := by split <;> omega
  rw [← this]
  rfl
@[simp] theorem listF_lst : listF [.lst x] = some (.o x) := id rfl
@[simp] theorem listF_tup : listF [.tup x] = some (.o x) := id rfl
@[simp] theorem tupleF_lst : tupleF [.lst x] = some (.v (.tup x)) := id rfl
@[simp] theorem tupleF_tup : tupleF [.tup x] = some (.v (.tup x)) := id rfl
@[simp] theorem gcdF_int : gcdF [.int i, .int j] = some (.v (.int ((Nat.gcd i.natAbs j.natAbs : Nat) : Int))) := id rfl
@[simp] theorem appendF_one : appendF x [d] = if x.length < sizeLine then some (.non, x ++ [d]) else none := id rfl
@[simp] theorem reverseF_nil : reverseF x [] = some (.non, x.reverse) := id rfl
@[simp] theorem addD_tup : addD (.tup x) (.tup y) = if x.length + y.length ≤ sizeLine then some (.v (.tup (x ++ y))) else none := id rfl
@[simp] theorem addD_lst : addD (.lst x) (.lst y) = if x.length + y.length ≤ sizeLine then some (.o (x ++ y)) else none := id rfl
@[simp] theorem mulD_lst : mulD (.lst x) (.int i) = if -(2 ^ 63) ≤ i ∧ i < 2 ^ 63 ∧ x.length * i.toNat ≤ sizeLine then some (.o (List.replicate i.toNat x).flatten) else none := id rfl
@[simp] theorem slD_lst {l h : Option Int} : slD (.lst x) l h = some (.o (cutL x l h)) := id rfl
@[simp] theorem slD_tup {l h : Option Int} : slD (.tup x) l h = some (.v (.tup (cutL x l h))) := id rfl
theorem shaped_int : SeqAt.shaped (PyData.int i) = true := by first | rfl | simp [SeqAt.shaped]
@[simp] theorem eqD_int : eqD (.int i) (.int j) = some (.v (.bl (decide (i = j)))) := by
  simp [eqD, toPy, shaped_int, PyData.eqv]
  rfl
@[simp] theorem neD_int : neD (.int i) (.int j) = some (.v (.bl (!decide (i = j)))) := by
  simp [neD, toPy, shaped_int, PyData.eqv]
  rfl
end
end
end DL

set_option Elab.async false
set_option linter.all false
set_option maxRecDepth 100000
namespace DL
open PySem PySem.Spec L2
/-! ### loops -/
section
variable {β : Type} {t : D → M β Unit} {b : M β Fl} {c : M β Bool} {e : M β RV} {s : S β} {own : List Nat} {ds : List D} {g : GM β}
theorem whM_succ {n : Nat} : whM (n + 1) c b s = bnd (c s) (fun k => mIte k (mbind b (loopK (whM n c b))) (mret .nx)) := by
  show mbind c _ s = _
  rw [mbind_ap]
theorem gWh_succ {n : Nat} {ys : List D} : gWh (n + 1) c g ys s = bnd (c s) (fun k => mIte k (mbind (g ys) (gLoop (gWh n c g))) (mret (.nx, ys))) := by
  show mbind c _ s = _
  rw [mbind_ap]
/-- a for that runs to its end -/
theorem frM_run (I : Nat → S β → Prop) : ∀ (ds : List D) (k : Nat) (s : S β), I k s → (∀ (i : Nat) (d : D) (s : S β), ds[i]? = some d → I (k + i) s → ∃ s1 s2, t d s = .ok () s1 ∧ b s1 = .ok .nx s2 ∧ I (k + i + 1) s2) →
    ∃ s', frM t b ds s = .ok .nx s' ∧ I (k + ds.length) s'
  | [], k, s, h0, _ => ⟨s, rfl, h0⟩
  | d :: ds, k, s, h0, step => by
    obtain ⟨s1, s2, h1, h2, h3⟩ := step 0 d s rfl h0
    obtain ⟨s', h4, h5⟩ := frM_run I ds (k + 1) s2 h3 fun i d s hd hI => by
      have := step (i + 1) d s (by simpa using hd) (by rw [show k + (i + 1) = k + 1 + i by omega]; exact hI)
      rw [show k + (i + 1) = k + 1 + i by omega] at this
      exact this
    refine ⟨s', ?_, by rw [List.length_cons, show k + (ds.length + 1) = k + 1 + ds.length by omega]; exact h5⟩
    show mbind (noX (t d)) (fun _ => mbind b (loopK (frM t b ds))) s = _
    rw [mbind_ap, noX_ok h1, bnd_ok, mbind_ap, h2, bnd_ok, loopK_nx, h4]
/-- a generator's for that runs to its end -/
theorem gFr_run (I : Nat → List D → S β → Prop) : ∀ (ds : List D) (k : Nat) (ys : List D) (s : S β), I k ys s → (∀ (i : Nat) (d : D) (ys : List D) (s : S β), ds[i]? = some d → I (k + i) ys s → ∃ s1 ys2 s2, t d s = .ok () s1 ∧ g ys s1 = .ok (.nx, ys2) s2 ∧ I (k + i + 1) ys2 s2) →
    ∃ ys' s', gFr t g ds ys s = .ok (.nx, ys') s' ∧ I (k + ds.length) ys' s'
  | [], k, ys, s, h0, _ => ⟨ys, s, rfl, h0⟩
  | d :: ds, k, ys, s, h0, step => by
    obtain ⟨s1, ys2, s2, h1, h2, h3⟩ := step 0 d ys s rfl h0
    obtain ⟨ys', s', h4, h5⟩ := gFr_run I ds (k + 1) ys2 s2 h3 fun i d ys s hd hI => by
      have := step (i + 1) d ys s (by simpa using hd) (by rw [show k + (i + 1) = k + 1 + i by omega]; exact hI)
      rw [show k + (i + 1) = k + 1 + i by omega] at this
      exact this
    refine ⟨ys', s', ?_, by rw [List.length_cons, show k + (ds.length + 1) = k + 1 + ds.length by omega]; exact h5⟩
    show mbind (noX (t d)) (fun _ => mbind (g ys) (gLoop (gFr t g ds))) s = _
    rw [mbind_ap, noX_ok h1, bnd_ok, mbind_ap, h2, bnd_ok, gLoop_nx, h4]
/-- a comprehension without tests that runs to its end -/
theorem lcL_run (I : Nat → S β → Prop) (P : Nat → D → Prop) : ∀ (ds : List D) (k : Nat) (acc : List D) (s : S β), acc.length + ds.length ≤ sizeLine → I k s →
    (∀ (i : Nat) (d : D) (s : S β), ds[i]? = some d → I (k + i) s → ∃ s1 r s2, t d { s with sl := wipeS s.sl own } = .ok () s1 ∧ e s1 = .ok r s2 ∧ P (k + i) r.d ∧ I (k + i + 1) s2) →
    ∃ out s', lcL own t (mret true) e acc ds s = .ok (acc ++ out) s' ∧ out.length = ds.length ∧ (∀ (i : Nat) (d : D), out[i]? = some d → P (k + i) d) ∧ I (k + ds.length) s'
  | [], k, acc, s, _, h0, _ => ⟨[], s, by rw [List.append_nil]; rfl, rfl, fun i d h => by simp at h, h0⟩
  | d :: ds, k, acc, s, hz, h0, step => by
    obtain ⟨s1, r, s2, h1, h2, h3, h4⟩ := step 0 d s rfl h0
    have hl : acc.length < sizeLine := by rw [List.length_cons] at hz; omega
    obtain ⟨out, s', h5, h6, h7, h8⟩ := lcL_run I P ds (k + 1) (acc ++ [r.d]) s2 (by rw [List.length_append, List.length_singleton]; rw [List.length_cons] at hz; omega) h4 fun i d s hd hI => by
      have := step (i + 1) d s (by simpa using hd) (by rw [show k + (i + 1) = k + 1 + i by omega]; exact hI)
      rw [show k + (i + 1) = k + 1 + i by omega] at this
      exact this
    refine ⟨r.d :: out, s', ?_, by simp [h6], fun i d hd => ?_, by rw [List.length_cons, show k + (ds.length + 1) = k + 1 + ds.length by omega]; exact h8⟩
    · show (mbind (noX (t d)) fun _ => mbind (noX (mret true)) fun k => mIte k (mbind (noX e) fun r => mIte (decide (acc.length < sizeLine)) (lcL own t (mret true) e (acc ++ [r.d]) ds) mbad) (lcL own t (mret true) e acc ds)) { s with sl := wipeS s.sl own } = _
      rw [mbind_ap, noX_ok h1, bnd_ok, mbind_ap, noX_ok (mret_ap (a := true)), bnd_ok, mIte_t, mbind_ap, noX_ok h2, bnd_ok, decide_eq_true hl, mIte_t, h5, List.append_assoc]
      rfl
    · cases i with
      | zero => simp at hd; rw [← hd]; exact h3
      | succ i => rw [show k + (i + 1) = k + 1 + i by omega]; exact h7 i d (by simpa using hd)
/-- .. each item is told -/
theorem lcL_map (I : Nat → S β → Prop) (f : Nat → D) (ds : List D) (s : S β) (hz : ds.length ≤ sizeLine) (h0 : I 0 s)
    (step : ∀ (i : Nat) (d : D) (s : S β), ds[i]? = some d → I i s → ∃ s1 r s2, t d { s with sl := wipeS s.sl own } = .ok () s1 ∧ e s1 = .ok r s2 ∧ r.d = f i ∧ I (i + 1) s2) :
    ∃ s', lcL own t (mret true) e [] ds s = .ok ((List.range ds.length).map f) s' ∧ I ds.length s' := by
  obtain ⟨out, s', h1, h2, h3, h4⟩ := lcL_run I (fun i d => d = f i) ds 0 [] s (by simpa using hz) h0 fun i d s hd hI => by
    rw [Nat.zero_add] at hI ⊢
    exact step i d s hd hI
  refine ⟨s', ?_, by simpa using h4⟩
  rw [h1, List.nil_append]
  congr 1
  apply List.ext_getElem?
  intro i
  by_cases hi : i < ds.length
  · rw [List.getElem?_map, List.getElem?_range hi]
    have : out[i]? = some out[i] := by simp [h2, hi]
    rw [this, h3 i out[i] this, Nat.zero_add]
    rfl
  · rw [List.getElem?_eq_none (by omega), List.getElem?_eq_none (by simp; omega)]
end
/-! ### sizes -/
theorem lg_lt {x : Int} {k : Nat} (h : x.natAbs < 2 ^ k) (hk : 0 < k) : x.natAbs.log2 < k := PySem.Flt.log2_lt_of hk h
theorem mul_ok {i j : Int} {a b : Nat} (ha : i.natAbs < 2 ^ a) (hb : j.natAbs < 2 ^ b) (h0 : 0 < a) (h1 : 0 < b) (h : a + b ≤ 1000000) : mulOk i j = true := by
  unfold mulOk
  have x := lg_lt ha h0
  have y := lg_lt hb h1
  exact decide_eq_true (by omega)
theorem mul_nat {i j a b : Nat} (ha : i < 2 ^ a) (hb : j < 2 ^ b) (h0 : 0 < a) (h1 : 0 < b) (h : a + b ≤ 1000000) : mulOk (i : Int) (j : Int) = true :=
  mul_ok (a := a) (b := b) (by simpa using ha) (by simpa using hb) h0 h1 h
theorem fd_ok {j : Int} (h0 : 0 < j) (h : j.natAbs < 2 ^ 9000) : 0 < j ∧ j.natAbs.log2 < 9000 := ⟨h0, lg_lt h (by decide)⟩
end DL

set_option Elab.async false
set_option linter.all false
set_option maxRecDepth 100000
namespace K05
open PySem PySem.Spec L2 DL
theorem pow_sq (s l : Nat) : (s * s) ^ (l / 2) * s ^ (l % 2) = s ^ l := by
  rw [← Nat.pow_two, ← Nat.pow_mul, ← Nat.pow_add, Nat.div_add_mod]
theorem power_loop (n e : Int) : ∀ (l fuel r s : Nat), l < fuel → 1 ≤ r → 1 ≤ s → r * s ^ l < 2 ^ 400000 →
    ∃ s', whM fuel q_power_1c q_power_2b ⟨[.v (.int n), .v (.int e), .v (.int r), .v (.int s), .v (.int l)], ()⟩ = .ok .nx ⟨[.v (.int n), .v (.int e), .v (.int ((r * s ^ l : Nat) : Int)), s', .v (.int 0)], ()⟩ := by
  intro l
  induction l using Nat.strongRecOn with
  | ind l ih =>
    intro fuel r s hf hr hs hT
    obtain ⟨fuel, rfl⟩ : ∃ m, fuel = m + 1 := ⟨fuel - 1, by omega⟩
    rw [whM_succ]
    by_cases hl : l = 0
    · subst hl
      exact ⟨.v (.int s), by simp [q_power_1c]⟩
    · have hpos : (0 : Int) < (l : Int) := by omega
      have hsl : s ≤ s ^ l := Nat.le_self_pow hl s
      have hb1 : s ^ l ≤ r * s ^ l := Nat.le_mul_of_pos_left _ hr
      have hb2 : r ≤ r * s ^ l := Nat.le_mul_of_pos_right _ (Nat.lt_of_lt_of_le Nat.zero_lt_one (Nat.one_le_pow _ _ hs))
      have m1 : mulOk (r : Int) (s : Int) = true := mul_nat (a := 400000) (b := 400000) (Nat.lt_of_le_of_lt hb2 hT) (Nat.lt_of_le_of_lt (Nat.le_trans hsl hb1) hT) (by decide) (by decide) (by decide)
      have m2 : mulOk (s : Int) (s : Int) = true := mul_nat (a := 400000) (b := 400000) (Nat.lt_of_le_of_lt (Nat.le_trans hsl hb1) hT) (Nat.lt_of_le_of_lt (Nat.le_trans hsl hb1) hT) (by decide) (by decide) (by decide)
      have hdiv : ((l : Int) / 2) = ((l / 2 : Nat) : Int) := by omega
      have hk := pow_sq s l
      have two : Nat.log2 2 < 9000 := by decide
      generalize hK : whM fuel q_power_1c q_power_2b = K at *
      by_cases h2 : l / 2 = 0
      · have l1 : l = 1 := by omega
        subst l1
        obtain ⟨fuel, rfl⟩ : ∃ m, fuel = m + 1 := ⟨fuel - 1, by omega⟩
        refine ⟨.v (.int s), ?_⟩
        simp [q_power_1c, q_power_2b, m1, two]
        subst hK
        rw [whM_succ]
        simp [q_power_1c]
      · have hd : l / 2 < l := by omega
        have hq : (0 : Int) < (l : Int) / 2 := by omega
        by_cases ho : l % 2 = 1
        · have ho' : ((l : Int) % 2) = 1 := by omega
          have hT' : (r * s) * (s * s) ^ (l / 2) = r * s ^ l := by rw [← hk, ho, Nat.pow_one, Nat.mul_assoc, Nat.mul_comm s]
          obtain ⟨s', hh⟩ := ih (l / 2) hd fuel (r * s) (s * s) (by omega) (Nat.mul_pos hr hs) (Nat.mul_pos hs hs) (by rw [hT']; exact hT)
          rw [hT', hK] at hh
          refine ⟨s', ?_⟩
          rw [← hh]
          simp [q_power_1c, q_power_2b, hpos, (show 0 < l by omega), ho, ho', m1, m2, two, hq]
        · have ho' : ¬ ((l : Int) % 2) = 1 := by omega
          have ho2 : l % 2 = 0 := by omega
          have hT' : r * (s * s) ^ (l / 2) = r * s ^ l := by rw [← hk, ho2, Nat.pow_zero, Nat.mul_one]
          obtain ⟨s', hh⟩ := ih (l / 2) hd fuel r (s * s) (by omega) hr (Nat.mul_pos hs hs) (by rw [hT']; exact hT)
          rw [hT', hK] at hh
          refine ⟨s', ?_⟩
          rw [← hh]
          simp [q_power_1c, q_power_2b, hpos, (show 0 < l by omega), ho, ho', m1, m2, two, hq]
theorem power_ok (n e : Nat) (hn : 1 ≤ n) (hT : n ^ e < 2 ^ 400000) (he : e < 1000000) : m_power [.int n, .int e] () = .ok (.v (.int ((n ^ e : Nat) : Int))) () := by
  obtain ⟨s', h⟩ := power_loop n e e 1000000 1 n he (by decide) hn (by rw [Nat.one_mul]; exact hT)
  rw [Nat.one_mul] at h
  have h : whM 1000000 q_power_1c q_power_2b ⟨[.v (.int n), .v (.int e), .v (.int 1), .v (.int n), .v (.int e)], ()⟩ = _ := h
  simp [m_power, b_power, h]
end K05

set_option Elab.async false
set_option linter.all false
set_option maxRecDepth 100000
namespace K05
open PySem PySem.Spec L2 DL
def gq (p : Int) (q : Nat) : Nat := Nat.gcd p.natAbs q
def lowD (p : Int) (q : Nat) : D := .tup [.int (p / (gq p q : Nat)), .int ((q : Int) / (gq p q : Nat))]
theorem gq_pos {p : Int} {q : Nat} (hq : 0 < q) : 0 < gq p q := Nat.gcd_pos_of_pos_right _ hq
theorem gq_le {p : Int} {q : Nat} (hq : 0 < q) : gq p q ≤ q := Nat.gcd_le_right _ hq
theorem fd_nat {g : Nat} (h0 : 0 < g) (h : g < 2 ^ 9000) : g.log2 < 9000 := (Nat.log2_lt (by omega)).mpr h
theorem fraction_ok (p : Int) (q : Nat) (hq : 0 < q) (hb : q < 2 ^ 9000) : m_fraction [.int p, .int q] () = .ok (.v (lowD p q)) () := by
  have h1 := gq_pos (p := p) hq
  have h2 := fd_nat h1 (Nat.lt_of_le_of_lt (gq_le hq) hb)
  have hq1 : ¬ (q : Int) = 0 := by omega
  have hq2 : ¬ (q : Int) < 0 := by omega
  have hq3 : ¬ q = 0 := by omega
  unfold gq at h1 h2
  simp [m_fraction, b_fraction, hq1, hq2, hq3, lowD, gq, h1, h2, Nat.le_of_lt]
theorem gcd_loop (p q : Int) : ∀ (k fuel a b : Nat), b < 2 ^ k → 2 * k + 1 ≤ fuel → whM fuel q__law_low_1c q__law_low_2b ⟨[.v (.int p), .v (.int q), .v (.int a), .v (.int b)], ()⟩ = .ok .nx ⟨[.v (.int p), .v (.int q), .v (.int (Nat.gcd a b : Nat)), .v (.int 0)], ()⟩ := by
  have step : ∀ (a b : Nat) (K : M Unit Fl), 0 < b → bnd (q__law_low_1c ⟨[.v (.int p), .v (.int q), .v (.int a), .v (.int b)], ()⟩) (fun k => mIte k (mbind q__law_low_2b (loopK K)) (mret .nx)) = K ⟨[.v (.int p), .v (.int q), .v (.int b), .v (.int ((a % b : Nat) : Int))], ()⟩ := by
    intro a b K hb
    simp [q__law_low_1c, q__law_low_2b, hb]
  have stop : ∀ (fuel a : Nat), 1 ≤ fuel → whM fuel q__law_low_1c q__law_low_2b ⟨[.v (.int p), .v (.int q), .v (.int a), .v (.int ((0 : Nat) : Int))], ()⟩ = .ok .nx ⟨[.v (.int p), .v (.int q), .v (.int a), .v (.int 0)], ()⟩ := by
    intro fuel a hf
    obtain ⟨fuel, rfl⟩ : ∃ m, fuel = m + 1 := ⟨fuel - 1, by omega⟩
    rw [whM_succ]
    simp [q__law_low_1c]
  intro k
  induction k with
  | zero =>
    intro fuel a b hb hf
    have : b = 0 := by simpa using hb
    subst this
    rw [stop fuel a (by omega), Nat.gcd_zero_right]
  | succ k ih =>
    intro fuel a b hb hf
    by_cases h0 : b = 0
    · subst h0
      rw [stop fuel a (by omega), Nat.gcd_zero_right]
    · obtain ⟨fuel, rfl⟩ : ∃ m, fuel = m + 1 := ⟨fuel - 1, by omega⟩
      rw [whM_succ, step a b _ (by omega)]
      by_cases h1 : a % b = 0
      · rw [h1, stop fuel b (by omega)]
        have : Nat.gcd a b = b := by rw [Nat.gcd_comm, Nat.gcd_rec, h1, Nat.gcd_zero_left]
        rw [this]
      · obtain ⟨fuel, rfl⟩ : ∃ m, fuel = m + 1 := ⟨fuel - 1, by omega⟩
        have hr : a % b < b := Nat.mod_lt _ (by omega)
        have hr2 : b % (a % b) < a % b := Nat.mod_lt _ (by omega)
        have hr3 : b % (a % b) + a % b ≤ b := by
          have := Nat.div_add_mod b (a % b)
          have h2 : 1 ≤ b / (a % b) := (Nat.one_le_div_iff (by omega)).mpr (Nat.le_of_lt hr)
          have h3 : a % b ≤ (a % b) * (b / (a % b)) := Nat.le_mul_of_pos_right _ h2
          omega
        rw [whM_succ, step b (a % b) _ (by omega), ih fuel (a % b) (b % (a % b)) (by rw [Nat.pow_succ] at hb; omega) (by omega)]
        have : Nat.gcd (a % b) (b % (a % b)) = Nat.gcd a b := by
          rw [Nat.gcd_comm (a % b), ← Nat.gcd_rec, ← Nat.gcd_rec, Nat.gcd_comm]
        rw [this]
theorem low_ok (p : Int) (q : Nat) (hq : 0 < q) (hb : q < 2 ^ 9000) : m__law_low [.int p, .int q] () = .ok (.v (lowD p q)) () := by
  have h1 := gq_pos (p := p) hq
  have h2 := fd_nat h1 (Nat.lt_of_le_of_lt (gq_le hq) hb)
  have hq1 : (0 : Int) < (q : Int) := by omega
  have hl := gcd_loop p q 9000 1000000 p.natAbs q hb (by decide)
  generalize hK : whM 1000000 q__law_low_1c q__law_low_2b = K at hl
  unfold gq at h1 h2
  have hl' : K ⟨[.v (.int p), .v (.int q), .v (.int ((p.natAbs : Nat) : Int)), .v (.int q)], ()⟩ = _ := hl
  simp [m__law_low, b__law_low, hK, hl, hq1, hq, h1, h2, lowD, gq]
end K05

set_option Elab.async false
set_option linter.all false
set_option maxRecDepth 100000
namespace K05
open PySem PySem.Spec L2 DL
theorem gq_dvd_p (p : Int) (q : Nat) : p / (gq p q : Nat) * (gq p q : Nat) = p := by
  apply Int.ediv_mul_cancel
  have : gq p q ∣ p.natAbs := Nat.gcd_dvd_left _ _
  exact Int.ofNat_dvd_left.mpr this
theorem gq_dvd_q (p : Int) (q : Nat) : q / gq p q * gq p q = q := Nat.div_mul_cancel (Nat.gcd_dvd_right _ _)
theorem lowD_scale (p : Int) (q c : Nat) (hc : 0 < c) : lowD (p * c) (q * c) = lowD p q := by
  have hg : gq (p * c) (q * c) = gq p q * c := by
    unfold gq
    rw [Int.natAbs_mul, Int.natAbs_natCast, Nat.gcd_mul_right]
  have hc' : (0 : Int) < (c : Int) := by omega
  unfold lowD
  rw [hg, Int.natCast_mul, Int.natCast_mul, Int.mul_ediv_mul_of_pos_left _ _ hc', Int.mul_ediv_mul_of_pos_left _ _ hc']
/-- the same number, the same pair -/
theorem lowD_eq {p r : Int} {q s : Nat} (hq : 0 < q) (hs : 0 < s) (h : p * s = r * q) : lowD p q = lowD r s := by
  rw [← lowD_scale p q s hs, ← lowD_scale r s q hq, h, Nat.mul_comm q s]
/-- the parts -/
theorem lowD_parts (p : Int) {q : Nat} (hq : 0 < q) : ∃ (p' : Int) (q' g : Nat), lowD p q = .tup [.int p', .int (q' : Int)] ∧ p = p' * g ∧ q = q' * g ∧ 0 < g ∧ 0 < q' := by
  refine ⟨p / (gq p q : Nat), q / gq p q, gq p q, ?_, (gq_dvd_p p q).symm, (gq_dvd_q p q).symm, gq_pos hq, ?_⟩
  · unfold lowD
    rw [Int.natCast_ediv]
  · exact Nat.div_pos (gq_le hq) (gq_pos hq)
theorem part_le {p p' : Int} {g k : Nat} (hg : 0 < g) (h : p = p' * g) (hb : p.natAbs < k) : p'.natAbs < k := by
  rw [h, Int.natAbs_mul, Int.natAbs_natCast] at hb
  exact Nat.lt_of_le_of_lt (Nat.le_mul_of_pos_right _ hg) hb
theorem partq_le {q q' g k : Nat} (hg : 0 < g) (h : q = q' * g) (hb : q < k) : q' < k := by
  rw [h] at hb
  exact Nat.lt_of_le_of_lt (Nat.le_mul_of_pos_right _ hg) hb
theorem plus_ok {p r : Int} {q s : Nat} (hq : 0 < q) (hs : 0 < s) (bp : p.natAbs < 2 ^ 4000) (bq : q < 2 ^ 4000) (br : r.natAbs < 2 ^ 4000) (bs : s < 2 ^ 4000) : m__law_plus [lowD p q, lowD r s] () = .ok (.v (lowD (p * s + r * q) (q * s))) () := by
  obtain ⟨p', q', g, e1, hp, hq', hg, q0⟩ := lowD_parts p hq
  obtain ⟨r', s', h, e2, hr, hs', hh, s0⟩ := lowD_parts r hs
  have bp' := part_le hg hp bp
  have br' := part_le hh hr br
  have bq' := partq_le hg hq' bq
  have bs' := partq_le hh hs' bs
  have m1 : mulOk p' (s' : Int) = true := mul_ok (a := 4000) (b := 4000) bp' (by simpa using bs') (by decide) (by decide) (by decide)
  have m2 : mulOk r' (q' : Int) = true := mul_ok (a := 4000) (b := 4000) br' (by simpa using bq') (by decide) (by decide) (by decide)
  have m3 : mulOk (q' : Int) (s' : Int) = true := mul_nat (a := 4000) (b := 4000) bq' bs' (by decide) (by decide) (by decide)
  have hl := low_ok (p' * s' + r' * q') (q' * s') (Nat.mul_pos q0 s0) (by
    calc q' * s' < 2 ^ 4000 * 2 ^ 4000 := Nat.mul_lt_mul'' bq' bs'
      _ ≤ 2 ^ 9000 := by rw [← Nat.pow_add]; exact Nat.pow_le_pow_right (by decide) (by decide))
  have fin : lowD (p' * s' + r' * q') (q' * s') = lowD (p * s + r * q) (q * s) := by
    rw [← lowD_scale (p' * s' + r' * q') (q' * s') (g * h) (Nat.mul_pos hg hh)]
    congr 1
    · rw [hp, hr, hq', hs']
      simp only [Int.natCast_mul, Int.add_mul]
      congr 1 <;> ac_rfl
    · rw [hq', hs']; ac_rfl
  rw [e1, e2, ← fin]
  have hl2 : m__law_low [.int (p' * s' + r' * q'), .int ((q' : Int) * (s' : Int))] () = .ok (.v (lowD (p' * s' + r' * q') (q' * s'))) () := by
    rw [← hl, Int.natCast_mul]
  simp [m__law_plus, b__law_plus, m1, m2, m3, hl2]
theorem minus_ok {p r : Int} {q s : Nat} (hq : 0 < q) (hs : 0 < s) (bp : p.natAbs < 2 ^ 4000) (bq : q < 2 ^ 4000) (br : r.natAbs < 2 ^ 4000) (bs : s < 2 ^ 4000) : m__law_minus [lowD p q, lowD r s] () = .ok (.v (lowD (p * s - r * q) (q * s))) () := by
  obtain ⟨p', q', g, e1, hp, hq', hg, q0⟩ := lowD_parts p hq
  obtain ⟨r', s', h, e2, hr, hs', hh, s0⟩ := lowD_parts r hs
  have bp' := part_le hg hp bp
  have br' := part_le hh hr br
  have bq' := partq_le hg hq' bq
  have bs' := partq_le hh hs' bs
  have m1 : mulOk p' (s' : Int) = true := mul_ok (a := 4000) (b := 4000) bp' (by simpa using bs') (by decide) (by decide) (by decide)
  have m2 : mulOk r' (q' : Int) = true := mul_ok (a := 4000) (b := 4000) br' (by simpa using bq') (by decide) (by decide) (by decide)
  have m3 : mulOk (q' : Int) (s' : Int) = true := mul_nat (a := 4000) (b := 4000) bq' bs' (by decide) (by decide) (by decide)
  have hl := low_ok (p' * s' - r' * q') (q' * s') (Nat.mul_pos q0 s0) (by
    calc q' * s' < 2 ^ 4000 * 2 ^ 4000 := Nat.mul_lt_mul'' bq' bs'
      _ ≤ 2 ^ 9000 := by rw [← Nat.pow_add]; exact Nat.pow_le_pow_right (by decide) (by decide))
  have fin : lowD (p' * s' - r' * q') (q' * s') = lowD (p * s - r * q) (q * s) := by
    rw [← lowD_scale (p' * s' - r' * q') (q' * s') (g * h) (Nat.mul_pos hg hh)]
    congr 1
    · rw [hp, hr, hq', hs']
      simp only [Int.natCast_mul, Int.sub_mul]
      congr 1 <;> ac_rfl
    · rw [hq', hs']; ac_rfl
  rw [e1, e2, ← fin]
  have hl2 : m__law_low [.int (p' * s' - r' * q'), .int ((q' : Int) * (s' : Int))] () = .ok (.v (lowD (p' * s' - r' * q') (q' * s'))) () := by
    rw [← hl, Int.natCast_mul]
  simp [m__law_minus, b__law_minus, m1, m2, m3, hl2]
end K05

set_option Elab.async false
set_option linter.all false
set_option maxRecDepth 100000
set_option exponentiation.threshold 100000
namespace K05
open PySem PySem.Spec L2 DL
def dg (b k a i : Nat) : Nat := if k = 1 then a else if i = 0 then a / b else a % b
theorem small_lg {b : Nat} (h0 : 0 < b) (h : b < 1000) : b.log2 < 9000 := by
  have := (Nat.log2_lt (n := b) (k := 10) (by omega)).mpr (by omega)
  omega
theorem digit_ok (b k a i : Nat) (h0 : 0 < b) (h : b < 1000) : m_digit_of [.int b, .int k, .int a, .int i] () = .ok (.v (.int (dg b k a i : Nat))) () := by
  have hl := small_lg h0 h
  have hb : (0 : Int) < (b : Int) := by omega
  by_cases hk : k = 1
  · subst hk
    simp [m_digit_of, b_digit_of, dg]
  · have hk' : ¬ (k : Int) = 1 := by omega
    by_cases hi : i = 0
    · subst hi; simp [m_digit_of, b_digit_of, dg, hk, hk', hb, h0, hl]
    · have hi' : ¬ (i : Int) = 0 := by omega
      simp [m_digit_of, b_digit_of, dg, hk, hk', hb, h0, hl, hi, hi']
theorem ldigit_ok (b k a i : Nat) (h0 : 0 < b) (h : b < 1000) : m__law_digit [.int b, .int k, .int a, .int i] () = .ok (.v (.int (dg b k a i : Nat))) () := by
  have hl := small_lg h0 h
  have hb : (0 : Int) < (b : Int) := by omega
  by_cases hk : k = 1
  · subst hk
    simp [m__law_digit, b__law_digit, dg]
  · have hk' : ¬ (k : Int) = 1 := by omega
    by_cases hi : i = 0
    · subst hi; simp [m__law_digit, b__law_digit, dg, hk, hk', hb, h0, hl]
    · have hi' : ¬ (i : Int) = 0 := by omega
      simp [m__law_digit, b__law_digit, dg, hk, hk', hb, h0, hl, hi, hi']
def hv (b k i : Nat) (w : List Nat) : Nat := w.foldl (fun r a => r * b + dg b k a i) 0
def wD (w : List Nat) : List D := w.map fun a : Nat => D.int (a : Int)
def sideD (b k i : Nat) (w : List Nat) : D := .tup [lowD (hv b k i w : Nat) (b ^ w.length), lowD ((hv b k i w : Nat) + 1) (b ^ w.length)]
def endsD (b k : Nat) (w : List Nat) : D := .tup ((List.range k).map fun i => sideD b k i w)
/-- base and width as the law draws them -/
structure Bk (b k : Nat) : Prop where
  b2 : 2 ≤ b
  b10 : b ≤ 10
  k12 : k = 1 ∨ k = 2
structure Wk (b k : Nat) (w : List Nat) : Prop where
  len : w.length ≤ 300
  lt : ∀ a ∈ w, a < b ^ k
theorem dg_lt {b k a i : Nat} (h : Bk b k) (ha : a < b ^ k) : dg b k a i < b := by
  have := h.b2
  unfold dg
  rcases h.k12 with rfl | rfl
  · simpa using ha
  · rw [if_neg (by decide)]
    split
    · rw [Nat.pow_two] at ha
      exact Nat.div_lt_of_lt_mul ha
    · exact Nat.mod_lt _ (by omega)
theorem hv_snoc (b k i : Nat) (w : List Nat) (a : Nat) : hv b k i (w ++ [a]) = hv b k i w * b + dg b k a i := by
  unfold hv
  rw [List.foldl_append]
  rfl
theorem fold_lt {b k i : Nat} (h : Bk b k) : ∀ (w : List Nat) (r n : Nat), (∀ a ∈ w, a < b ^ k) → r < b ^ n → w.foldl (fun r a => r * b + dg b k a i) r < b ^ (n + w.length)
  | [], r, n, _, hr => hr
  | a :: w, r, n, hw, hr => by
    have h1 := dg_lt (i := i) h (hw a (by simp))
    have h2 := fold_lt (i := i) h w (r * b + dg b k a i) (n + 1) (fun x hx => hw x (by simp [hx])) (by
      rw [Nat.pow_succ]
      calc r * b + dg b k a i < r * b + b := by omega
        _ = (r + 1) * b := by rw [Nat.add_mul, Nat.one_mul]
        _ ≤ b ^ n * b := Nat.mul_le_mul_right _ hr)
    rw [List.length_cons, show n + (w.length + 1) = n + 1 + w.length by omega]
    exact h2
theorem hv_lt {b k i : Nat} (h : Bk b k) (w : List Nat) (hw : ∀ a ∈ w, a < b ^ k) : hv b k i w < b ^ w.length := by
  have := fold_lt (i := i) h w 0 0 hw (by simp)
  simpa [hv] using this
theorem pow_big {b k : Nat} (h : Bk b k) {n : Nat} (hn : n ≤ 400) : b ^ n < 2 ^ 2000 := by
  calc b ^ n ≤ 10 ^ n := Nat.pow_le_pow_left h.b10 n
    _ ≤ (2 ^ 4) ^ n := Nat.pow_le_pow_left (by decide) n
    _ = 2 ^ (4 * n) := (Nat.pow_mul 2 4 n).symm
    _ < 2 ^ 2000 := Nat.pow_lt_pow_right (by decide) (by omega)
theorem take_snoc {w : List Nat} {n a : Nat} (h : w[n]? = some a) : w.take (n + 1) = w.take n ++ [a] := by rw [List.take_add_one, h]; rfl
theorem wD_get {w : List Nat} {n : Nat} {d : D} (h : (wD w)[n]? = some d) : ∃ a, w[n]? = some a ∧ d = .int (a : Int) ∧ n < w.length := by
  unfold wD at h
  rw [List.getElem?_map, Option.map_eq_some_iff] at h
  obtain ⟨a, ha, rfl⟩ := h
  exact ⟨a, ha, rfl, (List.getElem?_eq_some_iff.mp ha).1⟩
@[simp] theorem wD_length (w : List Nat) : (wD w).length = w.length := by simp [wD]
theorem ends_inner {b k i : Nat} {w : List Nat} (hb : Bk b k) (hw : Wk b k w) (mk : List D) (sa : DL.Slot) :
    ∃ sa', frM q__law_ends_1t q__law_ends_2b (wD w) ⟨[.v (.int b), .v (.int k), .v (.tup (wD w)), .o mk, .v (.int i), .v (.int 0), .v (.int 1), sa], ()⟩ =
      .ok .nx ⟨[.v (.int b), .v (.int k), .v (.tup (wD w)), .o mk, .v (.int i), .v (.int (hv b k i w : Nat)), .v (.int ((b ^ w.length : Nat) : Int)), sa'], ()⟩ := by
  obtain ⟨s', h1, sa', h2⟩ := frM_run (t := q__law_ends_1t) (b := q__law_ends_2b) (fun n s => ∃ sa, s = ⟨[.v (.int b), .v (.int k), .v (.tup (wD w)), .o mk, .v (.int i), .v (.int (hv b k i (w.take n) : Nat)), .v (.int ((b ^ n : Nat) : Int)), sa], ()⟩) (wD w) 0 ⟨[.v (.int b), .v (.int k), .v (.tup (wD w)), .o mk, .v (.int i), .v (.int 0), .v (.int 1), sa], ()⟩ ⟨sa, by simp [hv]⟩ fun n d s hd hI => by
    obtain ⟨sa, rfl⟩ := hI
    obtain ⟨a, ha, rfl, hn⟩ := wD_get hd
    rw [Nat.zero_add]
    have hlen := hw.len
    have h2 := hb.b2
    have h10 := hb.b10
    have hlt := hv_lt (i := i) hb (w.take n) fun x hx => hw.lt x (List.mem_of_mem_take hx)
    have hp : b ^ (w.take n).length < 2 ^ 2000 := pow_big hb (by rw [List.length_take]; omega)
    have hp2 : b ^ n < 2 ^ 2000 := pow_big hb (by omega)
    have m1 : mulOk (hv b k i (w.take n) : Nat) (b : Int) = true := mul_nat (a := 2000) (b := 10) (Nat.lt_trans hlt hp) (by omega) (by decide) (by decide) (by decide)
    have m2 : mulOk ((b ^ n : Nat) : Int) (b : Int) = true := mul_nat (a := 2000) (b := 10) hp2 (by omega) (by decide) (by decide) (by decide)
    have hd := ldigit_ok b k a i (by omega) (by omega)
    rw [Int.natCast_pow] at m2
    refine ⟨_, _, rfl, ?_, .v (.int a), rfl⟩
    rw [take_snoc ha, hv_snoc, Nat.pow_succ]
    simp [q__law_ends_2b, m1, m2, hd]
  rw [Nat.zero_add, wD_length] at h2
  rw [List.take_length] at h2
  exact ⟨sa', by rw [h1, h2]⟩
end K05

set_option Elab.async false
set_option linter.all false
set_option maxRecDepth 100000
set_option exponentiation.threshold 100000
namespace K05
open PySem PySem.Spec L2 DL
theorem rgL_get {n i : Nat} {d : D} (h : (rgL 0 (n : Int))[i]? = some d) : i < n ∧ d = .int (i : Int) := by
  have hi := (List.getElem?_eq_some_iff.mp h).1
  rw [rgL_length] at hi
  have hi : i < n := by omega
  refine ⟨hi, ?_⟩
  unfold rgL at h
  rw [List.getElem?_map, List.getElem?_range (by omega)] at h
  simp at h
  exact h.symm
theorem rgL_len (n : Nat) : (rgL 0 (n : Int)).length = n := by rw [rgL_length]; omega
theorem rg_ok {n : Nat} (h : n < 1000000) : -(2 ^ 62) ≤ (n : Int) ∧ (n : Int) < 2 ^ 62 := by omega
theorem range_snoc {α : Type} (n : Nat) (f : Nat → α) : (List.range (n + 1)).map f = (List.range n).map f ++ [f n] := by rw [List.range_succ, List.map_append]; rfl
theorem hv1 {b k i : Nat} {w : List Nat} : ((hv b k i w : Nat) : Int) + 1 = ((hv b k i w + 1 : Nat) : Int) := by omega
theorem pow_big9 {b k : Nat} (h : Bk b k) {n : Nat} (hn : n ≤ 400) : b ^ n < 2 ^ 9000 := Nat.lt_trans (pow_big h hn) (Nat.pow_lt_pow_right (by decide) (by decide))
theorem ends_ok {b k : Nat} {w : List Nat} (hb : Bk b k) (hw : Wk b k w) : m__law_ends [.int b, .int k, .tup (wD w)] () = .ok (.v (endsD b k w)) () := by
  have h2 := hb.b2
  have hk : k < 1000000 := by rcases hb.k12 with h | h <;> omega
  have hp0 : 0 < b ^ w.length := Nat.pow_pos (by omega)
  have hp9 : b ^ w.length < 2 ^ 9000 := pow_big9 hb (by have := hw.len; omega)
  obtain ⟨s', h1, s4, s5, s6, s7, h3⟩ := frM_run (t := q__law_ends_3t) (b := q__law_ends_4b) (fun n s => ∃ s4 s5 s6 s7, s = ⟨[.v (.int b), .v (.int k), .v (.tup (wD w)), .o ((List.range n).map fun i => sideD b k i w), s4, s5, s6, s7], ()⟩) (rgL 0 (k : Int)) 0 ⟨[.v (.int b), .v (.int k), .v (.tup (wD w)), .o [], .no, .no, .no, .no], ()⟩ ⟨.no, .no, .no, .no, rfl⟩ fun n d s hd hI => by
    obtain ⟨s4, s5, s6, s7, rfl⟩ := hI
    obtain ⟨hn, rfl⟩ := rgL_get hd
    rw [Nat.zero_add]
    obtain ⟨sa', hh⟩ := ends_inner (i := n) hb hw ((List.range n).map fun i => sideD b k i w) s7
    have l1 := low_ok (hv b k n w : Nat) (b ^ w.length) hp0 hp9
    have l2 := low_ok ((hv b k n w : Nat) + 1) (b ^ w.length) hp0 hp9
    rw [Int.natCast_pow] at l1 l2 hh
    have hsz : n < sizeLine := szlt (by omega)
    refine ⟨_, _, rfl, ?_, .v (.int n), .v (.int (hv b k n w : Nat)), .v (.int ((b : Int) ^ w.length)), sa', rfl⟩
    have hs : D.tup [lowD (hv b k n w : Nat) (b ^ w.length), lowD ((hv b k n w : Nat) + 1) (b ^ w.length)] = sideD b k n w := rfl
    simp [q__law_ends_4b, noX_ap, hh, l1, l2, hsz, range_snoc, hs]
  rw [Nat.zero_add, rgL_len] at h3
  rw [h3] at h1
  simp [m__law_ends, b__law_ends, rng1_nat hk, h1, endsD]
end K05

set_option Elab.async false
set_option linter.all false
set_option maxRecDepth 100000
set_option exponentiation.threshold 100000
namespace K05
open PySem PySem.Spec L2 DL
theorem map_range_get {α : Type} (w : List Nat) (f : Nat → α) : (List.range w.length).map (fun i => f (w.getD i 0)) = w.map f := by
  apply List.ext_getElem?
  intro i
  by_cases hi : i < w.length
  · rw [List.getElem?_map, List.getElem?_range hi, List.getElem?_map]
    simp [hi]
  · rw [List.getElem?_eq_none (by simp; omega), List.getElem?_eq_none (by simp; omega)]
def dgs (b k i : Nat) (w : List Nat) : List Nat := w.map fun a => dg b k a i
theorem digits_for_ok {b k i : Nat} {w : List Nat} (hb : Bk b k) (hw : Wk b k w) : m_digits_for [.int b, .int k, .tup (wD w), .int i] () = .ok (.o (wD (dgs b k i w))) () := by
  have h2 := hb.b2
  have h10 := hb.b10
  obtain ⟨s', h1, s4, h3⟩ := lcL_map (t := q_digits_for_1t) (e := q_digits_for_2e) (own := [4]) (fun n s => ∃ s4, s = ⟨[.v (.int b), .v (.int k), .v (.tup (wD w)), .v (.int i), s4], ()⟩) (fun n => D.int ((dg b k (w.getD n 0) i : Nat) : Int)) (wD w)
    ⟨[.v (.int b), .v (.int k), .v (.tup (wD w)), .v (.int i), .no], ()⟩ (by rw [wD_length]; exact szle (by have := hw.len; omega)) ⟨.no, rfl⟩ fun n d s hd hI => by
    obtain ⟨s4, rfl⟩ := hI
    obtain ⟨a, ha, rfl, hn⟩ := wD_get hd
    have hdg := digit_ok b k a i (by omega) (by omega)
    have hg : w.getD n 0 = a := by rw [List.getD_eq_getElem?_getD, ha]; rfl
    refine ⟨_, .v (.int (dg b k a i : Nat)), _, rfl, ?_, by rw [hg]; rfl, .v (.int a), rfl⟩
    simp [q_digits_for_2e, hdg, wipeS]
  rw [wD_length] at h1
  subst h3
  have e : (List.range w.length).map (fun n => D.int ((dg b k (w.getD n 0) i : Nat) : Int)) = wD (dgs b k i w) := by
    rw [map_range_get w fun a => D.int ((dg b k a i : Nat) : Int)]
    unfold wD dgs
    rw [List.map_map]
    rfl
  rw [e] at h1
  simp [m_digits_for, b_digits_for, wipeOk, notO, noX_ap, h1, restS]
/-! fold -/
def hu (u : Nat) (xs : List Nat) : Nat := xs.foldl (fun r x => r * u + x) 0
theorem hu_eq {b k i : Nat} {w : List Nat} : hu b (dgs b k i w) = hv b k i w := by
  unfold hu dgs hv
  rw [List.foldl_map]
def prs (u : Nat) : List Nat → List Nat
  | x :: y :: xs => (x * u + y) :: prs u xs
  | _ => []
theorem prs_len (u : Nat) : ∀ (n : Nat) (xs : List Nat), xs.length = 2 * n → (prs u xs).length = n
  | 0, [], _ => rfl
  | n + 1, x :: y :: xs, h => by
    show (prs u xs).length + 1 = n + 1
    rw [prs_len u n xs (by simp only [List.length_cons] at h; omega)]
  | 0, _ :: _, h => by simp at h
  | n + 1, [], h => by simp at h
  | n + 1, [_], h => by simp at h; omega
theorem prs_get (u : Nat) : ∀ (n : Nat) (xs : List Nat) (i : Nat), xs.length = 2 * n → i < n → (prs u xs)[i]? = some (xs.getD (2 * i) 0 * u + xs.getD (2 * i + 1) 0)
  | 0, _, _, _, h => by omega
  | n + 1, x :: y :: xs, 0, _, _ => by simp [prs]
  | n + 1, x :: y :: xs, i + 1, h, hi => by
    show (prs u xs)[i]? = _
    rw [prs_get u n xs i (by simp only [List.length_cons] at h; omega) (by omega)]
    rw [show 2 * (i + 1) = 2 * i + 1 + 1 by omega]
    simp
  | n + 1, [], _, h, _ => by simp at h
  | n + 1, [_], _, h, _ => by simp at h; omega
theorem hu_prs (u : Nat) : ∀ (n : Nat) (xs : List Nat) (r : Nat), xs.length = 2 * n → (prs u xs).foldl (fun r x => r * (u * u) + x) r = xs.foldl (fun r x => r * u + x) r
  | 0, [], _, _ => rfl
  | n + 1, x :: y :: xs, r, h => by
    show (prs u xs).foldl (fun r x => r * (u * u) + x) (r * (u * u) + (x * u + y)) = xs.foldl (fun r x => r * u + x) ((r * u + x) * u + y)
    rw [hu_prs u n xs _ (by simp only [List.length_cons] at h; omega), Nat.add_mul, Nat.mul_assoc, Nat.add_assoc]
  | 0, _ :: _, _, h => by simp at h
  | n + 1, [], _, h => by simp at h
  | n + 1, [_], _, h => by simp at h; omega
theorem prs_lt {u : Nat} : ∀ (xs : List Nat), (∀ x ∈ xs, x < u) → ∀ x ∈ prs u xs, x < u * u
  | [], _, x, hx => by simp [prs] at hx
  | [_], _, x, hx => by simp [prs] at hx
  | a :: c :: xs, h, x, hx => by
    have h1 := h a (by simp)
    have h2 := h c (by simp)
    rcases List.mem_cons.mp hx with rfl | hx
    · calc a * u + c < a * u + u := by omega
        _ = (a + 1) * u := by rw [Nat.add_mul, Nat.one_mul]
        _ ≤ u * u := Nat.mul_le_mul_right _ h1
    · exact prs_lt xs (fun y hy => h y (by simp [hy])) x hx
theorem rgN_2 (n : Nat) : rgN 0 ((2 * n : Nat) : Int) 2 = n := by
  unfold rgN
  rw [if_pos (by decide)]
  omega
theorem rng3_ok {n : Nat} (h : n < 100000) : rngD3 [.int 0, .int ((2 * n : Nat) : Int), .int 2] = some (rgC 0 2 n) := by
  show (if (2 : Int) ≠ 0 ∧ (2 : Int).natAbs < 1073741824 ∧ Builtin.Range.small 0 ((2 * n : Nat) : Int) 2 = true ∧ Builtin.Range.rangeSize 0 ((2 * n : Nat) : Int) 2 = (rgN 0 ((2 * n : Nat) : Int) 2 : Int) then some (rgC 0 2 (rgN 0 ((2 * n : Nat) : Int) 2)) else none) = _
  have hs : Builtin.Range.rangeSize 0 ((2 * n : Nat) : Int) 2 = (n : Int) := by
    unfold Builtin.Range.rangeSize
    rw [if_pos (by decide)]
    split <;> omega
  rw [rgN_2, if_pos]
  refine ⟨by decide, by decide, ?_, hs⟩
  unfold Builtin.Range.small
  rw [hs]
  have fit : ∀ x : Int, -(2 ^ 63) ≤ x → x < 2 ^ 63 → Builtin.Range.rangeFitsLong x = true := fun x h1 h2 => by
    unfold Builtin.Range.rangeFitsLong
    rw [Bool.and_eq_true]
    exact ⟨decide_eq_true h1, decide_eq_true h2⟩
  have f0 := fit 0 (by decide) (by decide)
  have f2 := fit 2 (by decide) (by decide)
  have fn := fit (n : Int) (by omega) (by omega)
  have f3 := fit ((2 * n : Nat) : Int) (by omega) (by omega)
  have f4 := fit (((2 * n : Nat) : Int) + (2 - 1)) (by omega) (by omega)
  rw [f0, f2, fn, if_pos (by decide), f3, f4, Bool.or_true]
  rfl
end K05

set_option Elab.async false
set_option linter.all false
set_option maxRecDepth 100000
set_option exponentiation.threshold 100000
namespace K05
open PySem PySem.Spec L2 DL
theorem rgC_get {n i : Nat} {d : D} (h : (rgC 0 2 n)[i]? = some d) : i < n ∧ d = .int ((2 * i : Nat) : Int) := by
  have hi := (List.getElem?_eq_some_iff.mp h).1
  rw [rgC_length] at hi
  refine ⟨hi, ?_⟩
  unfold rgC at h
  rw [List.getElem?_map, List.getElem?_range hi] at h
  simp only [Option.map_some, Option.some.injEq] at h
  rw [← h]
  congr 1
  omega
theorem wD_getD {w : List Nat} {n : Nat} (h : n < w.length) : (wD w)[n]? = some (.int (w.getD n 0 : Nat)) := by
  unfold wD
  rw [List.getElem?_map, List.getElem?_eq_getElem h]
  simp [h]
theorem pair_comp (u : Nat) (ys : List Nat) (n : Nat) (dgt : DL.Slot) (hn : ys.length = 2 * n) (hz : n < 100000) (hu : u < 2 ^ 400000) (hlt : ∀ y ∈ ys, y < u) :
    ∃ s3, lcL [3] q_fold_1t (mret true) q_fold_2e [] (rgC 0 2 n) ⟨[dgt, .v (.int u), .o (wD ys), .no], ()⟩ = .ok (wD (prs u ys)) ⟨[dgt, .v (.int u), .o (wD ys), s3], ()⟩ := by
  obtain ⟨s', h1, s3, h3⟩ := lcL_map (t := q_fold_1t) (e := q_fold_2e) (own := [3]) (fun n s => ∃ s3, s = ⟨[dgt, .v (.int u), .o (wD ys), s3], ()⟩) (fun i => D.int ((ys.getD (2 * i) 0 * u + ys.getD (2 * i + 1) 0 : Nat) : Int)) (rgC 0 2 n)
    ⟨[dgt, .v (.int u), .o (wD ys), .no], ()⟩ (by rw [rgC_length]; exact szle (by omega)) ⟨.no, rfl⟩ fun i d s hd hI => by
    obtain ⟨s3, rfl⟩ := hI
    obtain ⟨hi, rfl⟩ := rgC_get hd
    have g1 := wD_getD (w := ys) (n := 2 * i) (by omega)
    have g2 := wD_getD (w := ys) (n := 2 * i + 1) (by omega)
    have hy : ys.getD (2 * i) 0 < u := by
      have h0 : 2 * i < ys.length := by omega
      rw [List.getD_eq_getElem?_getD, List.getElem?_eq_getElem h0]
      exact hlt _ (List.getElem_mem h0)
    have m1 : mulOk (ys.getD (2 * i) 0 : Nat) (u : Int) = true := mul_nat (a := 400000) (b := 400000) (Nat.lt_trans hy hu) hu (by decide) (by decide) (by decide)
    have a1 : atI (wD ys) ((2 * i : Nat) : Int) = some (.int (ys.getD (2 * i) 0 : Nat)) := by rw [atI_cast]; exact g1
    have a2 : atI (wD ys) (((2 * i : Nat) : Int) + 1) = some (.int (ys.getD (2 * i + 1) 0 : Nat)) := by
      rw [show (((2 * i : Nat) : Int) + 1) = ((2 * i + 1 : Nat) : Int) by omega, atI_cast]; exact g2
    generalize ys.getD (2 * i) 0 = x at *
    generalize ys.getD (2 * i + 1) 0 = y at *
    refine ⟨_, .v (.int ((x : Nat) * (u : Int) + (y : Nat))), _, rfl, ?_, by simp, .v (.int ((2 * i : Nat) : Int)), rfl⟩
    generalize hz : (((2 * i : Nat) : Int)) = z at a1 a2
    simp [q_fold_2e, wipeS, m1, a1, a2]
  subst h3
  refine ⟨s3, ?_⟩
  rw [h1, rgC_length]
  congr 1
  unfold wD
  apply List.ext_getElem?
  intro i
  by_cases hi : i < n
  · rw [List.getElem?_map, List.getElem?_range hi, List.getElem?_map, prs_get u n ys i hn hi]
    rfl
  · rw [List.getElem?_eq_none (by simp; omega), List.getElem?_eq_none (by simp [prs_len u n ys hn]; omega)]
theorem lenwD {ys : List Nat} : ((wD ys).length : Int) = (ys.length : Int) := by rw [wD_length]
/-- one turn of fold -/
theorem fold_step (u : Nat) (xs ys : List Nat) (n : Nat) (dgt : DL.Slot) (K : M Unit Fl) (hx : 2 ≤ xs.length) (hy : ys = if xs.length % 2 = 1 then 0 :: xs else xs) (hn : ys.length = 2 * n) (hz : n < 100000) (hu : u < 2 ^ 400000) (hlt : ∀ y ∈ ys, y < u) :
    bnd (q_fold_3c ⟨[dgt, .v (.int u), .o (wD xs), .no], ()⟩) (fun k => mIte k (mbind q_fold_4b (loopK K)) (mret .nx)) = K ⟨[dgt, .v (.int (if 1 < n then (u : Int) * u else u)), .o (wD (prs u ys)), .no], ()⟩ := by
  obtain ⟨s3, hc⟩ := pair_comp u ys n dgt hn hz hu hlt
  have m1 : mulOk (u : Int) (u : Int) = true := mul_nat (a := 400000) (b := 400000) hu hu (by decide) (by decide) (by decide)
  have l2 : 1 < xs.length := by omega
  have l1 : (1 : Int) < (xs.length : Int) := by omega
  have hr := rng3_ok (n := n) hz
  have hpl := prs_len u n ys hn
  by_cases ho : xs.length % 2 = 1
  · rw [if_pos ho] at hy
    have ho' : (xs.length : Int) % 2 = 1 := by omega
    have hwd : D.int 0 :: wD xs = wD ys := by rw [hy]; rfl
    have hlen : xs.length + 1 = 2 * n := by rw [hy] at hn; simpa using hn
    have hsz : xs.length + 1 ≤ sizeLine := szle (by omega)
    have hsz2 : 2 * n ≤ sizeLine := szle (by omega)
    have hr' : rngD3 [.int 0, .int ((xs.length : Int) + 1), .int 2] = some (rgC 0 2 n) := by rw [show (xs.length : Int) + 1 = ((2 * n : Nat) : Int) by omega]; exact hr
    have hr2 : rngD3 [.int 0, .int (2 * (n : Int)), .int 2] = some (rgC 0 2 n) := by rw [show 2 * (n : Int) = ((2 * n : Nat) : Int) by omega]; exact hr
    by_cases h1 : 1 < n
    · have h1' : (1 : Int) < (n : Int) := by omega
      simp [q_fold_3c, q_fold_4b, l1, l2, h1', ho, ho', hwd, hsz, hsz2, hn, hr', hr2, noX_ap, hc, wipeOk, notO, restS, hpl, h1, m1]
    · have h1' : ¬ (1 : Int) < (n : Int) := by omega
      simp [q_fold_3c, q_fold_4b, l1, l2, h1', ho, ho', hwd, hsz, hsz2, hn, hr', hr2, noX_ap, hc, wipeOk, notO, restS, hpl, h1, m1]
  · rw [if_neg ho] at hy
    subst hy
    have ho' : ¬ (ys.length : Int) % 2 = 1 := by omega
    have hr2 : rngD3 [.int 0, .int (2 * (n : Int)), .int 2] = some (rgC 0 2 n) := by rw [show 2 * (n : Int) = ((2 * n : Nat) : Int) by omega]; exact hr
    have e1 : (1 : Int) < 2 * (n : Int) := by omega
    have e2 : ¬ (2 * (n : Int)) % 2 = 1 := by omega
    by_cases h1 : 1 < n
    · have h1' : (1 : Int) < (n : Int) := by omega
      simp [q_fold_3c, q_fold_4b, l1, l2, h1', e1, e2, ho, ho', hn, hr2, noX_ap, hc, wipeOk, notO, restS, hpl, h1, m1]
    · have h1' : ¬ (1 : Int) < (n : Int) := by omega
      simp [q_fold_3c, q_fold_4b, l1, l2, h1', e1, e2, ho, ho', hn, hr2, noX_ap, hc, wipeOk, notO, restS, hpl, h1, m1]
theorem pad_hu {u : Nat} {xs : List Nat} : hu u (if xs.length % 2 = 1 then 0 :: xs else xs) = hu u xs := by
  split
  · unfold hu
    rw [List.foldl_cons]
    simp
  · rfl
theorem fold_stop {u : Int} {xs : List Nat} {dgt : DL.Slot} {fuel : Nat} (hx : xs.length ≤ 1) (hf : 1 ≤ fuel) : whM fuel q_fold_3c q_fold_4b ⟨[dgt, .v (.int u), .o (wD xs), .no], ()⟩ = .ok .nx ⟨[dgt, .v (.int u), .o (wD xs), .no], ()⟩ := by
  obtain ⟨fuel, rfl⟩ : ∃ m, fuel = m + 1 := ⟨fuel - 1, by omega⟩
  have l1 : ¬ (1 : Int) < (xs.length : Int) := by omega
  have l2 : ¬ 1 < xs.length := by omega
  rw [whM_succ]
  simp [q_fold_3c, l1, l2]
theorem one_of {xs : List Nat} (h : xs ≠ []) (h1 : xs.length ≤ 1) : ∃ x, xs = [x] := by
  match xs, h, h1 with
  | [x], _, _ => exact ⟨x, rfl⟩
  | _ :: _ :: _, _, h => simp at h
theorem fold_loop (dgt : DL.Slot) : ∀ (m : Nat) (xs : List Nat) (u fuel : Nat), xs.length ≤ 2 ^ m → m + 1 ≤ fuel → xs.length < 100000 → 1 ≤ u → u ^ (xs.length - 1) < 2 ^ 400000 → (∀ x ∈ xs, x < u) → xs ≠ [] →
    ∃ u' : Int, whM fuel q_fold_3c q_fold_4b ⟨[dgt, .v (.int u), .o (wD xs), .no], ()⟩ = .ok .nx ⟨[dgt, .v (.int u'), .o (wD [hu u xs]), .no], ()⟩ := by
  intro m
  induction m with
  | zero =>
    intro xs u fuel hl hf _ _ _ _ hne
    obtain ⟨x, rfl⟩ := one_of hne (by simpa using hl)
    refine ⟨u, ?_⟩
    rw [fold_stop (by simp) (by omega)]
    simp [hu]
  | succ m ih =>
    intro xs u fuel hl hf hz hu1 hT hlt hne
    by_cases h1 : xs.length ≤ 1
    · obtain ⟨x, rfl⟩ := one_of hne h1
      refine ⟨u, ?_⟩
      rw [fold_stop (by simp) (by omega)]
      simp [hu]
    · obtain ⟨fuel, rfl⟩ : ∃ k, fuel = k + 1 := ⟨fuel - 1, by omega⟩
      obtain ⟨ys, hy⟩ : ∃ ys, ys = if xs.length % 2 = 1 then 0 :: xs else xs := ⟨_, rfl⟩
      obtain ⟨n, hn⟩ : ∃ n, ys.length = 2 * n := by
        by_cases ho : xs.length % 2 = 1
        · rw [if_pos ho] at hy
          exact ⟨(xs.length + 1) / 2, by rw [hy, List.length_cons]; omega⟩
        · rw [if_neg ho] at hy
          exact ⟨xs.length / 2, by rw [hy]; omega⟩
      have hyl : ys.length ≤ xs.length + 1 ∧ xs.length ≤ ys.length := by
        rw [hy]; split <;> simp
      have hyt : ∀ y ∈ ys, y < u := by
        rw [hy]; split
        · intro y hy'
          rcases List.mem_cons.mp hy' with rfl | h
          · omega
          · exact hlt y h
        · exact hlt
      have hule : u ≤ u ^ (xs.length - 1) := Nat.le_self_pow (by omega) u
      have hub := Nat.lt_of_le_of_lt hule hT
      rw [whM_succ, fold_step u xs ys n dgt _ (by omega) hy hn (by omega) hub hyt]
      have hhu : hu (u * u) (prs u ys) = hu u xs := by
        rw [← pad_hu (u := u) (xs := xs), ← hy]
        exact hu_prs u n ys 0 hn
      have hpl := prs_len u n ys hn
      by_cases hn1 : 1 < n
      · rw [if_pos hn1]
        obtain ⟨u', hh⟩ := ih (prs u ys) (u * u) fuel (by rw [hpl]; rw [Nat.pow_succ] at hl; omega) (by omega) (by rw [hpl]; omega) (Nat.mul_pos hu1 hu1) (by
          rw [hpl, ← Nat.pow_two, ← Nat.pow_mul]
          exact Nat.lt_of_le_of_lt (Nat.pow_le_pow_right hu1 (by omega)) hT) (prs_lt ys hyt) (by
          intro h; rw [h] at hpl; simp at hpl; omega)
        rw [hhu] at hh
        exact ⟨u', by rw [← hh, Int.natCast_mul]⟩
      · rw [if_neg hn1]
        have hn' : n = 1 := by omega
        refine ⟨u, ?_⟩
        rw [fold_stop (by rw [hpl]; omega) (by omega)]
        match hp : prs u ys, hpl with
        | [v], _ =>
          rw [hp] at hhu
          have : hu (u * u) [v] = v := by simp [hu]
          rw [← hhu, this]
        | [], h => simp at h; omega
        | _ :: _ :: _, h => simp at h; omega
theorem fold_ok {b k i : Nat} {w : List Nat} (hb : Bk b k) (hw : Wk b k w) : m_fold [.lst (wD (dgs b k i w)), .int b] () = .ok (.v (.int (hv b k i w : Nat))) () := by
  have hlen : (dgs b k i w).length = w.length := by simp [dgs]
  have h2 := hb.b2
  have hwl := hw.len
  by_cases hne : w = []
  · subst hne
    have hs := fold_stop (u := b) (xs := []) (dgt := .v (.lst (wD []))) (fuel := 1000000) (by simp) (by decide)
    generalize hK : whM 1000000 q_fold_3c q_fold_4b = K at hs
    simp [wD] at hs
    simp [m_fold, b_fold, hK, wD, dgs, hs, truD, hv]
  · obtain ⟨u', hs⟩ := fold_loop (.v (.lst (wD (dgs b k i w)))) 9 (dgs b k i w) b 1000000 (by rw [hlen]; omega) (by decide) (by rw [hlen]; omega) (by omega) (by
      rw [hlen]
      exact Nat.lt_trans (pow_big hb (by omega)) (Nat.pow_lt_pow_right (by decide) (by decide))) (fun x hx => by
        unfold dgs at hx
        obtain ⟨a, ha, rfl⟩ := List.mem_map.mp hx
        exact dg_lt hb (hw.lt a ha)) (by intro h; rw [h] at hlen; exact hne (List.eq_nil_of_length_eq_zero hlen.symm))
    rw [hu_eq] at hs
    generalize hK : whM 1000000 q_fold_3c q_fold_4b = K at hs
    simp [wD] at hs
    simp [m_fold, b_fold, hK, wD, hs, truD]
end K05

set_option Elab.async false
set_option linter.all false
set_option maxRecDepth 100000
set_option exponentiation.threshold 1000000
namespace K05
open PySem PySem.Spec L2 DL
theorem cell_ok {b k : Nat} {w : List Nat} (hb : Bk b k) (hw : Wk b k w) : m_cell [.int b, .int k, .tup (wD w)] () = .ok (.v (endsD b k w)) () := by
  have h2 := hb.b2
  have hwl := hw.len
  have hk : k < 1000000 := by rcases hb.k12 with h | h <;> omega
  have hp0 : 0 < b ^ w.length := Nat.pow_pos (by omega)
  have hp9 : b ^ w.length < 2 ^ 9000 := pow_big9 hb (by omega)
  have hpw := power_ok b w.length (by omega) (Nat.lt_trans (pow_big hb (n := w.length) (by omega)) (Nat.pow_lt_pow_right (by decide) (by decide))) (by omega)
  rw [Int.natCast_pow] at hpw
  obtain ⟨s', h1, s5, s6, h3⟩ := frM_run (t := q_cell_1t) (b := q_cell_2b) (fun n s => ∃ s5 s6, s = ⟨[.v (.int b), .v (.int k), .v (.tup (wD w)), .v (.int ((b : Int) ^ w.length)), .o ((List.range n).map fun i => sideD b k i w), s5, s6], ()⟩) (rgL 0 (k : Int)) 0 ⟨[.v (.int b), .v (.int k), .v (.tup (wD w)), .v (.int ((b : Int) ^ w.length)), .o [], .no, .no], ()⟩ ⟨.no, .no, rfl⟩ fun n d s hd hI => by
    obtain ⟨s5, s6, rfl⟩ := hI
    obtain ⟨hn, rfl⟩ := rgL_get hd
    rw [Nat.zero_add]
    have hdf := digits_for_ok (i := n) hb hw
    have hfo := fold_ok (i := n) hb hw
    have l1 := fraction_ok (hv b k n w : Nat) (b ^ w.length) hp0 hp9
    have l2 := fraction_ok ((hv b k n w : Nat) + 1) (b ^ w.length) hp0 hp9
    rw [Int.natCast_pow] at l1 l2
    have hsz : n < sizeLine := szlt (by omega)
    have hs : D.tup [lowD (hv b k n w : Nat) (b ^ w.length), lowD ((hv b k n w : Nat) + 1) (b ^ w.length)] = sideD b k n w := rfl
    refine ⟨_, _, rfl, ?_, .v (.int n), .v (.int (hv b k n w : Nat)), rfl⟩
    simp [q_cell_2b, hdf, hfo, l1, l2, hsz, range_snoc, hs]
  rw [Nat.zero_add, rgL_len] at h3
  rw [h3] at h1
  simp [m_cell, b_cell, rng1_nat hk, hpw, h1, endsD]
/-- the corners -/
def cornD (b k : Nat) (w : List Nat) : List D := if k = 1 then [.tup [lowD (hv b k 0 w : Nat) (b ^ w.length)], .tup [lowD ((hv b k 0 w : Nat) + 1) (b ^ w.length)]]
  else [.tup [lowD (hv b k 0 w : Nat) (b ^ w.length), lowD (hv b k 1 w : Nat) (b ^ w.length)], .tup [lowD (hv b k 0 w : Nat) (b ^ w.length), lowD ((hv b k 1 w : Nat) + 1) (b ^ w.length)],
    .tup [lowD ((hv b k 0 w : Nat) + 1) (b ^ w.length), lowD (hv b k 1 w : Nat) (b ^ w.length)], .tup [lowD ((hv b k 0 w : Nat) + 1) (b ^ w.length), lowD ((hv b k 1 w : Nat) + 1) (b ^ w.length)]]
theorem corners_ok {b k : Nat} {w : List Nat} (hb : Bk b k) (hw : Wk b k w) : m_corners_of [.int b, .int k, .tup (wD w)] () = .ok (.o (cornD b k w)) () := by
  have hc := cell_ok hb hw
  rcases hb.k12 with rfl | rfl
  · have e : endsD b 1 w = .tup [.tup [lowD (hv b 1 0 w : Nat) (b ^ w.length), lowD ((hv b 1 0 w : Nat) + 1) (b ^ w.length)]] := rfl
    rw [e] at hc
    have hc : m_cell [.int b, .int 1, .tup (wD w)] () = _ := hc
    have l1 : (1 : Nat) < sizeLine := szlt (by decide)
    simp [m_corners_of, b_corners_of, hc, cornD, wipeOk, notO, noX_ap, lcL, q_corners_of_1t, q_corners_of_2e, wipeS, restS, l1]
  · have e : endsD b 2 w = .tup [.tup [lowD (hv b 2 0 w : Nat) (b ^ w.length), lowD ((hv b 2 0 w : Nat) + 1) (b ^ w.length)], .tup [lowD (hv b 2 1 w : Nat) (b ^ w.length), lowD ((hv b 2 1 w : Nat) + 1) (b ^ w.length)]] := rfl
    rw [e] at hc
    have hc : m_cell [.int b, .int 2, .tup (wD w)] () = _ := hc
    have l1 : (1 : Nat) < sizeLine := szlt (by decide)
    have l2 : (2 : Nat) < sizeLine := szlt (by decide)
    have l3 : (3 : Nat) < sizeLine := szlt (by decide)
    simp [m_corners_of, b_corners_of, hc, cornD, wipeOk, notO, noX_ap, lcL, lc2L, q_corners_of_3t, q_corners_of_4u, q_corners_of_5e, wipeS, restS, l1, l2, l3]
end K05

set_option Elab.async false
set_option linter.all false
set_option maxRecDepth 100000
set_option exponentiation.threshold 1000000
namespace K05
open PySem PySem.Spec L2 DL
theorem neD_bl (a b : Bool) : neD (.bl a) (.bl b) = some (.v (.bl (!(a == b)))) := by
  have h : ∀ x : Bool, SeqAt.shaped (PyData.bool x) = true := fun x => by first | rfl | simp [SeqAt.shaped]
  simp [neD, toPy, h, PyData.eqv]
inductive PlD : Nat → D → Prop
  | int {n i} : PlD (n + 1) (.int i)
  | tup {n ds} : ds.length < 1000000 → (∀ d ∈ ds, PlD n d) → PlD (n + 1) (.tup ds)
  | lst {n ds} : ds.length < 1000000 → (∀ d ∈ ds, PlD n d) → PlD (n + 1) (.lst ds)
theorem like_seq (self : DefM Unit) (ds : List D) (f : List D → D) (hf : f = .tup ∨ f = .lst) (hz : ds.length < 1000000) (hd : ∀ d ∈ ds, self [d, d] () = .ok (.v (.bl true)) ()) :
    ∃ s3, frM (q__law_like_1t self) (q__law_like_2b self) (rgL 0 (ds.length : Int)) ⟨[.v (f ds), .v (f ds), .no, .no], ()⟩ = .ok .nx ⟨[.v (f ds), .v (f ds), .no, s3], ()⟩ := by
  obtain ⟨s', h1, s3, h3⟩ := frM_run (t := q__law_like_1t self) (b := q__law_like_2b self) (fun n s => ∃ s3, s = ⟨[.v (f ds), .v (f ds), .no, s3], ()⟩) (rgL 0 (ds.length : Int)) 0 ⟨[.v (f ds), .v (f ds), .no, .no], ()⟩ ⟨.no, rfl⟩ fun n d s hx hI => by
    obtain ⟨s3, rfl⟩ := hI
    obtain ⟨hn, rfl⟩ := rgL_get hx
    have hg : ds[n]? = some ds[n] := by simp [hn]
    have hs := hd ds[n] (List.getElem_mem hn)
    refine ⟨_, _, rfl, ?_, .v (.int n), rfl⟩
    rcases hf with rfl | rfl <;> simp [q__law_like_2b, hn, hs, truD]
  exact ⟨s3, by rw [h1, h3]⟩
theorem like_ok : ∀ (n : Nat) (d : D), PlD n d → m__law_like n [d, d] () = .ok (.v (.bl true)) ()
  | n + 1, _, .int (i := i) => by
    simp [m__law_like, b__law_like, isiD, tyD, truD]
  | n + 1, _, .tup (ds := ds) hz h => by
    obtain ⟨s3, hl⟩ := like_seq (m__law_like n) ds .tup (.inl rfl) hz fun d hd => like_ok n d (h d hd)
    simp [m__law_like, b__law_like, isiD, tyD, truD, neD_bl, rng1_nat hz, hl]
  | n + 1, _, .lst (ds := ds) hz h => by
    obtain ⟨s3, hl⟩ := like_seq (m__law_like n) ds .lst (.inr rfl) hz fun d hd => like_ok n d (h d hd)
    simp [m__law_like, b__law_like, isiD, tyD, truD, neD_bl, rng1_nat hz, hl]
theorem pl_low {n : Nat} {p : Int} {q : Nat} : PlD (n + 2) (lowD p q) := .tup (by simp) fun d hd => by
  simp at hd
  rcases hd with rfl | rfl <;> exact .int
theorem pl_side {n b k i : Nat} {w : List Nat} : PlD (n + 3) (sideD b k i w) := .tup (by simp) fun d hd => by
  simp at hd
  rcases hd with rfl | rfl <;> exact pl_low
theorem pl_ends {n b k : Nat} {w : List Nat} (hb : Bk b k) : PlD (n + 4) (endsD b k w) := .tup (by rcases hb.k12 with rfl | rfl <;> simp) fun d hd => by
  obtain ⟨i, _, rfl⟩ := List.mem_map.mp hd
  exact pl_side
theorem pl_corn {n b k : Nat} {w : List Nat} : PlD (n + 4) (.lst (cornD b k w)) := by
  unfold cornD
  split
  · refine .lst (by simp) fun d hd => ?_
    simp at hd
    rcases hd with rfl | rfl <;> exact .tup (by simp) fun d hd => by
      simp at hd
      subst hd
      exact pl_low
  · refine .lst (by simp) fun d hd => ?_
    simp at hd
    rcases hd with rfl | rfl | rfl | rfl <;> exact .tup (by simp) fun d hd => by
      simp at hd
      rcases hd with rfl | rfl <;> exact pl_low
end K05

set_option Elab.async false
set_option linter.all false
set_option maxRecDepth 100000
set_option exponentiation.threshold 1000000
namespace DL
open PySem PySem.Spec L2 DL
def rbO (k : Option DL.Slot) (d : Option D) (s : S Bx) : Out (S Bx) RV := match k, d with
  | some (.v .box), some d => .ok (.v d) s
  | _, _ => .bad
@[simp] theorem rbO_ok {d : D} {s : S Bx} : rbO (some (.v .box)) (some d) s = .ok (.v d) s := id rfl
@[simp] theorem bxRd_ap {i k : Nat} {sl : List DL.Slot} {b : Bx} : bxRd i k ⟨sl, b⟩ = rbO sl[i]? b.items[k]? ⟨sl, b⟩ := id rfl
def sbO (k : Nat) (q : Option DL.Slot) (j : Option Int) (s : S Bx) : Out (S Bx) Fl := match q, j, decide (1 ≤ k ∧ k ≤ 5) with
  | some (.v .box), some j, true => .ok .nx { s with bx := s.bx.put k j }
  | _, _, _ => .bad
@[simp] theorem sbO_1 {j : Int} {s : S Bx} : sbO 1 (some (.v .box)) (some j) s = .ok .nx { s with bx := s.bx.put 1 j } := id rfl
@[simp] theorem sbO_2 {j : Int} {s : S Bx} : sbO 2 (some (.v .box)) (some j) s = .ok .nx { s with bx := s.bx.put 2 j } := id rfl
@[simp] theorem sbO_3 {j : Int} {s : S Bx} : sbO 3 (some (.v .box)) (some j) s = .ok .nx { s with bx := s.bx.put 3 j } := id rfl
@[simp] theorem sbO_4 {j : Int} {s : S Bx} : sbO 4 (some (.v .box)) (some j) s = .ok .nx { s with bx := s.bx.put 4 j } := id rfl
@[simp] theorem sbO_5 {j : Int} {s : S Bx} : sbO 5 (some (.v .box)) (some j) s = .ok .nx { s with bx := s.bx.put 5 j } := id rfl
@[simp] theorem bxSt_ap {i k : Nat} {m : M Bx RV} {s : S Bx} : bxSt i k m s = mbind m (fun r s => sbO k s.sl[i]? (asI r.d) s) s := id rfl
section
variable {c : List Int} {a g m n l j : Int}
@[simp] theorem items_mk : (Bx.mk c a g m n l).items = [.lst (c.map D.int), .int a, .int g, .int m, .int n, .int l] := id rfl
@[simp] theorem put_1 : (Bx.mk c a g m n l).put 1 j = ⟨c, j, g, m, n, l⟩ := id rfl
@[simp] theorem put_2 : (Bx.mk c a g m n l).put 2 j = ⟨c, a, j, m, n, l⟩ := id rfl
@[simp] theorem put_3 : (Bx.mk c a g m n l).put 3 j = ⟨c, a, g, j, n, l⟩ := id rfl
@[simp] theorem put_4 : (Bx.mk c a g m n l).put 4 j = ⟨c, a, g, m, j, l⟩ := id rfl
@[simp] theorem put_5 : (Bx.mk c a g m n l).put 5 j = ⟨c, a, g, m, n, j⟩ := id rfl
end
/-- the box stands well; N bounds the draws so far -/
structure BxOk (N : Nat) (b : Bx) : Prop where
  at0 : 0 ≤ b.at_
  big : 0 ≤ b.big
  mix0 : 0 ≤ b.mix
  mix1 : b.mix < 2147483549
  cnt0 : 0 ≤ b.cnt
  cnt1 : b.cnt ≤ N
theorem bx0_ok (ns : List Int) : BxOk 0 (bx0 ns) := ⟨Int.le_refl 0, Int.le_refl 0, (mixOf_range ns).1, (mixOf_range ns).2, Int.le_refl 0, Int.le_refl 0⟩
theorem BxOk.mono {N M : Nat} {b : Bx} (h : BxOk N b) (hl : N ≤ M) : BxOk M b := ⟨h.at0, h.big, h.mix0, h.mix1, h.cnt0, by have := h.cnt1; omega⟩
end DL
namespace K05
open PySem PySem.Spec L2 DL
theorem mul_bd {i j : Int} (hi : -(2 ^ 64) < i ∧ i < 2 ^ 64) (hj : -(2 ^ 64) < j ∧ j < 2 ^ 64) : mulOk i j = true := mul_ok (a := 64) (b := 64) (by omega) (by omega) (by decide) (by decide) (by decide)
theorem draw_ok {N : Nat} {b : Bx} (h : BxOk N b) (hN : N ≤ 1000000) {size : Nat} (h0 : 0 < size) (hs : size < 1000000) : ∃ (d : Nat) (b' : Bx), m__law_draw [.box, .int size] b = .ok (.v (.int d)) b' ∧ d < size ∧ BxOk (N + 1) b' := by
  obtain ⟨cells, a, g, m, c, l⟩ := b
  obtain ⟨ha, hg, hm0, hm1, hc0, hc1⟩ := h
  simp only at ha hg hm0 hm1 hc0 hc1
  obtain ⟨a, rfl⟩ := Int.eq_ofNat_of_zero_le ha
  have hsz : (0 : Int) < (size : Int) := by omega
  have hlg : size.log2 < 9000 := fd_nat h0 (Nat.lt_trans hs (by decide))
  have mc : mulOk (c + 1) 1000003 = true := mul_bd ⟨by omega, by omega⟩ ⟨by decide, by decide⟩
  have l89 : Nat.log2 89 < 9000 := by decide
  -- the last part
  have last : ∀ (sl2 sl3 : DL.Slot) (a' : Int) (m : Int), 0 ≤ m → m < 2147483549 → 0 ≤ a' → ∃ (d : Nat) (b' : Bx), finO (bnd (bxSt 0 3 (eBin modD (eAppB intF (argC (argV (eBin addD (eBin addD (eBin powD (bxRd 0 3) (cst (.int 3))) (eBin mulD (bxRd 0 4) (cst (.int 1000003)))) (cst (.int 70001)))) (mret []))) (cst (.int 2147483549))) ⟨[.v .box, .v (.int size), sl2, sl3], ⟨cells, a', 0, m, c + 1, l⟩⟩)
      (thenM (retM (eBin modD (eAppB intF (argC (argV (eBin addD (eBin fdivD (bxRd 0 3) (cst (.int 89))) (eBin mulD (eBin modD (eAppB intF (argC (argV (bxRd 0 3)) (mret []))) (cst (.int 6869))) (cst (.int 73))))) (mret []))) (rdV 1))))) = .ok (.v (.int d)) b' ∧ d < size ∧ BxOk (N + 1) b' := by
    intro sl2 sl3 a' m hm0 hm1 ha'
    obtain ⟨m', hm'⟩ : ∃ m', m' = (m ^ 3 + (c + 1) * 1000003 + 70001) % 2147483549 := ⟨_, rfl⟩
    have hp : m.natAbs < 2 ^ 64 := by omega
    have m73 : mulOk (m' % 6869) 73 = true := mul_bd ⟨by omega, by omega⟩ ⟨by decide, by decide⟩
    have hd0 : 0 ≤ (m' / 89 + m' % 6869 * 73) % (size : Int) := Int.emod_nonneg _ (by omega)
    have hd1 : (m' / 89 + m' % 6869 * 73) % (size : Int) < size := Int.emod_lt_of_pos _ hsz
    refine ⟨((m' / 89 + m' % 6869 * 73) % (size : Int)).toNat, ⟨cells, a', 0, m', c + 1, l⟩, ?_, by omega, ⟨ha', Int.le_refl 0, by show 0 ≤ m'; omega, by show m' < _; omega, by show 0 ≤ c + 1; omega, by show c + 1 ≤ _; omega⟩⟩
    have e : ((((m' / 89 + m' % 6869 * 73) % (size : Int)).toNat : Nat) : Int) = (m' / 89 + m' % 6869 * 73) % (size : Int) := by omega
    rw [e]
    simp [hp, mc, ← hm', m73, l89, h0]
  have digits : ∀ (x : Int), 0 ≤ x → 0 ≤ x % (size : Int) ∧ x % (size : Int) < size ∧ (((x % (size : Int)).toNat : Nat) : Int) = x % (size : Int) ∧ 0 ≤ x / (size : Int) := fun x hx => by
    have hd0 : 0 ≤ x % (size : Int) := Int.emod_nonneg _ (by omega)
    have hd1 : x % (size : Int) < size := Int.emod_lt_of_pos _ hsz
    exact ⟨hd0, hd1, by omega, Int.ediv_nonneg hx (by omega)⟩
  by_cases hf : g = 0 ∧ a < cells.length
  · obtain ⟨rfl, hal⟩ := hf
    have hal' : (a : Int) < (cells.length : Int) := by omega
    obtain ⟨bit, hbit⟩ : ∃ bit, cells[a] = bit := ⟨_, rfl⟩
    by_cases hbig : (1000000000000000000 : Int) ≤ bit
    · obtain ⟨d0, d1, d2, d3⟩ := digits bit (by omega)
      refine ⟨(bit % (size : Int)).toNat, ⟨cells, (a : Int) + 1, bit / size, m, c + 1, 59⟩, ?_, by omega, ⟨by show 0 ≤ (a : Int) + 1; omega, d3, hm0, hm1, by show 0 ≤ c + 1; omega, by show c + 1 ≤ _; omega⟩⟩
      have hpos : (0 : Int) < bit := by omega
      rw [d2]
      simp [m__law_draw, b__law_draw, hal, hal', hbit, hbig, hpos, h0, hlg]
    · obtain ⟨m', hm'⟩ : ∃ m', m' = (m * 75403 + bit % 2147483563 * 40009 + 307) % 2147483549 := ⟨_, rfl⟩
      have mm : mulOk m 75403 = true := mul_bd ⟨by omega, by omega⟩ ⟨by decide, by decide⟩
      have mb : mulOk (bit % 2147483563) 40009 = true := mul_bd ⟨by omega, by omega⟩ ⟨by decide, by decide⟩
      obtain ⟨d, b', h1, h2, h3⟩ := last (.v (.int bit)) .no ((a : Int) + 1) m' (by omega) (by omega) (by omega)
      refine ⟨d, b', ?_, h2, h3⟩
      rw [← h1]
      simp [m__law_draw, b__law_draw, hal, hal', hbit, hbig, mm, mb, ← hm']
  · by_cases hgp : 0 < g
    · obtain ⟨d0, d1, d2, d3⟩ := digits g hg
      have hg0 : ¬ g = 0 := by omega
      by_cases hl : 1 < l
      · refine ⟨(g % (size : Int)).toNat, ⟨cells, (a : Int), g / size, m, c + 1, l - 1⟩, ?_, by omega, ⟨ha, d3, hm0, hm1, by show 0 ≤ c + 1; omega, by show c + 1 ≤ _; omega⟩⟩
        rw [d2]
        simp [m__law_draw, b__law_draw, hg0, hgp, h0, hlg, hl]
      · refine ⟨(g % (size : Int)).toNat, ⟨cells, (a : Int), 0, m, c + 1, l - 1⟩, ?_, by omega, ⟨ha, Int.le_refl 0, hm0, hm1, by show 0 ≤ c + 1; omega, by show c + 1 ≤ _; omega⟩⟩
        rw [d2]
        simp [m__law_draw, b__law_draw, hg0, hgp, h0, hlg, hl]
    · have hg0 : g = 0 := by omega
      subst hg0
      have hal : ¬ a < cells.length := fun z => hf ⟨rfl, z⟩
      have hal' : ¬ (a : Int) < (cells.length : Int) := by omega
      obtain ⟨d, b', h1, h2, h3⟩ := last .no .no (a : Int) m hm0 hm1 ha
      refine ⟨d, b', ?_, h2, h3⟩
      rw [← h1]
      simp [m__law_draw, b__law_draw, hal, hal']
end K05

set_option Elab.async false
set_option linter.all false
set_option maxRecDepth 100000
set_option exponentiation.threshold 1000000
namespace K05
open PySem PySem.Spec L2 DL
theorem to_wD {P : Nat → Prop} : ∀ (out : List D), (∀ (i : Nat) (d : D), out[i]? = some d → ∃ a : Nat, d = .int (a : Int) ∧ P a) → ∃ w, out = wD w ∧ ∀ a ∈ w, P a
  | [], _ => ⟨[], rfl, fun a h => by simp at h⟩
  | d :: out, h => by
    obtain ⟨a, rfl, pa⟩ := h 0 d rfl
    obtain ⟨w, rfl, pw⟩ := to_wD out fun i d hd => h (i + 1) d (by simpa using hd)
    exact ⟨a :: w, rfl, fun x hx => by
      rcases List.mem_cons.mp hx with rfl | hx
      · exact pa
      · exact pw x hx⟩
theorem signs_ok {N : Nat} {b : Bx} (h : BxOk N b) {size many : Nat} (hN : N + many ≤ 1000000) (h0 : 0 < size) (hs : size < 1000000) (hm : many < 1000) :
    ∃ (w : List Nat) (b' : Bx), m__law_signs [.box, .int size, .int many] b = .ok (.v (.tup (wD w))) b' ∧ w.length = many ∧ (∀ a ∈ w, a < size) ∧ BxOk (N + many) b' := by
  obtain ⟨out, s', h1, h2, h3, b', s3, h4, h5⟩ := lcL_run (t := q__law_signs_1t) (e := q__law_signs_2e) (own := [3]) (fun n s => ∃ b' s3, s = ⟨[.v .box, .v (.int size), .v (.int many), s3], b'⟩ ∧ BxOk (N + n) b') (fun i d => ∃ a : Nat, d = .int (a : Int) ∧ a < size) (rgL 0 (many : Int)) 0 [] ⟨[.v .box, .v (.int size), .v (.int many), .no], b⟩
    (by rw [rgL_len]; exact szle (by simp; omega)) ⟨b, .no, rfl, h⟩ fun n d s hd hI => by
    obtain ⟨b1, s3, rfl, hb⟩ := hI
    obtain ⟨hn, rfl⟩ := rgL_get hd
    rw [Nat.zero_add] at hb ⊢
    obtain ⟨d, b2, h1, h2, h3⟩ := draw_ok hb (by omega) h0 hs
    refine ⟨_, .v (.int d), _, rfl, ?_, ⟨d, rfl, h2⟩, b2, .v (.int n), rfl, h3⟩
    simp [q__law_signs_2e, h1, wipeS]
  rw [rgL_len] at h2
  rw [Nat.zero_add, rgL_len] at h5
  obtain ⟨w, rfl, hw⟩ := to_wD out fun i d hd => h3 i d hd
  subst h4
  rw [List.nil_append] at h1
  refine ⟨w, b', ?_, by simpa using h2, hw, h5⟩
  simp [m__law_signs, b__law_signs, rng1_nat (show many < 1000000 by omega), wipeOk, notO, noX_ap, h1, restS]
theorem room_ok {N : Nat} {b : Bx} (h : BxOk N b) (hN : N + 2 ≤ 1000000) : ∃ (bb k : Nat) (b' : Bx), m__law_room [.box] b = .ok (.v (.tup [.int bb, .int k])) b' ∧ Bk bb k ∧ (k = 2 → bb ≤ 4) ∧ BxOk (N + 2) b' := by
  obtain ⟨d, b1, h1, h2, h3⟩ := draw_ok h (by omega) (size := 3) (by decide) (by decide)
  have h1 : m__law_draw [.box, .int 3] b = _ := h1
  have l2 : Nat.log2 2 < 9000 := by decide
  by_cases hd : d / 2 = 0
  · obtain ⟨e, b2, h4, h5, h6⟩ := draw_ok h3 (by omega) (size := 9) (by decide) (by decide)
    have h4 : m__law_draw [.box, .int 9] b1 = _ := h4
    have hd' : (d : Int) / 2 = 0 := by omega
    refine ⟨2 + e, 1, b2, ?_, ⟨by omega, by omega, .inl rfl⟩, fun z => by omega, h6⟩
    simp [m__law_room, b__law_room, h1, l2, hd', h4]
  · obtain ⟨e, b2, h4, h5, h6⟩ := draw_ok h3 (by omega) (size := 3) (by decide) (by decide)
    have h4 : m__law_draw [.box, .int 3] b1 = _ := h4
    have hd' : (d : Int) / 2 = 1 := by omega
    refine ⟨2 + e, 2, b2, ?_, ⟨by omega, by omega, .inr rfl⟩, fun z => by omega, h6⟩
    simp [m__law_room, b__law_room, h1, l2, hd', h4]
theorem of_ok {N : Nat} {b : Bx} (h : BxOk N b) (hN : N + 1 ≤ 1000000) (x y z : Nat) : ∃ (v : Nat) (b' : Bx), m__law_of [.box, .lst [.int x, .int y, .int z]] b = .ok (.v (.int v)) b' ∧ (v = x ∨ v = y ∨ v = z) ∧ BxOk (N + 1) b' := by
  obtain ⟨d, b1, h1, h2, h3⟩ := draw_ok h (by omega) (size := 3) (by decide) (by decide)
  have h1 : m__law_draw [.box, .int 3] b = _ := h1
  match d, h2, h1 with
  | 0, _, h1 => exact ⟨x, b1, by simp [m__law_of, b__law_of, h1], .inl rfl, h3⟩
  | 1, _, h1 => exact ⟨y, b1, by simp [m__law_of, b__law_of, h1], .inr (.inl rfl), h3⟩
  | 2, _, h1 =>
    have h1 : m__law_draw [.box, .int 3] b = .ok (.v (.int 2)) b1 := h1
    exact ⟨z, b1, by simp [m__law_of, b__law_of, h1], .inr (.inr rfl), h3⟩
  | d + 3, h2, _ => omega
theorem cell_asked_ok {b k : Nat} {w : List Nat} (bx : Bx) (hb : Bk b k) (hw : Wk b k w) : m__law_cell_asked [.box, .int b, .int k, .tup (wD w)] bx = .ok (.v (.bl true)) bx := by
  have he := ends_ok hb hw
  have hc := cell_ok hb hw
  have hco := corners_ok hb hw
  have lk1 : m__law_like 6 [.lst [endsD b k w, endsD b k w], .lst [endsD b k w, endsD b k w]] () = .ok (.v (.bl true)) () := like_ok 6 _ (.lst (by simp) fun d hd => by
    simp at hd; subst hd; exact pl_ends hb)
  have lk2 : m__law_like 6 [.lst (cornD b k w), .lst (cornD b k w)] () = .ok (.v (.bl true)) () := like_ok 6 _ pl_corn
  have lm : (cornD b k w).length < sizeLine := by unfold cornD; split <;> exact szlt (by simp)
  rcases hb.k12 with rfl | rfl
  · have e : endsD b 1 w = .tup [.tup [lowD (hv b 1 0 w : Nat) (b ^ w.length), lowD ((hv b 1 0 w : Nat) + 1) (b ^ w.length)]] := rfl
    have c : cornD b 1 w = [.tup [lowD (hv b 1 0 w : Nat) (b ^ w.length)], .tup [lowD ((hv b 1 0 w : Nat) + 1) (b ^ w.length)]] := rfl
    rw [e] at he hc lk1
    rw [c] at hco lk2 lm
    have he : m__law_ends [.int b, .int 1, .tup (wD w)] () = _ := he
    have hc : m_cell [.int b, .int 1, .tup (wD w)] () = _ := hc
    have hco : m_corners_of [.int b, .int 1, .tup (wD w)] () = _ := hco
    have lm : 2 < sizeLine := lm
    simp [m__law_cell_asked, b__law_cell_asked, he, hc, hco, lk1, lk2, lm, truD, perm, perm_cons]
  · have e : endsD b 2 w = .tup [.tup [lowD (hv b 2 0 w : Nat) (b ^ w.length), lowD ((hv b 2 0 w : Nat) + 1) (b ^ w.length)], .tup [lowD (hv b 2 1 w : Nat) (b ^ w.length), lowD ((hv b 2 1 w : Nat) + 1) (b ^ w.length)]] := rfl
    have c : cornD b 2 w = [.tup [lowD (hv b 2 0 w : Nat) (b ^ w.length), lowD (hv b 2 1 w : Nat) (b ^ w.length)], .tup [lowD (hv b 2 0 w : Nat) (b ^ w.length), lowD ((hv b 2 1 w : Nat) + 1) (b ^ w.length)],
      .tup [lowD ((hv b 2 0 w : Nat) + 1) (b ^ w.length), lowD (hv b 2 1 w : Nat) (b ^ w.length)], .tup [lowD ((hv b 2 0 w : Nat) + 1) (b ^ w.length), lowD ((hv b 2 1 w : Nat) + 1) (b ^ w.length)]] := rfl
    rw [e] at he hc lk1
    rw [c] at hco lk2 lm
    have he : m__law_ends [.int b, .int 2, .tup (wD w)] () = _ := he
    have hc : m_cell [.int b, .int 2, .tup (wD w)] () = _ := hc
    have hco : m_corners_of [.int b, .int 2, .tup (wD w)] () = _ := hco
    have lm : 4 < sizeLine := lm
    simp [m__law_cell_asked, b__law_cell_asked, he, hc, hco, lk1, lk2, lm, truD, perm, perm_cons]
end K05

set_option Elab.async false
set_option linter.all false
set_option maxRecDepth 100000
set_option exponentiation.threshold 1000000
namespace K05
open PySem PySem.Spec L2 DL
theorem foldl_hv (b k i : Nat) : ∀ (v : List Nat) (r : Nat), v.foldl (fun r a => r * b + dg b k a i) r = r * b ^ v.length + hv b k i v
  | [], r => by simp [hv]
  | a :: v, r => by
    unfold hv
    rw [List.foldl_cons, List.foldl_cons, foldl_hv b k i v, foldl_hv b k i v, List.length_cons, Nat.pow_succ, Nat.add_mul, Nat.zero_mul, Nat.zero_add]
    rw [Nat.mul_assoc, Nat.mul_comm b, Nat.add_assoc]
theorem hv_split {b k i : Nat} {u v : List Nat} : hv b k i (u ++ v) = hv b k i u * b ^ v.length + hv b k i v := by
  conv => lhs; unfold hv
  rw [List.foldl_append, foldl_hv]
  rfl
theorem wk_take {b k : Nat} {w : List Nat} (h : Wk b k w) (n : Nat) : Wk b k (w.take n) := ⟨by rw [List.length_take]; have := h.len; omega, fun a ha => h.lt a (List.mem_of_mem_take ha)⟩
/-- the first part's sign -/
theorem low_nn {p : Int} {q : Nat} (hp : 0 ≤ p) (hq : 0 < q) : ∃ (p' : Int) (q' : Nat), lowD p q = .tup [.int p', .int (q' : Int)] ∧ 0 ≤ p' := by
  refine ⟨p / (gq p q : Nat), q / gq p q, ?_, Int.ediv_nonneg hp (by omega)⟩
  unfold lowD
  rw [Int.natCast_ediv]
theorem pow4 {b k : Nat} (h : Bk b k) {n : Nat} (hn : n ≤ 400) : b ^ n < 2 ^ 4000 := Nat.lt_trans (pow_big h hn) (Nat.pow_lt_pow_right (by decide) (by decide))
theorem hv4 {b k i : Nat} {w : List Nat} (h : Bk b k) (hw : Wk b k w) : ((hv b k i w : Nat) : Int).natAbs < 2 ^ 4000 ∧ (((hv b k i w : Nat) : Int) + 1).natAbs < 2 ^ 4000 := by
  have h1 := hv_lt (i := i) h w hw.lt
  have h2 := pow4 h (n := w.length) (by have := hw.len; omega)
  omega
theorem within_ok {b k : Nat} {u v : List Nat} (hb : Bk b k) (hw : Wk b k (u ++ v)) (hu : Wk b k u) : m__law_within [endsD b k (u ++ v), endsD b k u] () = .ok (.v (.bl true)) () := by
  have hlen : ∀ w, endsD b k w = .tup ((List.range k).map fun i => sideD b k i w) := fun w => rfl
  have hk : k < 1000000 := by rcases hb.k12 with h | h <;> omega
  have hpos : ∀ n, 0 < b ^ n := fun n => Nat.pow_pos (by have := hb.b2; omega)
  have hl1 := hw.len
  have hl2 := hu.len
  obtain ⟨s', h1, s3, h3⟩ := frM_run (t := q__law_within_1t) (b := q__law_within_2b) (fun n s => ∃ s3, s = ⟨[.v (endsD b k (u ++ v)), .v (endsD b k u), s3], ()⟩) (rgL 0 (k : Int)) 0 ⟨[.v (endsD b k (u ++ v)), .v (endsD b k u), .no], ()⟩ ⟨.no, rfl⟩ fun n d s hx hI => by
    obtain ⟨s3, rfl⟩ := hI
    obtain ⟨hn, rfl⟩ := rgL_get hx
    have a1 := hv4 (i := n) hb hw
    have a2 := hv4 (i := n) hb hu
    have m1 := minus_ok (p := (hv b k n (u ++ v) : Nat)) (r := (hv b k n u : Nat)) (hpos (u ++ v).length) (hpos u.length) a1.1 (pow4 hb (by omega)) a2.1 (pow4 hb (by omega))
    have m2 := minus_ok (p := (hv b k n u : Nat) + 1) (r := (hv b k n (u ++ v) : Nat) + 1) (hpos u.length) (hpos (u ++ v).length) a2.2 (pow4 hb (by omega)) a1.2 (pow4 hb (by omega))
    have hvv := hv_lt (i := n) hb v fun a ha => hw.lt a (by simp [ha])
    have e : b ^ (u ++ v).length = b ^ v.length * b ^ u.length := by rw [List.length_append, Nat.pow_add, Nat.mul_comm]
    have n1 : hv b k n u * b ^ (u ++ v).length ≤ hv b k n (u ++ v) * b ^ u.length := by
      rw [e, hv_split, ← Nat.mul_assoc]
      exact Nat.mul_le_mul_right _ (Nat.le_add_right _ _)
    have n2 : (hv b k n (u ++ v) + 1) * b ^ u.length ≤ (hv b k n u + 1) * b ^ (u ++ v).length := by
      rw [e, hv_split, ← Nat.mul_assoc]
      refine Nat.mul_le_mul_right _ ?_
      rw [Nat.add_mul, Nat.one_mul]
      omega
    obtain ⟨p1, q1, e1, z1⟩ := low_nn (p := (hv b k n (u ++ v) : Nat) * ((b ^ u.length : Nat) : Int) - (hv b k n u : Nat) * ((b ^ (u ++ v).length : Nat) : Int)) (q := b ^ (u ++ v).length * b ^ u.length) (by
      rw [← Int.natCast_mul, ← Int.natCast_mul]; omega) (Nat.mul_pos (hpos _) (hpos _))
    obtain ⟨p2, q2, e2, z2⟩ := low_nn (p := ((hv b k n u : Nat) + 1) * ((b ^ (u ++ v).length : Nat) : Int) - ((hv b k n (u ++ v) : Nat) + 1) * ((b ^ u.length : Nat) : Int)) (q := b ^ u.length * b ^ (u ++ v).length) (by
      rw [show ((hv b k n u : Nat) : Int) + 1 = ((hv b k n u + 1 : Nat) : Int) by omega, show ((hv b k n (u ++ v) : Nat) : Int) + 1 = ((hv b k n (u ++ v) + 1 : Nat) : Int) by omega, ← Int.natCast_mul, ← Int.natCast_mul]; omega) (Nat.mul_pos (hpos _) (hpos _))
    rw [e1] at m1
    rw [e2] at m2
    have g : ∀ w, ((List.range k).map fun i => sideD b k i w)[n]? = some (sideD b k n w) := fun w => by
      rw [List.getElem?_map, List.getElem?_range hn]; rfl
    have i1 : ixD (endsD b k (u ++ v)) (.int n) = some (.v (sideD b k n (u ++ v))) := by rw [hlen, ixD_tup, atI_cast, g]; rfl
    have i2 : ixD (endsD b k u) (.int n) = some (.v (sideD b k n u)) := by rw [hlen, ixD_tup, atI_cast, g]; rfl
    have z1' : ¬ p1 < 0 := by omega
    have z2' : ¬ p2 < 0 := by omega
    have s1 : ∀ w, sideD b k n w = .tup [lowD (hv b k n w : Nat) (b ^ w.length), lowD ((hv b k n w : Nat) + 1) (b ^ w.length)] := fun w => rfl
    rw [s1] at i1 i2
    refine ⟨_, _, rfl, ?_, .v (.int n), rfl⟩
    generalize endsD b k (u ++ v) = X at *
    generalize endsD b k u = Y at *
    generalize lowD (hv b k n (u ++ v) : Nat) (b ^ (u ++ v).length) = L1 at i1 m1
    generalize lowD ((hv b k n (u ++ v) : Nat) + 1) (b ^ (u ++ v).length) = L2 at i1 m2
    generalize lowD (hv b k n u : Nat) (b ^ u.length) = L3 at i2 m1
    generalize lowD ((hv b k n u : Nat) + 1) (b ^ u.length) = L4 at i2 m2
    simp [q__law_within_2b, i1, i2, m1, m2, z1', z2']
  have hL : lenF [endsD b k (u ++ v)] = some (.v (.int k)) := by rw [hlen, lenF_tup]; simp
  rw [h3] at h1
  generalize endsD b k (u ++ v) = X at *
  generalize endsD b k u = Y at *
  simp [m__law_within, b__law_within, hL, rng1_nat hk, h1]
end K05

set_option Elab.async false
set_option linter.all false
set_option maxRecDepth 100000
set_option exponentiation.threshold 1000000
namespace K05
open PySem PySem.Spec L2 DL
theorem low1 {q : Nat} : lowD 1 q = .tup [.int 1, .int (q : Int)] := by
  have : gq 1 q = 1 := by unfold gq; simp
  unfold lowD
  rw [this]
  simp
theorem wD_take (w : List Nat) (n : Nat) : (wD w).take n = wD (w.take n) := by unfold wD; rw [List.map_take]
theorem cut_take {w : List Nat} {n : Nat} (hn : n ≤ w.length) : cutL (wD w) none (some (n : Int)) = wD (w.take n) := by
  unfold cutL
  rw [HT.sIx_none, HT.sIx_nat, wD_length, Nat.min_eq_left hn]
  simp [wD_take]
theorem cut_take' {w : List Nat} {n : Nat} : cutL (wD w) none (some (n : Int)) = wD (w.take n) := by
  unfold cutL
  rw [HT.sIx_none, HT.sIx_nat, wD_length]
  simp only [List.drop_zero, Nat.sub_zero]
  rw [wD_take]
  congr 1
  rw [List.take_eq_take_iff]
  omega
theorem wD_append (u v : List Nat) : wD u ++ wD v = wD (u ++ v) := by unfold wD; rw [List.map_append]
theorem size_pow {b k : Nat} (hb : Bk b k) : 0 < b ^ k ∧ b ^ k ≤ 100 := by
  have h2 := hb.b2
  have h10 := hb.b10
  rcases hb.k12 with rfl | rfl
  · simp; omega
  · rw [Nat.pow_two]
    have := Nat.mul_le_mul h10 h10
    exact ⟨Nat.mul_pos (by omega) (by omega), by omega⟩
theorem nested_step {b k : Nat} {u : List Nat} {a n : Nat} (hb : Bk b k) (hw : Wk b k (u ++ [a])) (hu : Wk b k u) (hl : u.length ≤ 299) (hn : n < k) (bx : Bx) (s0 s3 s4 s5 s9 s10 s11 s12 : DL.Slot) :
    q__law_nested_2b ⟨[s0, .v (.int b), .v (.int k), s3, s4, s5, .v (endsD b k u), .v (.int a), .v (endsD b k (u ++ [a])), .v (.int n), s10, s11, s12], bx⟩ =
      .ok .nx ⟨[s0, .v (.int b), .v (.int k), s3, s4, s5, .v (endsD b k u), .v (.int a), .v (endsD b k (u ++ [a])), .v (.int n), .v (lowD 1 (b ^ u.length)), .v (lowD 1 (b ^ u.length * b)), .v (.int (dg b k a n : Nat))], bx⟩ := by
  have h2 := hb.b2
  have h10 := hb.b10
  have hpos : ∀ n, 0 < b ^ n := fun n => Nat.pow_pos (by omega)
  have g : ∀ w, ((List.range k).map fun i => sideD b k i w)[n]? = some (sideD b k n w) := fun w => by
    rw [List.getElem?_map, List.getElem?_range hn]; rfl
  have i1 : ∀ w, ixD (endsD b k w) (.int n) = some (.v (.tup [lowD (hv b k n w : Nat) (b ^ w.length), lowD ((hv b k n w : Nat) + 1) (b ^ w.length)])) := fun w => by
    show ixD (.tup ((List.range k).map fun i => sideD b k i w)) (.int n) = _
    rw [ixD_tup, atI_cast, g]; rfl
  have j1 := i1 u
  have j2 := i1 (u ++ [a])
  have a1 := hv4 (i := n) hb hu
  have a2 := hv4 (i := n) hb hw
  have hlw : (u ++ [a]).length = u.length + 1 := by simp
  -- the parts' width
  have m1 := minus_ok (p := (hv b k n u : Nat) + 1) (r := (hv b k n u : Nat)) (hpos u.length) (hpos u.length) a1.2 (pow4 hb (by omega)) a1.1 (pow4 hb (by omega))
  have m2 := minus_ok (p := (hv b k n (u ++ [a]) : Nat) + 1) (r := (hv b k n (u ++ [a]) : Nat)) (hpos (u ++ [a]).length) (hpos (u ++ [a]).length) a2.2 (pow4 hb (by omega)) a2.1 (pow4 hb (by omega))
  have e1 : ∀ (x : Int) (q : Nat), 0 < q → lowD ((x + 1) * q - x * q) (q * q) = lowD 1 q := fun x q hq => by
    refine lowD_eq (Nat.mul_pos hq hq) hq ?_
    rw [Int.add_mul, Int.one_mul, Int.natCast_mul, Int.one_mul]
    rw [show x * (q : Int) + q - x * q = q by omega]
  rw [e1 _ _ (hpos _)] at m1 m2
  have hq1 : b ^ (u ++ [a]).length = b ^ u.length * b := by rw [hlw, Nat.pow_succ]
  -- the step
  have mq : mulOk ((b ^ u.length : Nat) : Int) (b : Int) = true := mul_nat (a := 4000) (b := 10) (pow4 hb (by omega)) (by omega) (by decide) (by decide) (by decide)
  have qb9 : b ^ u.length * b < 2 ^ 9000 := by rw [← Nat.pow_succ]; exact pow_big9 hb (by omega)
  have qb4 : b ^ u.length * b < 2 ^ 4000 := by rw [← Nat.pow_succ]; exact pow4 hb (by omega)
  have l1 := low_ok 1 (b ^ u.length * b) (Nat.mul_pos (hpos _) (by omega)) qb9
  have hdg : dg b k a n < b := dg_lt hb (hw.lt a (by simp))
  have ld := ldigit_ok b k a n (by omega) (by omega)
  have md : mulOk 1 (dg b k a n : Nat) = true := mul_bd ⟨by decide, by decide⟩ ⟨by omega, by omega⟩
  have l2 := low_ok (dg b k a n : Nat) (b ^ u.length * b) (Nat.mul_pos (hpos _) (by omega)) qb9
  have p1 := plus_ok (p := (hv b k n u : Nat)) (r := (dg b k a n : Nat)) (hpos u.length) (s := b ^ u.length * b) (Nat.mul_pos (hpos _) (by omega)) a1.1 (pow4 hb (by omega)) (by
    have : dg b k a n < 2 ^ 4000 := Nat.lt_of_lt_of_le hdg (Nat.le_trans h10 (by decide))
    simpa using this) qb4
  have e2 : lowD ((hv b k n u : Nat) * ((b ^ u.length * b : Nat) : Int) + (dg b k a n : Nat) * ((b ^ u.length : Nat) : Int)) (b ^ u.length * (b ^ u.length * b)) = lowD (hv b k n (u ++ [a]) : Nat) (b ^ (u ++ [a]).length) := by
    rw [hq1]
    refine lowD_eq (Nat.mul_pos (hpos _) (Nat.mul_pos (hpos _) (by omega))) (Nat.mul_pos (hpos _) (by omega)) ?_
    rw [hv_snoc]
    simp only [Int.natCast_mul, Int.natCast_add, Int.add_mul]
    congr 1 <;> ac_rfl
  rw [e2] at p1
  have k1 : ∀ d, PlD 6 d → m__law_like 6 [d, d] () = .ok (.v (.bl true)) () := like_ok 6
  have k2 := k1 (lowD (hv b k n (u ++ [a]) : Nat) (b ^ (u ++ [a]).length)) pl_low
  have k3 := k1 (lowD 1 (b ^ u.length * b)) pl_low
  rw [hq1] at m2
  rw [low1] at m1 l1 m2 k3
  rw [low1 (q := b ^ u.length), low1 (q := b ^ u.length * b)]
  have l2 : m__law_low [.int (dg b k a n : Nat), .int (((b ^ u.length * b : Nat) : Int))] () = _ := l2
  rw [hq1] at j2 k2 p1
  generalize endsD b k (u ++ [a]) = X at *
  generalize endsD b k u = Y at *
  generalize lowD (hv b k n (u ++ [a]) : Nat) (b ^ u.length * b) = L1 at *
  generalize lowD ((hv b k n (u ++ [a]) : Nat) + 1) (b ^ u.length * b) = L2 at *
  generalize lowD (hv b k n u : Nat) (b ^ u.length) = L3 at *
  generalize lowD ((hv b k n u : Nat) + 1) (b ^ u.length) = L4 at *
  generalize lowD (dg b k a n : Nat) (b ^ u.length * b) = L5 at *
  generalize dg b k a n = dd at *
  generalize hQ : b ^ u.length = Q at *
  generalize hQb : Q * b = Qb at *
  have hQi : (Q : Int) * (b : Int) = (Qb : Int) := by rw [← hQb, Int.natCast_mul]
  simp [q__law_nested_2b, j1, j2, m1, m2, mq, hQi, l1, ld, md, l2, p1, k2, k3, truD]
end K05

set_option Elab.async false
set_option linter.all false
set_option maxRecDepth 100000
set_option exponentiation.threshold 1000000
namespace K05
open PySem PySem.Spec L2 DL
theorem nested_ok {N : Nat} {bx : Bx} (h : BxOk N bx) (hN : N + 2 ≤ 1000000) {b k : Nat} {w : List Nat} (hb : Bk b k) (hw : Wk b k w) (hl : w.length ≤ 200) :
    ∃ bx', m__law_nested [.box, .int b, .int k, .tup (wD w)] bx = .ok (.v (.bl true)) bx' ∧ BxOk (N + 2) bx' := by
  have h2 := hb.b2
  have h10 := hb.b10
  have hk : k < 1000000 := by rcases hb.k12 with h | h <;> omega
  obtain ⟨sz0, sz1⟩ := size_pow hb
  obtain ⟨at_, b1, d1, d2, d3⟩ := draw_ok h (by omega) (size := w.length + 1) (by omega) (by omega)
  obtain ⟨a, b2, e1, e2, e3⟩ := draw_ok d3 (by omega) (size := b ^ k) sz0 (by omega)
  have hu : Wk b k (w.take at_) := wk_take hw at_
  have hul : (w.take at_).length ≤ 200 := by rw [List.length_take]; omega
  have hwa : Wk b k (w.take at_ ++ [a]) := ⟨by rw [List.length_append, List.length_singleton]; omega, fun x hx => by
    rcases List.mem_append.mp hx with hx | hx
    · exact hu.lt x hx
    · rw [List.mem_singleton.mp hx]; exact e2⟩
  have c1 := cell_ok hb hw
  have c2 := ends_ok hb hu
  have c3 := cell_ok hb hwa
  have wi := within_ok (u := w.take at_) (v := w.drop at_) hb (by rw [List.take_append_drop]; exact hw) hu
  rw [List.take_append_drop] at wi
  have ct := cut_take' (w := w) (n := at_)
  have ap : wD (w.take at_) ++ [D.int (a : Int)] = wD (w.take at_ ++ [a]) := wD_append _ [a]
  have asz : (w.take at_).length + 1 ≤ sizeLine := szle (by omega)
  have d1 : m__law_draw [.box, .int ((w.length : Int) + 1)] bx = .ok (.v (.int (at_ : Int))) b1 := by rw [← d1]; congr 3
  obtain ⟨s', h1, s9, s10, s11, s12, h3⟩ := frM_run (t := q__law_nested_1t) (b := q__law_nested_2b) (fun n s => ∃ s9 s10 s11 s12, s = ⟨[.v .box, .v (.int b), .v (.int k), .v (.tup (wD w)), .v (.int ((b ^ k : Nat) : Int)), .v (.int at_), .v (endsD b k (w.take at_)), .v (.int a), .v (endsD b k (w.take at_ ++ [a])), s9, s10, s11, s12], b2⟩) (rgL 0 (k : Int)) 0
    ⟨[.v .box, .v (.int b), .v (.int k), .v (.tup (wD w)), .v (.int ((b ^ k : Nat) : Int)), .v (.int at_), .v (endsD b k (w.take at_)), .v (.int a), .v (endsD b k (w.take at_ ++ [a])), .no, .no, .no, .no], b2⟩ ⟨.no, .no, .no, .no, rfl⟩ fun n d s hx hI => by
    obtain ⟨s9, s10, s11, s12, rfl⟩ := hI
    obtain ⟨hn, rfl⟩ := rgL_get hx
    exact ⟨_, _, rfl, nested_step hb hwa hu (by omega) hn b2 _ _ _ _ s9 s10 s11 s12, .v (.int n), _, _, _, rfl⟩
  rw [h3] at h1
  refine ⟨b2, ?_, e3⟩
  rcases hb.k12 with rfl | rfl
  · have hp : ((b ^ 1 : Nat) : Int) = (b : Int) := by simp
    rw [hp] at h1 e1
    have c1 : m_cell [.int b, .int 1, .tup (wD w)] () = _ := c1
    have c2 : m__law_ends [.int b, .int 1, .tup (wD (w.take at_))] () = _ := c2
    have c3 : m_cell [.int b, .int 1, .tup (wD (w.take at_ ++ [a]))] () = _ := c3
    have r1 : rngD1 [.int 1] = some (rgL 0 ((1 : Nat) : Int)) := rng1_nat (n := 1) (by decide)
    have h1 : frM q__law_nested_1t q__law_nested_2b (rgL 0 ((1 : Nat) : Int)) ⟨[.v .box, .v (.int b), .v (.int 1), .v (.tup (wD w)), .v (.int b), .v (.int at_), .v (endsD b 1 (w.take at_)), .v (.int a), .v (endsD b 1 (w.take at_ ++ [a])), .no, .no, .no, .no], b2⟩ = _ := h1
    generalize endsD b 1 (w.take at_ ++ [a]) = X at *
    generalize endsD b 1 (w.take at_) = Y at *
    generalize endsD b 1 w = Z at *
    generalize w.take at_ ++ [a] = W at *
    generalize w.take at_ = U at *
    generalize rgL 0 ((1 : Nat) : Int) = RR at *
    simp [m__law_nested, b__law_nested, d1, c1, c2, ct, wi, truD, e1, ap, asz, c3, r1, h1]
  · have hp : ((b ^ 2 : Nat) : Int) = (b : Int) * b := by rw [Nat.pow_two, Int.natCast_mul]
    rw [hp] at h1 e1
    have mb : mulOk (b : Int) (b : Int) = true := mul_bd ⟨by omega, by omega⟩ ⟨by omega, by omega⟩
    have c1 : m_cell [.int b, .int 2, .tup (wD w)] () = _ := c1
    have c2 : m__law_ends [.int b, .int 2, .tup (wD (w.take at_))] () = _ := c2
    have c3 : m_cell [.int b, .int 2, .tup (wD (w.take at_ ++ [a]))] () = _ := c3
    have r1 : rngD1 [.int 2] = some (rgL 0 ((2 : Nat) : Int)) := rng1_nat (n := 2) (by decide)
    have h1 : frM q__law_nested_1t q__law_nested_2b (rgL 0 ((2 : Nat) : Int)) ⟨[.v .box, .v (.int b), .v (.int 2), .v (.tup (wD w)), .v (.int ((b : Int) * b)), .v (.int at_), .v (endsD b 2 (w.take at_)), .v (.int a), .v (endsD b 2 (w.take at_ ++ [a])), .no, .no, .no, .no], b2⟩ = _ := h1
    generalize endsD b 2 (w.take at_ ++ [a]) = X at *
    generalize endsD b 2 (w.take at_) = Y at *
    generalize endsD b 2 w = Z at *
    generalize w.take at_ ++ [a] = W at *
    generalize w.take at_ = U at *
    generalize rgL 0 ((2 : Nat) : Int) = RR at *
    simp [m__law_nested, b__law_nested, d1, c1, c2, ct, wi, truD, e1, ap, asz, c3, r1, h1, mb]
end K05

set_option Elab.async false
set_option linter.all false
set_option maxRecDepth 100000
set_option exponentiation.threshold 1000000
namespace K05
open PySem PySem.Spec L2 DL
theorem lpower_ok (b n : Nat) (hb : b ≤ 1000) (hn : n < 1000) : m__law_power [.int b, .int n] () = .ok (.v (.int ((b ^ n : Nat) : Int))) () := by
  have hbd : ∀ i, i < n → b ^ i < 2 ^ 20000 := fun i hi => by
    calc b ^ i ≤ 1000 ^ i := Nat.pow_le_pow_left hb i
      _ ≤ (2 ^ 10) ^ i := Nat.pow_le_pow_left (by decide) i
      _ = 2 ^ (10 * i) := (Nat.pow_mul 2 10 i).symm
      _ < 2 ^ 20000 := Nat.pow_lt_pow_right (by decide) (by omega)
  obtain ⟨s', h1, s3, h3⟩ := frM_run (t := q__law_power_1t) (b := q__law_power_2b) (fun i s => ∃ s3, s = ⟨[.v (.int b), .v (.int n), .v (.int ((b ^ i : Nat) : Int)), s3], ()⟩) (rgL 0 (n : Int)) 0 ⟨[.v (.int b), .v (.int n), .v (.int 1), .no], ()⟩ ⟨.no, rfl⟩ fun i d s hd hI => by
    obtain ⟨s3, rfl⟩ := hI
    obtain ⟨hi, rfl⟩ := rgL_get hd
    rw [Nat.zero_add]
    have m1 : mulOk ((b ^ i : Nat) : Int) (b : Int) = true := mul_nat (a := 20000) (b := 10) (hbd i hi) (by omega) (by decide) (by decide) (by decide)
    rw [Int.natCast_pow] at m1
    refine ⟨_, _, rfl, ?_, .v (.int i), rfl⟩
    rw [Nat.pow_succ]
    simp [q__law_power_2b, m1]
  rw [Nat.zero_add, rgL_len, Int.natCast_pow] at h3
  rw [h3] at h1
  simp [m__law_power, b__law_power, rng1_nat (show n < 1000000 by omega), h1]
def lvD (k q : Nat) : List D := if k = 1 then (List.range (q + 1)).map fun j : Nat => .tup [lowD (j : Int) q] else (List.range ((q + 1) * (q + 1))).map fun t : Nat => .tup [lowD ((t / (q + 1) : Nat) : Int) q, lowD ((t % (q + 1) : Nat) : Int) q]
theorem range_flat {α : Type} (L : Nat) (hL : 0 < L) (f : Nat → Nat → α) (n : Nat) : (List.range (n * L + L)).map (fun t => f (t / L) (t % L)) = (List.range (n * L)).map (fun t => f (t / L) (t % L)) ++ (List.range L).map (f n) := by
  rw [List.range_add, List.map_append, List.map_map]
  congr 1
  apply List.map_congr_left
  intro j hj
  have hj := List.mem_range.mp hj
  simp only [Function.comp]
  rw [Nat.add_comm, Nat.add_mul_div_right _ _ hL, Nat.add_mul_mod_self_right, Nat.div_eq_of_lt hj, Nat.mod_eq_of_lt hj, Nat.zero_add]
theorem points_ok {b k n : Nat} (hb : Bk b k) (hq : b ^ n ≤ 200) (hq2 : k = 2 → b ^ n ≤ 14) (hn : n < 100) : m_level_points [.int b, .int k, .int n] = some (lvD k (b ^ n)) := by
  have h2 := hb.b2
  have hp0 : 0 < b ^ n := Nat.pow_pos (by omega)
  have hpw := power_ok b n (by omega) (Nat.lt_of_le_of_lt hq (Nat.lt_trans (show 200 < 2 ^ 10 by decide) (Nat.pow_lt_pow_right (by decide) (by decide)))) (by omega)
  have h9 : b ^ n < 2 ^ 9000 := Nat.lt_of_le_of_lt hq (Nat.lt_trans (show 200 < 2 ^ 10 by decide) (Nat.pow_lt_pow_right (by decide) (by decide)))
  generalize hQ : b ^ n = q at *
  have fr : ∀ j : Nat, m_fraction [.int j, .int q] () = .ok (.v (lowD j q)) () := fun j => fraction_ok j q hp0 h9
  have r1 : rngD1 [.int ((q : Int) + 1)] = some (rgL 0 ((q + 1 : Nat) : Int)) := rng1_nat (n := q + 1) (by omega)
  rcases hb.k12 with rfl | rfl
  · obtain ⟨ys', s', h1, s4, s5, h3, h4⟩ := gFr_run (t := q_level_points_3t) (g := q_level_points_4b) (fun i ys s => ∃ s4 s5, s = ⟨[.v (.int b), .v (.int 1), .v (.int n), .v (.int q), s4, s5], ()⟩ ∧ ys = (List.range i).map fun j : Nat => .tup [lowD (j : Int) q]) (rgL 0 ((q + 1 : Nat) : Int)) 0 [] ⟨[.v (.int b), .v (.int 1), .v (.int n), .v (.int q), .no, .no], ()⟩ ⟨.no, .no, rfl, rfl⟩ fun i d ys s hd hI => by
      obtain ⟨s4, s5, rfl, rfl⟩ := hI
      obtain ⟨hi, rfl⟩ := rgL_get hd
      rw [Nat.zero_add]
      have hl : i < sizeLine := szlt (by omega)
      refine ⟨_, (List.range (i + 1)).map fun j : Nat => .tup [lowD (j : Int) q], _, rfl, ?_, .v (.int i), s5, rfl, rfl⟩
      rw [range_snoc]
      simp [q_level_points_4b, fr, hl]
    rw [Nat.zero_add, rgL_len] at h4
    subst h4
    generalize rgL 0 ((q + 1 : Nat) : Int) = RR at *
    simp [m_level_points, b_level_points, hpw, r1, h1, lvD]
  · have hq14 := hq2 rfl
    obtain ⟨ys', s', h1, s4, s5, h3, h4⟩ := gFr_run (t := q_level_points_3t) (g := q_level_points_4b) (fun i ys s => ∃ s4 s5, s = ⟨[.v (.int b), .v (.int 2), .v (.int n), .v (.int q), s4, s5], ()⟩ ∧ ys = (List.range (i * (q + 1))).map fun t : Nat => .tup [lowD ((t / (q + 1) : Nat) : Int) q, lowD ((t % (q + 1) : Nat) : Int) q]) (rgL 0 ((q + 1 : Nat) : Int)) 0 [] ⟨[.v (.int b), .v (.int 2), .v (.int n), .v (.int q), .no, .no], ()⟩ ⟨.no, .no, rfl, by simp⟩ fun i d ys s hd hI => by
      obtain ⟨s4, s5, rfl, hys⟩ := hI
      obtain ⟨hi, rfl⟩ := rgL_get hd
      rw [Nat.zero_add] at hys ⊢
      have hyl : ys.length ≤ 225 := by
        rw [hys]; simp
        have := Nat.mul_le_mul (show i ≤ 14 by omega) (show q + 1 ≤ 15 by omega)
        omega
      obtain ⟨ys2, s2, g1, t5, g3, g4⟩ := gFr_run (t := q_level_points_1t) (g := q_level_points_2b) (fun j zs s => ∃ t5, s = ⟨[.v (.int b), .v (.int 2), .v (.int n), .v (.int q), .v (.int i), t5], ()⟩ ∧ zs = ys ++ (List.range j).map fun j : Nat => .tup [lowD (i : Int) q, lowD (j : Int) q]) (rgL 0 ((q + 1 : Nat) : Int)) 0 ys ⟨[.v (.int b), .v (.int 2), .v (.int n), .v (.int q), .v (.int i), s5], ()⟩ ⟨s5, rfl, by simp⟩ fun j d zs s hd hI => by
        obtain ⟨t5, rfl, hzs⟩ := hI
        obtain ⟨hj, rfl⟩ := rgL_get hd
        rw [Nat.zero_add] at hzs ⊢
        have hl : zs.length < sizeLine := szlt (by rw [hzs]; simp; omega)
        refine ⟨_, zs ++ [.tup [lowD (i : Int) q, lowD (j : Int) q]], _, rfl, ?_, .v (.int j), rfl, by rw [hzs, range_snoc, List.append_assoc]⟩
        simp [q_level_points_2b, fr, hl]
      rw [Nat.zero_add, rgL_len] at g4
      refine ⟨_, ys2, _, rfl, ?_, .v (.int i), t5, rfl, ?_⟩
      · rw [g3] at g1
        generalize rgL 0 ((q + 1 : Nat) : Int) = RR at *
        simp [q_level_points_4b, r1, g1]
      · rw [g4, hys, Nat.add_mul, Nat.one_mul]
        exact (range_flat (q + 1) (by omega) (fun x y => D.tup [lowD ((x : Nat) : Int) q, lowD ((y : Nat) : Int) q]) i).symm
    rw [Nat.zero_add, rgL_len] at h4
    subst h4
    generalize rgL 0 ((q + 1 : Nat) : Int) = RR at *
    simp [m_level_points, b_level_points, hpw, r1, h1, lvD]
end K05

set_option Elab.async false
set_option linter.all false
set_option maxRecDepth 100000
set_option exponentiation.threshold 1000000
namespace K05
open PySem PySem.Spec L2 DL
theorem rgL1_get {m i : Nat} {d : D} (h : (rgL 1 (m : Int))[i]? = some d) : i + 1 < m ∧ d = .int ((i + 1 : Nat) : Int) := by
  have hi := (List.getElem?_eq_some_iff.mp h).1
  rw [rgL_length] at hi
  refine ⟨by omega, ?_⟩
  unfold rgL at h
  rw [List.getElem?_map, List.getElem?_range (by omega)] at h
  simp only [Option.map_some, Option.some.injEq] at h
  rw [← h]
  congr 1
  omega
theorem pl_lv {k q : Nat} (hq : q ≤ 200) : PlD 6 (.lst (lvD k q)) := by
  have hm : (q + 1) * (q + 1) ≤ 201 * 201 := Nat.mul_le_mul (by omega) (by omega)
  unfold lvD
  split
  · refine .lst (by simp; omega) fun d hd => ?_
    obtain ⟨j, _, rfl⟩ := List.mem_map.mp hd
    exact .tup (by simp) fun d hd => by rw [List.mem_singleton.mp hd]; exact pl_low
  · refine .lst (by simp; omega) fun d hd => ?_
    obtain ⟨j, _, rfl⟩ := List.mem_map.mp hd
    exact .tup (by simp) fun d hd => by
      simp at hd
      rcases hd with rfl | rfl <;> exact pl_low
def rowD (q : Nat) : List D := (List.range (q + 1)).map fun j : Nat => lowD (j : Int) q
theorem rowD_len (q : Nat) : (rowD q).length = q + 1 := by unfold rowD; simp
theorem rowD_get {q i : Nat} (h : i < q + 1) : (rowD q)[i]? = some (lowD (i : Int) q) := by
  unfold rowD
  rw [List.getElem?_map, List.getElem?_range h]
  rfl
theorem most_loop {b k most : Nat} (hb : Bk b k) (hm : 1 ≤ most) (bx : Bx) : ∃ (M : Nat) (s5 : DL.Slot), b ^ M ≤ most ∧ M ≤ 8 ∧ frM q__law_points_asked_1t q__law_points_asked_2b (rgL 1 ((9 : Nat) : Int)) ⟨[.v .box, .v (.int b), .v (.int k), .v (.int most), .v (.int 0), .no, .no, .no, .no, .no, .no], bx⟩ =
    .ok .nx ⟨[.v .box, .v (.int b), .v (.int k), .v (.int most), .v (.int M), s5, .no, .no, .no, .no, .no], bx⟩ := by
  have h10 := hb.b10
  obtain ⟨s', h1, M, s5, h3, h4, h5⟩ := frM_run (t := q__law_points_asked_1t) (b := q__law_points_asked_2b) (fun i s => ∃ (M : Nat) (s5 : DL.Slot), s = ⟨[.v .box, .v (.int b), .v (.int k), .v (.int most), .v (.int M), s5, .no, .no, .no, .no, .no], bx⟩ ∧ b ^ M ≤ most ∧ M ≤ 8) (rgL 1 ((9 : Nat) : Int)) 0
    ⟨[.v .box, .v (.int b), .v (.int k), .v (.int most), .v (.int 0), .no, .no, .no, .no, .no, .no], bx⟩ ⟨0, .no, rfl, by simpa using hm, by decide⟩ fun i d s hd hI => by
    obtain ⟨M, s5, rfl, h4, h5⟩ := hI
    obtain ⟨hi, rfl⟩ := rgL1_get hd
    have lp := lpower_ok b (i + 1) (by omega) (by omega)
    generalize hP : b ^ (i + 1) = P at lp
    generalize hj : i + 1 = j at *
    by_cases hle : P ≤ most
    · have hle' : (P : Int) ≤ (most : Int) := by omega
      refine ⟨_, _, rfl, ?_, j, .v (.int j), rfl, by rw [hP]; exact hle, by omega⟩
      simp [q__law_points_asked_2b, lp, hle, hle']
    · have hle' : ¬ (P : Int) ≤ (most : Int) := by omega
      refine ⟨_, _, rfl, ?_, M, .v (.int j), rfl, h4, h5⟩
      simp [q__law_points_asked_2b, lp, hle, hle']
  exact ⟨M, s5, h4, h5, by rw [h1, h3]⟩
theorem points_asked_ok {N : Nat} {bx : Bx} (h : BxOk N bx) (hN : N + 1 ≤ 1000000) {b k : Nat} (hb : Bk b k) : ∃ bx', m__law_points_asked [.box, .int b, .int k] bx = .ok (.v (.bl true)) bx' ∧ BxOk (N + 1) bx' := by
  have h2 := hb.b2
  have h10 := hb.b10
  obtain ⟨most, hmost⟩ : ∃ most, most = if k = 1 then 200 else 14 := ⟨_, rfl⟩
  have hm1 : 1 ≤ most ∧ most ≤ 200 ∧ (k = 2 → most = 14) := by
    rcases hb.k12 with rfl | rfl <;> simp at hmost <;> subst hmost <;> simp
  obtain ⟨M, s5, hM, hM8, hloop⟩ := most_loop hb hm1.1 bx
  obtain ⟨n, bx1, d1, d2, d3⟩ := draw_ok h (by omega) (size := M + 1) (by omega) (by omega)
  have hnM : b ^ n ≤ most := Nat.le_trans (Nat.pow_le_pow_right (by omega) (by omega)) hM
  have lp := lpower_ok b n (by omega) (by omega)
  have hpt := points_ok (n := n) hb (by omega) (fun z => by have := hm1.2.2 z; omega) (by omega)
  have hp0 : 0 < b ^ n := Nat.pow_pos (by omega)
  have hq200 : b ^ n ≤ 200 := by omega
  have hq14 : k = 2 → b ^ n ≤ 14 := fun z => by have := hm1.2.2 z; omega
  have h9 : b ^ n < 2 ^ 9000 := Nat.lt_of_le_of_lt hq200 (Nat.lt_trans (show 200 < 2 ^ 10 by decide) (Nat.pow_lt_pow_right (by decide) (by decide)))
  generalize hQ : b ^ n = q at *
  have lw : ∀ j : Nat, m__law_low [.int j, .int q] () = .ok (.v (lowD j q)) () := fun j => low_ok j q hp0 h9
  have r1 : rngD1 [.int ((q : Int) + 1)] = some (rgL 0 ((q + 1 : Nat) : Int)) := rng1_nat (n := q + 1) (by omega)
  have r2 : rngD2 [.int 1, .int 9] = some (rgL 1 ((9 : Nat) : Int)) := rng2_nat (n := 1) (m := 9) (by decide) (by decide)
  have d1 : m__law_draw [.box, .int ((M : Int) + 1)] bx = .ok (.v (.int (n : Int))) bx1 := d1
  have lk := like_ok 6 _ (pl_lv (k := k) hq200)
  -- the row
  obtain ⟨sr, c1, s9, c3⟩ := lcL_map (t := q__law_points_asked_3t) (e := q__law_points_asked_4e) (own := [9]) (fun i s => ∃ s9, s = ⟨[.v .box, .v (.int b), .v (.int k), .v (.int most), .v (.int n), s5, .v (.int q), .no, .no, s9, .no], bx1⟩) (fun j => lowD (j : Int) q) (rgL 0 ((q + 1 : Nat) : Int))
    ⟨[.v .box, .v (.int b), .v (.int k), .v (.int most), .v (.int n), s5, .v (.int q), .no, .no, .no, .no], bx1⟩ (by rw [rgL_len]; exact szle (by omega)) ⟨.no, rfl⟩ fun i d s hd hI => by
    obtain ⟨s9, rfl⟩ := hI
    obtain ⟨hi, rfl⟩ := rgL_get hd
    refine ⟨_, .v (lowD (i : Int) q), _, rfl, ?_, rfl, .v (.int i), rfl⟩
    simp [q__law_points_asked_4e, lw, wipeS]
  rw [rgL_len] at c1
  subst c3
  have c1 : lcL [9] q__law_points_asked_3t (mret true) q__law_points_asked_4e [] (rgL 0 ((q + 1 : Nat) : Int)) _ = .ok (rowD q) _ := c1
  -- due, one number
  obtain ⟨sr, e1, s10, e3⟩ := lcL_map (t := q__law_points_asked_5t) (e := q__law_points_asked_6e) (own := [10]) (fun i s => ∃ s10, s = ⟨[.v .box, .v (.int b), .v (.int k), .v (.int most), .v (.int n), s5, .v (.int q), .v (.lst (rowD q)), .no, .no, s10], bx1⟩) (fun j => .tup [lowD (j : Int) q]) (rowD q)
    ⟨[.v .box, .v (.int b), .v (.int k), .v (.int most), .v (.int n), s5, .v (.int q), .v (.lst (rowD q)), .no, .no, .no], bx1⟩ (by rw [rowD_len]; exact szle (by omega)) ⟨.no, rfl⟩ fun i d s hd hI => by
    obtain ⟨s10, rfl⟩ := hI
    have hi := (List.getElem?_eq_some_iff.mp hd).1
    rw [rowD_len] at hi
    rw [rowD_get hi] at hd
    cases hd
    refine ⟨_, .v (.tup [lowD (i : Int) q]), _, rfl, ?_, rfl, .v (lowD (i : Int) q), rfl⟩
    simp [q__law_points_asked_6e, wipeS]
  rw [rowD_len] at e1
  subst e3
  refine ⟨bx1, ?_, d3⟩
  rcases hb.k12 with rfl | rfl
  · have hm : most = 200 := by simpa using hmost
    subst hm
    have hlv : lvD 1 q = (List.range (q + 1)).map fun j : Nat => D.tup [lowD (j : Int) q] := rfl
    rw [← hlv] at e1
    have hpt : m_level_points [.int b, .int 1, .int n] = _ := hpt
    have hloop : frM q__law_points_asked_1t q__law_points_asked_2b (rgL 1 ((9 : Nat) : Int)) ⟨[.v .box, .v (.int b), .v (.int 1), .v (.int 200), .v (.int 0), .no, .no, .no, .no, .no, .no], bx⟩ = _ := hloop
    have c1 : lcL [9] q__law_points_asked_3t (mret true) q__law_points_asked_4e [] (rgL 0 ((q + 1 : Nat) : Int)) ⟨[.v .box, .v (.int b), .v (.int 1), .v (.int 200), .v (.int n), s5, .v (.int q), .no, .no, .no, .no], bx1⟩ = .ok (rowD q) ⟨[.v .box, .v (.int b), .v (.int 1), .v (.int 200), .v (.int n), s5, .v (.int q), .no, .no, s9, .no], bx1⟩ := c1
    have e1 : lcL [10] q__law_points_asked_5t (mret true) q__law_points_asked_6e [] (rowD q) ⟨[.v .box, .v (.int b), .v (.int 1), .v (.int 200), .v (.int n), s5, .v (.int q), .v (.lst (rowD q)), .no, .no, .no], bx1⟩ = .ok (lvD 1 q) ⟨[.v .box, .v (.int b), .v (.int 1), .v (.int 200), .v (.int n), s5, .v (.int q), .v (.lst (rowD q)), .no, .no, s10], bx1⟩ := e1
    generalize lvD 1 q = LV at *
    generalize rowD q = RW at *
    generalize rgL 0 ((q + 1 : Nat) : Int) = RR at *
    generalize rgL 1 ((9 : Nat) : Int) = R9 at *
    simp [m__law_points_asked, b__law_points_asked, r2, hloop, d1, lp, r1, c1, e1, hpt, lk, noX_ap, wipeOk, notO, restS, perm, perm_cons]
  · have hm : most = 14 := by simpa using hmost
    subst hm
    have hq14 := hq14 rfl
    have hsq : (q + 1) * (q + 1) ≤ 15 * 15 := Nat.mul_le_mul (by omega) (by omega)
    obtain ⟨L1, hL1⟩ : ∃ L1, L1 = (List.range (q + 1)).map fun j : Nat => D.tup [lowD (j : Int) q] := ⟨_, rfl⟩
    rw [← hL1] at e1
    have r3 : rngD1 [.int (((q : Int) + 1) * ((q : Int) + 1))] = some (rgL 0 (((q + 1) * (q + 1) : Nat) : Int)) := by
      rw [← rng1_nat (n := (q + 1) * (q + 1)) (by omega)]
      simp
    have mq : mulOk ((q : Int) + 1) ((q : Int) + 1) = true := mul_bd ⟨by omega, by omega⟩ ⟨by omega, by omega⟩
    have lg : (q + 1).log2 < 9000 := fd_nat (by omega) (Nat.lt_of_le_of_lt (show q + 1 ≤ 2 ^ 10 by omega) (Nat.pow_lt_pow_right (by decide) (by decide)))
    have lg' : ((q : Int) + 1).natAbs.log2 < 9000 := by rw [show ((q : Int) + 1).natAbs = q + 1 by omega]; exact lg
    have pq : (0 : Int) < (q : Int) + 1 := by omega
    have pq0 : 0 < q + 1 := by omega
    have rl := rowD_len q
    obtain ⟨sr, f1, s9', f3⟩ := lcL_map (t := q__law_points_asked_7t) (e := q__law_points_asked_8e) (own := [9]) (fun i s => ∃ s9, s = ⟨[.v .box, .v (.int b), .v (.int 2), .v (.int 14), .v (.int n), s5, .v (.int q), .v (.lst (rowD q)), .o L1, s9, .no], bx1⟩) (fun t => .tup [lowD ((t / (q + 1) : Nat) : Int) q, lowD ((t % (q + 1) : Nat) : Int) q]) (rgL 0 (((q + 1) * (q + 1) : Nat) : Int))
      ⟨[.v .box, .v (.int b), .v (.int 2), .v (.int 14), .v (.int n), s5, .v (.int q), .v (.lst (rowD q)), .o L1, .no, .no], bx1⟩ (by rw [rgL_len]; exact szle (by omega)) ⟨.no, rfl⟩ fun t d s hd hI => by
      obtain ⟨s9, rfl⟩ := hI
      obtain ⟨ht, rfl⟩ := rgL_get hd
      have t1 : t / (q + 1) < q + 1 := Nat.div_lt_of_lt_mul ht
      have t2 : t % (q + 1) < q + 1 := Nat.mod_lt _ pq0
      have a1 : atI (rowD q) ((t : Int) / ((q : Int) + 1)) = some (lowD ((t / (q + 1) : Nat) : Int) q) := by
        rw [show (t : Int) / ((q : Int) + 1) = ((t / (q + 1) : Nat) : Int) by simp, atI_cast, rowD_get t1]
      have a2 : atI (rowD q) ((t : Int) % ((q : Int) + 1)) = some (lowD ((t % (q + 1) : Nat) : Int) q) := by
        rw [show (t : Int) % ((q : Int) + 1) = ((t % (q + 1) : Nat) : Int) by simp, atI_cast, rowD_get t2]
      generalize lowD ((t / (q + 1) : Nat) : Int) q = A1 at *
      generalize lowD ((t % (q + 1) : Nat) : Int) q = A2 at *
      refine ⟨_, .v (.tup [A1, A2]), _, rfl, ?_, rfl, .v (.int t), rfl⟩
      simp [q__law_points_asked_8e, wipeS, rl, pq, lg, lg', a1, a2]
    rw [rgL_len] at f1
    subst f3
    have hlv : lvD 2 q = (List.range ((q + 1) * (q + 1))).map fun t : Nat => D.tup [lowD ((t / (q + 1) : Nat) : Int) q, lowD ((t % (q + 1) : Nat) : Int) q] := rfl
    rw [← hlv] at f1
    have hpt : m_level_points [.int b, .int 2, .int n] = _ := hpt
    have hloop : frM q__law_points_asked_1t q__law_points_asked_2b (rgL 1 ((9 : Nat) : Int)) ⟨[.v .box, .v (.int b), .v (.int 2), .v (.int 14), .v (.int 0), .no, .no, .no, .no, .no, .no], bx⟩ = _ := hloop
    have c1 : lcL [9] q__law_points_asked_3t (mret true) q__law_points_asked_4e [] (rgL 0 ((q + 1 : Nat) : Int)) ⟨[.v .box, .v (.int b), .v (.int 2), .v (.int 14), .v (.int n), s5, .v (.int q), .no, .no, .no, .no], bx1⟩ = .ok (rowD q) ⟨[.v .box, .v (.int b), .v (.int 2), .v (.int 14), .v (.int n), s5, .v (.int q), .no, .no, s9, .no], bx1⟩ := c1
    have e1 : lcL [10] q__law_points_asked_5t (mret true) q__law_points_asked_6e [] (rowD q) ⟨[.v .box, .v (.int b), .v (.int 2), .v (.int 14), .v (.int n), s5, .v (.int q), .v (.lst (rowD q)), .no, .no, .no], bx1⟩ = .ok L1 ⟨[.v .box, .v (.int b), .v (.int 2), .v (.int 14), .v (.int n), s5, .v (.int q), .v (.lst (rowD q)), .no, .no, s10], bx1⟩ := e1
    generalize lvD 2 q = LV at *
    generalize rowD q = RW at *
    generalize rgL 0 ((q + 1 : Nat) : Int) = RR at *
    generalize rgL 0 (((q + 1) * (q + 1) : Nat) : Int) = R2 at *
    generalize rgL 1 ((9 : Nat) : Int) = R9 at *
    simp [m__law_points_asked, b__law_points_asked, r2, hloop, d1, lp, r1, c1, e1, rl, mq, r3, f1, hpt, lk, noX_ap, wipeOk, notO, restS, perm, perm_cons]
end K05

set_option Elab.async false
set_option linter.all false
set_option maxRecDepth 100000
set_option exponentiation.threshold 1000000
namespace K05
open PySem PySem.Spec L2 DL
theorem ixN_cast {n i : Nat} (h : i < n) : ixN n (i : Int) = some i := by
  unfold ixN
  rw [if_pos (Int.natCast_nonneg i), if_pos (by omega)]
  simp
theorem zeros_set (y : List Nat) (e z : Nat) : (wD (y ++ e :: List.replicate z 0)).set y.length (.int 0) = wD (y ++ List.replicate (z + 1) 0) := by
  unfold wD
  rw [List.map_append, List.map_append, List.set_append_right _ _ (by simp)]
  simp [List.replicate_succ]
theorem odo_inner (H : Nat) (p0 p1 p2 p3 p4 p5 : DL.Slot) : ∀ (n : Nat) (y : List Nat) (z fuel : Nat), y.length = n → n + 1 ≤ fuel →
    ∃ (t : List Nat) (at_ : Int), whM fuel q_words_of_1c q_words_of_2b ⟨[p0, p1, p2, p3, p4, p5, .v (.int H), .o (wD (y ++ List.replicate z 0)), .v (.int ((n : Int) - 1))], ()⟩ = .ok .nx ⟨[p0, p1, p2, p3, p4, p5, .v (.int H), .o (wD t), .v (.int at_)], ()⟩ ∧
      ((y = List.replicate n H ∧ at_ < 0) ∨ ∃ x d c, y = x ++ d :: List.replicate c H ∧ d ≠ H ∧ t = x ++ d :: List.replicate (c + z) 0 ∧ at_ = (x.length : Int)) := by
  intro n
  induction n with
  | zero =>
    intro y z fuel hy hf
    obtain ⟨fuel, rfl⟩ : ∃ m, fuel = m + 1 := ⟨fuel - 1, by omega⟩
    have hy0 : y = [] := List.eq_nil_of_length_eq_zero hy
    subst hy0
    refine ⟨List.replicate z 0, -1, ?_, .inl ⟨rfl, by decide⟩⟩
    rw [whM_succ]
    simp [q_words_of_1c]
  | succ n ih =>
    intro y z fuel hy hf
    obtain ⟨fuel, rfl⟩ : ∃ m, fuel = m + 1 := ⟨fuel - 1, by omega⟩
    obtain ⟨y', e, rfl⟩ : ∃ y' e, y = y' ++ [e] := by
      rcases List.eq_nil_or_concat y with h | ⟨l, b, h⟩
      · subst h; simp at hy
      · exact ⟨l, b, by rw [h, List.concat_eq_append]⟩
    have hl : y'.length = n := by simp at hy; exact hy
    have e1 : (((n + 1 : Nat) : Int) - 1) = (n : Int) := by omega
    have e2 : y' ++ [e] ++ List.replicate z 0 = y' ++ e :: List.replicate z 0 := by simp
    rw [e1, e2, whM_succ]
    have g : atI (wD (y' ++ e :: List.replicate z 0)) (n : Int) = some (.int (e : Int)) := by
      rw [atI_cast]
      unfold wD
      rw [List.getElem?_map, List.getElem?_append_right (by omega), hl]
      simp
    have hn0 : (0 : Int) ≤ (n : Int) := by omega
    by_cases he : e = H
    · subst he
      obtain ⟨t, at_, h1, h2⟩ := ih y' (z + 1) fuel hl (by omega)
      refine ⟨t, at_, ?_, ?_⟩
      · rw [← h1]
        have hz := zeros_set y' e z
        rw [hl] at hz
        have hix : ixN (wD (y' ++ e :: List.replicate z 0)).length (n : Int) = some n := ixN_cast (by simp; omega)
        generalize whM fuel q_words_of_1c q_words_of_2b = K at *
        generalize wD (y' ++ e :: List.replicate z 0) = W at *
        generalize wD (y' ++ List.replicate (z + 1) 0) = W' at *
        simp [q_words_of_1c, q_words_of_2b, g, hix, hz]
      · rcases h2 with ⟨h3, h4⟩ | ⟨x, d, c, h3, h4, h5, h6⟩
        · left
          exact ⟨by rw [h3, List.replicate_succ' (n := n)], h4⟩
        · right
          exact ⟨x, d, c + 1, by rw [h3, List.replicate_succ' (n := c)]; simp, h4, by rw [h5]; congr 3; omega, h6⟩
    · have he' : ¬ (e : Int) = (H : Int) := by omega
      refine ⟨y' ++ e :: List.replicate z 0, (n : Int), ?_, .inr ⟨y', e, 0, by simp, he, by simp, by rw [hl]⟩⟩
      generalize wD (y' ++ e :: List.replicate z 0) = W at *
      simp [q_words_of_1c, g, he, he']
/-! the words in order -/
def wat (B m j : Nat) : List Nat := ((List.range m).map fun t => j / B ^ t % B).reverse
theorem wat_len (B m j : Nat) : (wat B m j).length = m := by unfold wat; simp
theorem wat_succ (B m j : Nat) : wat B (m + 1) j = (j / B ^ m % B) :: wat B m j := by
  unfold wat
  rw [range_snoc, List.reverse_append]
  rfl
def nextw (B : Nat) : List Nat → Option (List Nat)
  | [] => none
  | a :: w => match nextw B w with
    | some w' => some (a :: w')
    | none => if a + 1 < B then some ((a + 1) :: List.replicate w.length 0) else none
theorem next_none (B c : Nat) (hB : 0 < B) : nextw B (List.replicate c (B - 1)) = none := by
  induction c with
  | zero => rfl
  | succ c ih =>
    rw [List.replicate_succ]
    unfold nextw
    rw [ih]
    simp only
    rw [if_neg (by omega)]
theorem next_some (B c d : Nat) (hB : 0 < B) (hd : d + 1 < B) : ∀ x : List Nat, nextw B (x ++ d :: List.replicate c (B - 1)) = some (x ++ (d + 1) :: List.replicate c 0)
  | [] => by
    show nextw B (d :: List.replicate c (B - 1)) = _
    unfold nextw
    rw [next_none B c hB]
    simp only
    rw [if_pos hd]
    simp
  | a :: x => by
    show nextw B (a :: (x ++ d :: List.replicate c (B - 1))) = _
    unfold nextw
    rw [next_some B c d hB hd x]
    rfl
theorem wat_zero (B : Nat) : ∀ (m j : Nat), j % B ^ m = 0 → wat B m j = List.replicate m 0
  | 0, _, _ => rfl
  | m + 1, j, h => by
    have h1 : j % B ^ m = 0 := by
      have : B ^ m ∣ j := Nat.dvd_trans (Nat.pow_dvd_pow B (Nat.le_succ m)) (Nat.dvd_of_mod_eq_zero h)
      exact Nat.mod_eq_zero_of_dvd this
    rw [wat_succ, wat_zero B m j h1, List.replicate_succ]
    congr 1
    rw [Nat.pow_succ] at h
    have h2 : j % (B ^ m * B) / B ^ m = j / B ^ m % B := Nat.mod_mul_right_div_self _ _ _
    rw [← h2, h]
    simp
theorem next_wat (B : Nat) (hB : 0 < B) : ∀ (m j : Nat), nextw B (wat B m j) = if j % B ^ m + 1 < B ^ m then some (wat B m (j + 1)) else none
  | 0, j => by simp [wat, nextw, Nat.mod_one]
  | m + 1, j => by
    have hp : 0 < B ^ m := Nat.pow_pos hB
    have hmod : j % B ^ (m + 1) = j % B ^ m + B ^ m * (j / B ^ m % B) := by rw [Nat.pow_succ, Nat.mod_mul]
    have htop : j / B ^ m % B < B := Nat.mod_lt _ hB
    have hlow : j % B ^ m < B ^ m := Nat.mod_lt _ hp
    rw [wat_succ]
    unfold nextw
    rw [next_wat B hB m j]
    by_cases h1 : j % B ^ m + 1 < B ^ m
    · rw [if_pos h1]
      simp only
      have hb : j % B ^ (m + 1) + 1 < B ^ (m + 1) := by
        rw [hmod, Nat.pow_succ]
        have : B ^ m * (j / B ^ m % B) + B ^ m ≤ B ^ m * B := by
          rw [← Nat.mul_succ]
          exact Nat.mul_le_mul_left _ htop
        omega
      rw [if_pos hb, wat_succ]
      congr 2
      have hdiv : (j + 1) / B ^ m = j / B ^ m := by
        have h3 := Nat.div_add_mod j (B ^ m)
        have h4 : j + 1 = (j % B ^ m + 1) + B ^ m * (j / B ^ m) := by omega
        rw [h4, Nat.add_mul_div_left _ _ hp, Nat.div_eq_of_lt h1, Nat.zero_add]
      rw [hdiv]
    · rw [if_neg h1]
      simp only
      have h2 : j % B ^ m + 1 = B ^ m := by omega
      have h4 : j + 1 = B ^ m * (j / B ^ m + 1) := by
        have h3 := Nat.div_add_mod j (B ^ m)
        rw [Nat.mul_add, Nat.mul_one]
        omega
      have hdiv : (j + 1) / B ^ m = j / B ^ m + 1 := by rw [h4, Nat.mul_div_cancel_left _ hp]
      have hz : wat B m (j + 1) = List.replicate m 0 := wat_zero B m _ (by rw [h4, Nat.mul_mod_right])
      have hcond : (j % B ^ (m + 1) + 1 < B ^ (m + 1)) ↔ (j / B ^ m % B + 1 < B) := by
        rw [hmod, Nat.pow_succ]
        have e : j % B ^ m + B ^ m * (j / B ^ m % B) + 1 = B ^ m * (j / B ^ m % B + 1) := by rw [Nat.mul_add, Nat.mul_one]; omega
        rw [e]
        exact Nat.mul_lt_mul_left hp
      by_cases h5 : j / B ^ m % B + 1 < B
      · rw [if_pos h5, if_pos (hcond.mpr h5), wat_succ, hz, wat_len, hdiv]
        congr 2
        have h6 : (j / B ^ m + 1) % B = j / B ^ m % B + 1 := by
          rw [Nat.add_mod, Nat.mod_eq_of_lt (show 1 < B by omega), Nat.mod_eq_of_lt h5]
        rw [h6]
      · rw [if_neg h5, if_neg fun z => h5 (hcond.mp z)]
end K05

set_option Elab.async false
set_option linter.all false
set_option maxRecDepth 100000
set_option exponentiation.threshold 1000000
namespace K05
open PySem PySem.Spec L2 DL
theorem wD_mid (x : List Nat) (d : Nat) (ys : List Nat) : (wD (x ++ d :: ys))[x.length]? = some (.int (d : Int)) := by
  unfold wD
  rw [List.getElem?_map, List.getElem?_append_right (Nat.le_refl _)]
  simp
theorem wD_setmid (x : List Nat) (d e : Nat) (ys : List Nat) : (wD (x ++ d :: ys)).set x.length (.int (e : Int)) = wD (x ++ e :: ys) := by
  unfold wD
  rw [List.map_append, List.map_append, List.set_append_right _ _ (by simp)]
  simp
theorem words_step (H m : Nat) (a w : List Nat) (ys : List D) (K : GM Unit) (p0 p1 p2 p3 sat : DL.Slot) (hm : w.length = m) (hm2 : m < 100000) (ha : a.length < 100000) (hw : ∀ d ∈ w, d ≤ H) (hys : ys.length < sizeLine) :
    (∀ w', nextw (H + 1) w = some w' → ∃ sat', mbind (q_words_of_4b ys) (gLoop K) ⟨[p0, p1, p2, p3, .v (.tup (wD a)), .v (.int m), .v (.int H), .o (wD w), sat], ()⟩ = K (ys ++ [.tup (wD (a ++ w))]) ⟨[p0, p1, p2, p3, .v (.tup (wD a)), .v (.int m), .v (.int H), .o (wD w'), sat'], ()⟩) ∧
    (nextw (H + 1) w = none → ∃ s', mbind (q_words_of_4b ys) (gLoop K) ⟨[p0, p1, p2, p3, .v (.tup (wD a)), .v (.int m), .v (.int H), .o (wD w), sat], ()⟩ = .ok (.rt (.v .non), ys ++ [.tup (wD (a ++ w))]) s') := by
  obtain ⟨t, at_, h1, h2⟩ := odo_inner H p0 p1 p2 p3 (.v (.tup (wD a))) (.v (.int m)) m w 0 1000000 hm (by omega)
  rw [List.replicate_zero, List.append_nil] at h1
  have ap := wD_append a w
  have sz : (wD (a ++ w)).length ≤ sizeLine := szle (by simp; omega)
  have sz' : a.length + w.length ≤ sizeLine := szle (by omega)
  rcases h2 with ⟨h3, h4⟩ | ⟨x, d, c, h3, h4, h5, h6⟩
  · have nn : nextw (H + 1) w = none := by rw [h3]; exact next_none (H + 1) m (by omega)
    refine ⟨fun w' h => (by rw [nn] at h; cases h), fun _ => ⟨⟨[p0, p1, p2, p3, .v (.tup (wD a)), .v (.int m), .v (.int H), .o (wD t), .v (.int at_)], ()⟩, ?_⟩⟩
    generalize hL : whM 1000000 q_words_of_1c q_words_of_2b = L at h1
    generalize wD t = T at *
    simp [q_words_of_4b, hL, h1, h4, ap, hys, sz']
  · have hd : d < H := by
      have := hw d (by rw [h3]; simp)
      omega
    have ns : nextw (H + 1) w = some (x ++ (d + 1) :: List.replicate c 0) := by rw [h3]; exact next_some (H + 1) c d (by omega) (by omega) x
    refine ⟨fun w' h => ?_, fun h => (by rw [ns] at h; cases h)⟩
    rw [ns] at h
    cases h
    refine ⟨.v (.int at_), ?_⟩
    rw [Nat.add_zero] at h5
    subst h5
    have g1 := wD_mid x d (List.replicate c 0)
    have g2 := wD_setmid x d (d + 1) (List.replicate c 0)
    have hlt : x.length < (wD (x ++ d :: List.replicate c 0)).length := by simp
    have g3 : ixN (wD (x ++ d :: List.replicate c 0)).length at_ = some x.length := by rw [h6]; exact ixN_cast hlt
    have g4 : atI (wD (x ++ d :: List.replicate c 0)) at_ = some (.int (d : Int)) := by rw [h6, atI_cast]; exact g1
    have hat : ¬ at_ < 0 := by omega
    have e1 : ((d : Int) + 1) = ((d + 1 : Nat) : Int) := by omega
    generalize hL : whM 1000000 q_words_of_1c q_words_of_2b = L at h1
    generalize wD (x ++ d :: List.replicate c 0) = T at *
    have g2' : T.set x.length (.int ((d : Int) + 1)) = wD (x ++ (d + 1) :: List.replicate c 0) := by rw [e1]; exact g2
    generalize wD (x ++ (d + 1) :: List.replicate c 0) = T2 at *
    simp [q_words_of_4b, hL, h1, hat, ap, hys, sz', g3, g4, g2', Option.filter]
theorem wat_lt {B m j : Nat} (hB : 0 < B) : ∀ d ∈ wat B m j, d < B := fun d hd => by
  unfold wat at hd
  rw [List.mem_reverse] at hd
  obtain ⟨t, _, rfl⟩ := List.mem_map.mp hd
  exact Nat.mod_lt _ hB
def wordsD (B m : Nat) (a : List Nat) : List D := (List.range (B ^ m)).map fun j => .tup (wD (a ++ wat B m j))
theorem words_loop (H m : Nat) (a : List Nat) (p0 p1 p2 p3 : DL.Slot) (hm : m < 100000) (ha : a.length < 100000) (hz : (H + 1) ^ m < 1000000) : ∀ (n j fuel : Nat) (ys : List D) (sat : DL.Slot), j + n + 1 = (H + 1) ^ m → n + 1 ≤ fuel → ys = (List.range j).map (fun j => D.tup (wD (a ++ wat (H + 1) m j))) →
    ∃ s', gWh fuel q_words_of_3c q_words_of_4b ys ⟨[p0, p1, p2, p3, .v (.tup (wD a)), .v (.int m), .v (.int H), .o (wD (wat (H + 1) m j)), sat], ()⟩ = .ok (.rt (.v .non), wordsD (H + 1) m a) s' := by
  intro n
  induction n with
  | zero =>
    intro j fuel ys sat hj hf hys
    obtain ⟨fuel, rfl⟩ : ∃ k, fuel = k + 1 := ⟨fuel - 1, by omega⟩
    have hmod : j % (H + 1) ^ m = j := Nat.mod_eq_of_lt (by omega)
    have nn : nextw (H + 1) (wat (H + 1) m j) = none := by rw [next_wat (H + 1) (by omega), hmod, if_neg (by omega)]
    obtain ⟨s', hs⟩ := (words_step H m a (wat (H + 1) m j) ys (gWh fuel q_words_of_3c q_words_of_4b) p0 p1 p2 p3 sat (wat_len _ _ _) hm ha (fun d hd => by have := wat_lt (B := H + 1) (by omega) d hd; omega) (by rw [hys]; exact szlt (by simp; omega))).2 nn
    refine ⟨s', ?_⟩
    rw [gWh_succ]
    generalize gWh fuel q_words_of_3c q_words_of_4b = K at *
    have e : ys ++ [D.tup (wD (a ++ wat (H + 1) m j))] = wordsD (H + 1) m a := by
      unfold wordsD
      rw [hys, ← hj, show j + 0 + 1 = j + 1 by omega, range_snoc]
    rw [e] at hs
    rw [← hs]
    generalize mbind (q_words_of_4b ys) (gLoop K) = Z
    simp [q_words_of_3c, truD]
  | succ n ih =>
    intro j fuel ys sat hj hf hys
    obtain ⟨fuel, rfl⟩ : ∃ k, fuel = k + 1 := ⟨fuel - 1, by omega⟩
    have hmod : j % (H + 1) ^ m = j := Nat.mod_eq_of_lt (by omega)
    have nn : nextw (H + 1) (wat (H + 1) m j) = some (wat (H + 1) m (j + 1)) := by rw [next_wat (H + 1) (by omega), hmod, if_pos (by omega)]
    obtain ⟨sat', hs⟩ := (words_step H m a (wat (H + 1) m j) ys (gWh fuel q_words_of_3c q_words_of_4b) p0 p1 p2 p3 sat (wat_len _ _ _) hm ha (fun d hd => by have := wat_lt (B := H + 1) (by omega) d hd; omega) (by rw [hys]; exact szlt (by simp; omega))).1 _ nn
    obtain ⟨s', hh⟩ := ih (j + 1) fuel (ys ++ [D.tup (wD (a ++ wat (H + 1) m j))]) sat' (by omega) (by omega) (by rw [hys, range_snoc])
    refine ⟨s', ?_⟩
    rw [gWh_succ, ← hh, ← hs]
    generalize gWh fuel q_words_of_3c q_words_of_4b = K at *
    generalize mbind (q_words_of_4b ys) (gLoop K) = Z
    simp [q_words_of_3c, truD]
theorem letters_ok {b k : Nat} (hb : Bk b k) : m_letter_count [.int b, .int k] () = .ok (.v (.int ((b ^ k : Nat) : Int))) () := by
  have h10 := hb.b10
  have m1 : mulOk (b : Int) (b : Int) = true := mul_bd ⟨by omega, by omega⟩ ⟨by omega, by omega⟩
  rcases hb.k12 with rfl | rfl
  · simp [m_letter_count, b_letter_count]
  · have e : ((b ^ 2 : Nat) : Int) = (b : Int) * b := by rw [Nat.pow_two, Int.natCast_mul]
    rw [e]
    simp [m_letter_count, b_letter_count, m1]
/-- behind: a tuple or a list -/
theorem words_ok {b k n : Nat} {a : List Nat} (hb : Bk b k) (f : List D → D) (hf : f = .tup ∨ f = .lst) (hn : n < 1000) (ha : a.length < 1000) (hz : a.length ≤ n → (b ^ k) ^ (n - a.length) < 1000000) :
    m_words_of [.int b, .int k, .int n, f (wD a)] = some (if n < a.length then [] else wordsD (b ^ k) (n - a.length) a) := by
  have lc := letters_ok hb
  obtain ⟨s0, s1⟩ := size_pow hb
  have tF : tupleF [f (wD a)] = some (.v (.tup (wD a))) := by rcases hf with rfl | rfl <;> simp
  by_cases hlt : n < a.length
  · have hlt' : (n : Int) - (a.length : Int) < 0 := by omega
    rw [if_pos hlt]
    simp [m_words_of, b_words_of, tF, hlt', hlt]
  · rw [if_neg hlt]
    have hz' := hz (by omega)
    obtain ⟨m, hm⟩ : ∃ m, m = n - a.length := ⟨_, rfl⟩
    rw [← hm] at hz' ⊢
    have hmi : (n : Int) - (a.length : Int) = (m : Int) := by omega
    have hlt' : ¬ (m : Int) < 0 := by omega
    obtain ⟨H, hH⟩ : ∃ H, b ^ k = H + 1 := ⟨b ^ k - 1, by omega⟩
    rw [hH] at hz' lc ⊢
    have hHi : (((H + 1 : Nat) : Int) - 1) = (H : Int) := by omega
    have hpos : 0 < (H + 1) ^ m := Nat.pow_pos (by omega)
    have w0 : wat (H + 1) m 0 = List.replicate m 0 := wat_zero _ _ _ (by simp)
    obtain ⟨s', hl⟩ := words_loop H m a (.v (.int b)) (.v (.int k)) (.v (.int n)) (.v (f (wD a))) (by omega) (by omega) hz' ((H + 1) ^ m - 1) 0 1000000 [] .no (by omega) (by omega) rfl
    rw [w0] at hl
    have hrep : (List.replicate m [D.int 0]).flatten = wD (List.replicate m 0) := by unfold wD; simp
    have hr0 : List.replicate m (D.int 0) = wD (List.replicate m 0) := by unfold wD; simp
    have b1 : -(2 ^ 63) ≤ (m : Int) ∧ (m : Int) < 2 ^ 63 := by omega
    have ml : mulD (.lst [.int 0]) (.int m) = some (.o (wD (List.replicate m 0))) := by
      rw [mulD_lst, if_pos ⟨b1.1, b1.2, by simp; exact szle (by omega)⟩]
      simp [hrep, hr0]
    have lc' : m_letter_count [.int b, .int k] () = .ok (.v (.int ((H : Int) + 1))) () := by rw [lc]; rfl
    generalize hK : gWh 1000000 q_words_of_3c q_words_of_4b = K at hl
    simp [m_words_of, b_words_of, tF, hmi, hlt', lc', ml, hK, hl]
end K05

set_option Elab.async false
set_option linter.all false
set_option maxRecDepth 100000
set_option exponentiation.threshold 1000000
namespace K05
open PySem PySem.Spec L2 DL
theorem toPys_wD : ∀ w : List Nat, toPys (wD w) = some (w.map fun a : Nat => PyData.int (a : Int))
  | [] => by unfold wD toPys; rfl
  | a :: w => by
    have ih := toPys_wD w
    unfold wD at ih ⊢
    rw [List.map_cons]
    unfold toPys
    rw [ih]
    unfold toPy
    rfl
theorem lay_ints : ∀ w : List Nat, PyData.canLayAll0 (w.map fun a : Nat => PyData.int (a : Int)) = true
  | [] => by simp [PyData.canLayAll0]
  | a :: w => by simp [PyData.canLayAll0, PyData.canLay0, lay_ints w]
theorem dep_ints : ∀ w : List Nat, PyData.depthAll (w.map fun a : Nat => PyData.int (a : Int)) = 0
  | [] => by simp [PyData.depthAll]
  | a :: w => by simp [PyData.depthAll, PyData.depth, dep_ints w]
theorem shaped_tw (w : List Nat) : SeqAt.shaped (.tuple (w.map fun a : Nat => PyData.int (a : Int))) = true := by
  unfold SeqAt.shaped
  simp [PyData.canLay0, lay_ints, PyData.depth, dep_ints]
theorem eqD_nil (w : List Nat) : eqD (.tup (wD w)) (.tup []) = some (.v (.bl w.isEmpty)) := by
  have h0 : toPy (.tup []) = some (.tuple []) := by
    unfold toPy toPys
    rfl
  have h1 : toPy (.tup (wD w)) = some (.tuple (w.map fun a : Nat => PyData.int (a : Int))) := by
    unfold toPy
    rw [toPys_wD]
    rfl
  have s0 : SeqAt.shaped (.tuple []) = true := shaped_tw []
  unfold eqD
  rw [h0, h1]
  simp only [shaped_tw, s0, and_self, if_true]
  cases w with
  | nil => simp [PyData.eqv, PyData.eqvAll]
  | cons a w => simp [PyData.eqv, PyData.eqvAll]
theorem wD_snoc (w : List Nat) (a : Nat) : wD w ++ [D.int (a : Int)] = wD (w ++ [a]) := wD_append w [a]
theorem word_at_ok (B m j : Nat) (h0 : 0 < B) (hB : B < 1000) (hm : m < 1000) : m__law_word_at [.int B, .int m, .int j] () = .ok (.v (.tup (wD (wat B m j)))) () := by
  have hlg := small_lg h0 hB
  have hB' : (0 : Int) < (B : Int) := by omega
  obtain ⟨s', h1, s5, h3⟩ := frM_run (t := q__law_word_at_1t) (b := q__law_word_at_2b) (fun i s => ∃ s5, s = ⟨[.v (.int B), .v (.int m), .v (.int j), .o (wD ((List.range i).map fun t => j / B ^ t % B)), .v (.int ((j / B ^ i : Nat) : Int)), s5], ()⟩) (rgL 0 (m : Int)) 0 ⟨[.v (.int B), .v (.int m), .v (.int j), .o [], .v (.int j), .no], ()⟩ ⟨.no, by simp [wD]⟩ fun i d s hd hI => by
    obtain ⟨s5, rfl⟩ := hI
    obtain ⟨hi, rfl⟩ := rgL_get hd
    rw [Nat.zero_add]
    have hsz : i < sizeLine := szlt (by omega)
    have e1 : j / B ^ (i + 1) = j / B ^ i / B := by rw [Nat.pow_succ, Nat.div_div_eq_div_mul]
    have ws := wD_snoc ((List.range i).map fun t => j / B ^ t % B) (j / B ^ i % B)
    have hlen : (wD ((List.range i).map fun t => j / B ^ t % B)).length = i := by simp
    refine ⟨_, _, rfl, ?_, .v (.int i), rfl⟩
    rw [e1, range_snoc, ← ws]
    generalize j / B ^ i = r at *
    generalize wD ((List.range i).map fun t => j / B ^ t % B) = W at *
    simp [q__law_word_at_2b, hB', h0, hlg, hlen, hsz]
  rw [Nat.zero_add, rgL_len] at h3
  rw [h3] at h1
  have hrev : (wD ((List.range m).map fun t => j / B ^ t % B)).reverse = wD (wat B m j) := by unfold wD wat; rw [List.map_reverse]
  generalize wD ((List.range m).map fun t => j / B ^ t % B) = W at *
  generalize wD (wat B m j) = W2 at *
  simp [m__law_word_at, b__law_word_at, noX_ap, rng1_nat (show m < 1000000 by omega), h1, hrev]
theorem turn_loop {b k B : Nat} (hB : B ≤ 100) (bx : Bx) : ∃ (M : Nat) (s5 : DL.Slot), B ^ M ≤ 130 ∧ M ≤ 7 ∧ frM q__law_words_asked_1t q__law_words_asked_2b (rgL 1 ((8 : Nat) : Int)) ⟨[.v .box, .v (.int b), .v (.int k), .v (.int B), .v (.int 0), .no, .no, .no, .no, .no, .no], bx⟩ =
    .ok .nx ⟨[.v .box, .v (.int b), .v (.int k), .v (.int B), .v (.int M), s5, .no, .no, .no, .no, .no], bx⟩ := by
  obtain ⟨s', h1, M, s5, h3, h4, h5⟩ := frM_run (t := q__law_words_asked_1t) (b := q__law_words_asked_2b) (fun i s => ∃ (M : Nat) (s5 : DL.Slot), s = ⟨[.v .box, .v (.int b), .v (.int k), .v (.int B), .v (.int M), s5, .no, .no, .no, .no, .no], bx⟩ ∧ B ^ M ≤ 130 ∧ M ≤ 7) (rgL 1 ((8 : Nat) : Int)) 0
    ⟨[.v .box, .v (.int b), .v (.int k), .v (.int B), .v (.int 0), .no, .no, .no, .no, .no, .no], bx⟩ ⟨0, .no, rfl, by simp, by decide⟩ fun i d s hd hI => by
    obtain ⟨M, s5, rfl, h4, h5⟩ := hI
    obtain ⟨hi, rfl⟩ := rgL1_get hd
    have lp := lpower_ok B (i + 1) (by omega) (by omega)
    generalize hP : B ^ (i + 1) = P at lp
    generalize hj : i + 1 = j at *
    by_cases hle : P ≤ 130
    · have hle' : (P : Int) ≤ 130 := by omega
      refine ⟨_, _, rfl, ?_, j, .v (.int j), rfl, by rw [hP]; exact hle, by omega⟩
      simp [q__law_words_asked_2b, lp, hle, hle']
    · have hle' : ¬ (P : Int) ≤ 130 := by omega
      refine ⟨_, _, rfl, ?_, M, .v (.int j), rfl, h4, h5⟩
      simp [q__law_words_asked_2b, lp, hle, hle']
  exact ⟨M, s5, h4, h5, by rw [h1, h3]⟩
theorem pl_word {n : Nat} {w : List Nat} (hw : w.length < 1000000) : PlD (n + 2) (.tup (wD w)) := .tup (by simpa using hw) fun d hd => by
  unfold wD at hd
  obtain ⟨a, _, rfl⟩ := List.mem_map.mp hd
  exact .int
theorem pl_words {n B m : Nat} {a : List Nat} (h : B ^ m < 1000000) (hm : m < 1000) (ha : a.length < 1000) : PlD (n + 3) (.lst (wordsD B m a)) := .lst (by unfold wordsD; simpa using h) fun d hd => by
  unfold wordsD at hd
  obtain ⟨j, _, rfl⟩ := List.mem_map.mp hd
  exact pl_word (by rw [List.length_append, wat_len]; omega)
end K05

set_option Elab.async false
set_option linter.all false
set_option maxRecDepth 100000
set_option exponentiation.threshold 1000000
namespace K05
open PySem PySem.Spec L2 DL
theorem pl_e : PlD 6 (.lst [.lst [.tup []], .lst [.tup []]]) := .lst (by simp) fun d hd => by
  simp at hd
  subst hd
  exact .lst (by simp) fun d hd => by
    rw [List.mem_singleton.mp hd]
    exact .tup (by simp) fun d hd => by simp at hd
theorem pl_s {w : List Nat} (h : w.length < 1000) : PlD 6 (.lst [.lst [], .lst [.tup (wD w)]]) := .lst (by simp) fun d hd => by
  simp at hd
  rcases hd with rfl | rfl
  · exact .lst (by simp) fun d hd => by simp at hd
  · exact .lst (by simp) fun d hd => by
      rw [List.mem_singleton.mp hd]
      exact pl_word (by omega)
theorem words_asked_ok {N : Nat} {bx : Bx} (h : BxOk N bx) (hN : N + 20 ≤ 1000000) {b k : Nat} (hb : Bk b k) : ∃ bx', m__law_words_asked [.box, .int b, .int k] bx = .ok (.v (.bl true)) bx' ∧ BxOk (N + 20) bx' := by
  have h2 := hb.b2
  have h10 := hb.b10
  obtain ⟨B0, B1⟩ := size_pow hb
  have mb : mulOk (b : Int) (b : Int) = true := mul_bd ⟨by omega, by omega⟩ ⟨by omega, by omega⟩
  have wk := fun (n : Nat) (a : List Nat) (f : List D → D) (hf : f = .tup ∨ f = .lst) (hn : n < 1000) (ha : a.length < 1000) (hz : a.length ≤ n → (b ^ k) ^ (n - a.length) < 1000000) => words_ok hb f hf hn ha hz
  have hBi : (if k = 1 then (b : Int) else (b : Int) * b) = ((b ^ k : Nat) : Int) := by
    rcases hb.k12 with rfl | rfl
    · simp
    · rw [if_neg (by decide), Nat.pow_two, Int.natCast_mul]
  generalize hB : b ^ k = B at *
  obtain ⟨M, s5, hM, hM7, hloop⟩ := turn_loop (b := b) (k := k) (B := B) (by omega) bx
  obtain ⟨n, b1, d1, d2, d3⟩ := draw_ok h (by omega) (size := M + 1) (by omega) (by omega)
  have d1 : m__law_draw [.box, .int ((M : Int) + 1)] bx = .ok (.v (.int (n : Int))) b1 := d1
  have pw : ∀ e, e ≤ n → B ^ e ≤ 130 := fun e he => Nat.le_trans (Nat.pow_le_pow_right B0 (by omega)) hM
  obtain ⟨len, b2, e1, e2, e3⟩ := draw_ok d3 (by omega) (size := 9) (by decide) (by decide)
  have e1 : m__law_draw [.box, .int 9] b1 = .ok (.v (.int (len : Int))) b2 := e1
  obtain ⟨w, b3, f1, f2, f3, f4⟩ := signs_ok e3 (size := B) (many := len) (by omega) B0 (by omega) (by omega)
  obtain ⟨e, b4, g1, g2, g3⟩ := draw_ok f4 (by omega) (size := n + 1) (by omega) (by omega)
  have g1 : m__law_draw [.box, .int ((n : Int) + 1)] b3 = .ok (.v (.int (e : Int))) b4 := g1
  subst f2
  have hw9 : w.length < 9 := by omega
  have pwn := pw n (by omega)
  have pwe := pw e (by omega)
  -- the words told
  have w1 := wk n [] .tup (.inl rfl) (by omega) (by simp) (fun _ => by simp; omega)
  have w2 := wk (w.length + e) w .tup (.inl rfl) (by omega) (by omega) (fun _ => by rw [Nat.add_sub_cancel_left]; omega)
  have w3 := wk (w.length + e) w .lst (.inr rfl) (by omega) (by omega) (fun _ => by rw [Nat.add_sub_cancel_left]; omega)
  have w4 := wk 0 [] .tup (.inl rfl) (by omega) (by simp) (fun _ => by simp)
  have w5 := wk w.length w .tup (.inl rfl) (by omega) (by omega) (fun _ => by simp)
  rw [if_neg (by omega), Nat.add_sub_cancel_left] at w2 w3
  rw [if_neg (by simp)] at w1 w4
  rw [if_neg (by omega), Nat.sub_self] at w5
  have n0 : n - ([] : List Nat).length = n := by simp
  rw [n0] at w1
  have wd0 : wD [] = [] := rfl
  rw [wd0] at w1 w4
  have l1 := like_ok 6 _ (pl_words (B := B) (m := n) (a := []) (by omega) (by omega) (by simp))
  have l2 := like_ok 6 _ (pl_words (B := B) (m := e) (a := w) (by omega) (by omega) (by omega))
  have lp1 := lpower_ok B n (by omega) (by omega)
  have lp2 := lpower_ok B e (by omega) (by omega)
  have r1 : rngD2 [.int 1, .int 8] = some (rgL 1 ((8 : Nat) : Int)) := rng2_nat (n := 1) (m := 8) (by decide) (by decide)
  have r2 := rng1_nat (n := B ^ n) (by omega)
  have r3 := rng1_nat (n := B ^ e) (by omega)
  -- due
  obtain ⟨sr, c1, s10, c3⟩ := lcL_map (t := q__law_words_asked_3t) (e := q__law_words_asked_4e) (own := [10]) (fun i s => ∃ s10, s = ⟨[.v .box, .v (.int b), .v (.int k), .v (.int B), .v (.int n), s5, .no, .no, .no, .no, s10], b1⟩) (fun j => .tup (wD ([] ++ wat B n j))) (rgL 0 ((B ^ n : Nat) : Int))
    ⟨[.v .box, .v (.int b), .v (.int k), .v (.int B), .v (.int n), s5, .no, .no, .no, .no, .no], b1⟩ (by rw [rgL_len]; exact szle (by omega)) ⟨.no, rfl⟩ fun i d s hd hI => by
    obtain ⟨s10, rfl⟩ := hI
    obtain ⟨hi, rfl⟩ := rgL_get hd
    have wa := word_at_ok B n i B0 (by omega) (by omega)
    refine ⟨_, .v (.tup (wD (wat B n i))), _, rfl, ?_, rfl, .v (.int i), rfl⟩
    simp [q__law_words_asked_4e, wa, wipeS]
  rw [rgL_len] at c1
  subst c3
  have c1 : lcL [10] q__law_words_asked_3t (mret true) q__law_words_asked_4e [] (rgL 0 ((B ^ n : Nat) : Int)) ⟨[.v .box, .v (.int b), .v (.int k), .v (.int B), .v (.int n), s5, .no, .no, .no, .no, .no], b1⟩ = .ok (wordsD B n []) ⟨[.v .box, .v (.int b), .v (.int k), .v (.int B), .v (.int n), s5, .no, .no, .no, .no, s10], b1⟩ := c1
  have hmore : ((w.length : Int) + (e : Int)) - (w.length : Int) = (e : Int) := by omega
  have hmn : ((w.length + e : Nat) : Int) = (w.length : Int) + (e : Int) := by omega
  obtain ⟨sr, k1, s10', k3⟩ := lcL_map (t := q__law_words_asked_5t) (e := q__law_words_asked_6e) (own := [10]) (fun i s => ∃ s10, s = ⟨[.v .box, .v (.int b), .v (.int k), .v (.int B), .v (.int n), s5, .v (.lst (wordsD B n [])), .v (.tup (wD w)), .v (.int ((w.length : Int) + e)), .no, s10], b4⟩) (fun j => .tup (wD (w ++ wat B e j))) (rgL 0 ((B ^ e : Nat) : Int))
    ⟨[.v .box, .v (.int b), .v (.int k), .v (.int B), .v (.int n), s5, .v (.lst (wordsD B n [])), .v (.tup (wD w)), .v (.int ((w.length : Int) + e)), .no, .no], b4⟩ (by rw [rgL_len]; exact szle (by omega)) ⟨.no, rfl⟩ fun i d s hd hI => by
    obtain ⟨s10, rfl⟩ := hI
    obtain ⟨hi, rfl⟩ := rgL_get hd
    have wa := word_at_ok B e i B0 (by omega) (by omega)
    have ap := wD_append w (wat B e i)
    have sz : w.length + (wat B e i).length ≤ sizeLine := szle (by rw [wat_len]; omega)
    refine ⟨_, .v (.tup (wD (w ++ wat B e i))), _, rfl, ?_, rfl, .v (.int i), rfl⟩
    generalize wat B e i = U at *
    simp [q__law_words_asked_6e, wipeS, hmore, wa, ap, sz]
  rw [rgL_len] at k1
  subst k3
  have k1 : lcL [10] q__law_words_asked_5t (mret true) q__law_words_asked_6e [] (rgL 0 ((B ^ e : Nat) : Int)) ⟨[.v .box, .v (.int b), .v (.int k), .v (.int B), .v (.int n), s5, .v (.lst (wordsD B n [])), .v (.tup (wD w)), .v (.int ((w.length : Int) + e)), .no, .no], b4⟩ = .ok (wordsD B e w) ⟨[.v .box, .v (.int b), .v (.int k), .v (.int B), .v (.int n), s5, .v (.lst (wordsD B n [])), .v (.tup (wD w)), .v (.int ((w.length : Int) + e)), .no, s10'], b4⟩ := k1
  rw [hmn] at w2 w3
  have W00 : wordsD B 0 [] = [.tup []] := rfl
  have W0w : wordsD B 0 w = [.tup (wD w)] := by unfold wordsD; simp [wat]
  rcases hb.k12 with rfl | rfl
  · have hb1 : B = b := by rw [← hB]; simp
    subst hb1
    have w1 : m_words_of [.int B, .int 1, .int n, .tup []] = _ := w1
    have w2 : m_words_of [.int B, .int 1, .int ((w.length : Int) + e), .tup (wD w)] = _ := w2
    have w3 : m_words_of [.int B, .int 1, .int ((w.length : Int) + e), .lst (wD w)] = _ := w3
    have w5 : m_words_of [.int B, .int 1, .int w.length, .tup (wD w)] = _ := w5
    have hloop : frM q__law_words_asked_1t q__law_words_asked_2b (rgL 1 ((8 : Nat) : Int)) ⟨[.v .box, .v (.int B), .v (.int 1), .v (.int B), .v (.int 0), .no, .no, .no, .no, .no, .no], bx⟩ = _ := hloop
    have c1 : lcL [10] q__law_words_asked_3t (mret true) q__law_words_asked_4e [] (rgL 0 ((B ^ n : Nat) : Int)) ⟨[.v .box, .v (.int B), .v (.int 1), .v (.int B), .v (.int n), s5, .no, .no, .no, .no, .no], b1⟩ = _ := c1
    have k1 : lcL [10] q__law_words_asked_5t (mret true) q__law_words_asked_6e [] (rgL 0 ((B ^ e : Nat) : Int)) ⟨[.v .box, .v (.int B), .v (.int 1), .v (.int B), .v (.int n), s5, .v (.lst (wordsD B n [])), .v (.tup (wD w)), .v (.int ((w.length : Int) + e)), .no, .no], b4⟩ = _ := k1
    generalize rgL 0 ((B ^ n : Nat) : Int) = RN at *
    generalize rgL 0 ((B ^ e : Nat) : Int) = RE at *
    generalize rgL 1 ((8 : Nat) : Int) = R8 at *
    rw [Int.natCast_pow] at lp1 lp2 r2 r3
    by_cases hw0 : w = []
    · have hie : w.isEmpty = true := by rw [hw0]; rfl
      have w7 : m_words_of [.int B, .int 1, .int 0, .tup (wD w)] = some [.tup []] := by rw [hw0]; exact w4
      have w4 : m_words_of [.int B, .int 1, .int 0, .tup []] = some [.tup []] := w4
      have l3 := like_ok 6 (.lst [.lst [.tup []], .lst [.tup []]]) pl_e
      refine ⟨b4, ?_, g3.mono (by omega)⟩
      simp [m__law_words_asked, b__law_words_asked, noX_ap, mb, r1, hloop, d1, lp1, r2, c1, wipeOk, notO, restS, w1, l1, truD, e1, f1, g1, hmore, lp2, r3, k1, w2, w3, l2, perm, perm_cons, eqD_nil, hie, w4, w7, l3]
    · have hie : w.isEmpty = false := by cases w <;> simp at hw0 ⊢
      obtain ⟨sh, b5, h1, h2', h3⟩ := draw_ok g3 (by omega) (size := w.length) (by cases w <;> simp at hw0 ⊢) (by omega)
      have w6 := wk sh w .tup (.inl rfl) (by omega) (by omega) (fun z => by omega)
      rw [if_pos h2'] at w6
      have w6 : m_words_of [.int B, .int 1, .int sh, .tup (wD w)] = some [] := w6
      rw [W0w] at w5
      have l4 := like_ok 6 (.lst [.lst [], .lst [.tup (wD w)]]) (pl_s (by omega))
      refine ⟨b5, ?_, h3.mono (by omega)⟩
      simp [m__law_words_asked, b__law_words_asked, noX_ap, mb, r1, hloop, d1, lp1, r2, c1, wipeOk, notO, restS, w1, l1, truD, e1, f1, g1, hmore, lp2, r3, k1, w2, w3, l2, perm, perm_cons, eqD_nil, hie, h1, w5, w6, l4]
  · have hBi : (b : Int) * (b : Int) = (B : Int) := by rw [← hBi]; simp
    have w1 : m_words_of [.int b, .int 2, .int n, .tup []] = _ := w1
    have w2 : m_words_of [.int b, .int 2, .int ((w.length : Int) + e), .tup (wD w)] = _ := w2
    have w3 : m_words_of [.int b, .int 2, .int ((w.length : Int) + e), .lst (wD w)] = _ := w3
    have w5 : m_words_of [.int b, .int 2, .int w.length, .tup (wD w)] = _ := w5
    have hloop : frM q__law_words_asked_1t q__law_words_asked_2b (rgL 1 ((8 : Nat) : Int)) ⟨[.v .box, .v (.int b), .v (.int 2), .v (.int B), .v (.int 0), .no, .no, .no, .no, .no, .no], bx⟩ = _ := hloop
    have c1 : lcL [10] q__law_words_asked_3t (mret true) q__law_words_asked_4e [] (rgL 0 ((B ^ n : Nat) : Int)) ⟨[.v .box, .v (.int b), .v (.int 2), .v (.int B), .v (.int n), s5, .no, .no, .no, .no, .no], b1⟩ = _ := c1
    have k1 : lcL [10] q__law_words_asked_5t (mret true) q__law_words_asked_6e [] (rgL 0 ((B ^ e : Nat) : Int)) ⟨[.v .box, .v (.int b), .v (.int 2), .v (.int B), .v (.int n), s5, .v (.lst (wordsD B n [])), .v (.tup (wD w)), .v (.int ((w.length : Int) + e)), .no, .no], b4⟩ = _ := k1
    generalize rgL 0 ((B ^ n : Nat) : Int) = RN at *
    generalize rgL 0 ((B ^ e : Nat) : Int) = RE at *
    generalize rgL 1 ((8 : Nat) : Int) = R8 at *
    rw [Int.natCast_pow] at lp1 lp2 r2 r3
    by_cases hw0 : w = []
    · have hie : w.isEmpty = true := by rw [hw0]; rfl
      have w7 : m_words_of [.int b, .int 2, .int 0, .tup (wD w)] = some [.tup []] := by rw [hw0]; exact w4
      have w4 : m_words_of [.int b, .int 2, .int 0, .tup []] = some [.tup []] := w4
      have l3 := like_ok 6 (.lst [.lst [.tup []], .lst [.tup []]]) pl_e
      refine ⟨b4, ?_, g3.mono (by omega)⟩
      simp [m__law_words_asked, b__law_words_asked, noX_ap, mb, hBi, r1, hloop, d1, lp1, r2, c1, wipeOk, notO, restS, w1, l1, truD, e1, f1, g1, hmore, lp2, r3, k1, w2, w3, l2, perm, perm_cons, eqD_nil, hie, w4, w7, l3]
    · have hie : w.isEmpty = false := by cases w <;> simp at hw0 ⊢
      obtain ⟨sh, b5, h1, h2', h3⟩ := draw_ok g3 (by omega) (size := w.length) (by cases w <;> simp at hw0 ⊢) (by omega)
      have w6 := wk sh w .tup (.inl rfl) (by omega) (by omega) (fun z => by omega)
      rw [if_pos h2'] at w6
      have w6 : m_words_of [.int b, .int 2, .int sh, .tup (wD w)] = some [] := w6
      rw [W0w] at w5
      have l4 := like_ok 6 (.lst [.lst [], .lst [.tup (wD w)]]) (pl_s (by omega))
      refine ⟨b5, ?_, h3.mono (by omega)⟩
      simp [m__law_words_asked, b__law_words_asked, noX_ap, mb, hBi, r1, hloop, d1, lp1, r2, c1, wipeOk, notO, restS, w1, l1, truD, e1, f1, g1, hmore, lp2, r3, k1, w2, w3, l2, perm, perm_cons, eqD_nil, hie, h1, w5, w6, l4]
end K05

set_option Elab.async false
set_option linter.all false
set_option maxRecDepth 100000
set_option exponentiation.threshold 1000000
namespace K05
open PySem PySem.Spec L2 DL
theorem alike_ok {b k : Nat} (hb : Bk b k) {N : Nat} {bx : Bx} (h : BxOk N bx) (hN : N + 10 ≤ 1000000) (p2 p6 s7 s8 : DL.Slot) :
    ∃ s7' s8' bx', frM q_law_3t q_law_4b (rgL 0 ((3 : Nat) : Int)) ⟨[.no, .v .box, p2, .v (.int b), .v (.int k), .v (.int ((b ^ k : Nat) : Int)), p6, s7, s8, .no], bx⟩ = .ok .nx ⟨[.no, .v .box, p2, .v (.int b), .v (.int k), .v (.int ((b ^ k : Nat) : Int)), p6, s7', s8', .no], bx'⟩ ∧ BxOk (N + 6) bx' := by
  obtain ⟨B0, B1⟩ := size_pow hb
  generalize hB : b ^ k = B at *
  obtain ⟨s', h1, s7', s8', bx', h3, h4⟩ := frM_run (t := q_law_3t) (b := q_law_4b) (fun n s => ∃ s7 s8 bx', s = ⟨[.no, .v .box, p2, .v (.int b), .v (.int k), .v (.int (B : Int)), p6, s7, s8, .no], bx'⟩ ∧ BxOk (N + 2 * n) bx') (rgL 0 ((3 : Nat) : Int)) 0 ⟨[.no, .v .box, p2, .v (.int b), .v (.int k), .v (.int (B : Int)), p6, s7, s8, .no], bx⟩ ⟨s7, s8, bx, rfl, h⟩ fun n d s hd hI => by
    obtain ⟨s7, s8, bx1, rfl, hx⟩ := hI
    obtain ⟨hn, rfl⟩ := rgL_get hd
    rw [Nat.zero_add] at hx ⊢
    obtain ⟨d, b1, d1, d2, d3⟩ := draw_ok hx (by omega) (size := B) B0 (by omega)
    obtain ⟨v, b2, o1, o2, o3⟩ := of_ok d3 (by omega) 0 (B - 1) d
    have o1 : m__law_of [.box, .lst [.int 0, .int ((B : Int) - 1), .int d]] b1 = .ok (.v (.int v)) b2 := by
      rw [← o1, show ((B : Int) - 1) = ((B - 1 : Nat) : Int) by omega]; rfl
    have hv : v < B := by rcases o2 with rfl | rfl | rfl <;> omega
    have hw : Wk b k (List.replicate (n + 1) v) := ⟨by simp; omega, fun a ha => by rw [(List.mem_replicate.mp ha).2, hB]; exact hv⟩
    have ca := cell_asked_ok b2 hb hw
    have r1 : rngD1 [.int ((n : Int) + 1)] = some (rgL 0 ((n + 1 : Nat) : Int)) := rng1_nat (n := n + 1) (by omega)
    obtain ⟨sr, c1, s9, c3⟩ := lcL_map (t := q_law_1t) (e := q_law_2e) (own := [9]) (fun i s => ∃ s9, s = ⟨[.no, .v .box, p2, .v (.int b), .v (.int k), .v (.int (B : Int)), p6, .v (.int n), .v (.int v), s9], b2⟩) (fun _ => D.int (v : Int)) (rgL 0 ((n + 1 : Nat) : Int)) ⟨[.no, .v .box, p2, .v (.int b), .v (.int k), .v (.int (B : Int)), p6, .v (.int n), .v (.int v), .no], b2⟩ (by rw [rgL_len]; exact szle (by omega)) ⟨.no, rfl⟩ fun i d s hd hI => by
      obtain ⟨s9, rfl⟩ := hI
      obtain ⟨hi, rfl⟩ := rgL_get hd
      exact ⟨_, .v (.int v), _, rfl, rfl, rfl, .v (.int i), rfl⟩
    rw [rgL_len] at c1
    subst c3
    have e : (List.range (n + 1)).map (fun _ => D.int (v : Int)) = wD (List.replicate (n + 1) v) := by
      unfold wD
      rw [List.map_replicate]
      apply List.ext_getElem?
      intro i
      by_cases hi : i < n + 1
      · rw [List.getElem?_map, List.getElem?_range hi, List.getElem?_replicate, if_pos hi]; rfl
      · rw [List.getElem?_eq_none (by simp; omega), List.getElem?_eq_none (by simp; omega)]
    rw [e] at c1
    refine ⟨_, _, rfl, ?_, .v (.int n), .v (.int v), b2, rfl, o3.mono (by omega)⟩
    generalize wD (List.replicate (n + 1) v) = W at *
    generalize rgL 0 ((n + 1 : Nat) : Int) = RR at *
    simp [q_law_4b, d1, o1, r1, c1, wipeOk, notO, noX_ap, restS, ca, truD]
  exact ⟨s7', s8', bx', by rw [h1, h3], by rw [Nat.zero_add, rgL_len] at h4; exact h4⟩
theorem turn_ok {N : Nat} {bx : Bx} (h : BxOk N bx) (hN : N + 1000 ≤ 1000000) (p2 s3 s4 s5 s6 s7 s8 : DL.Slot) :
    ∃ s3' s4' s5' s6' s7' s8' bx', q_law_6b ⟨[.no, .v .box, p2, s3, s4, s5, s6, s7, s8, .no], bx⟩ = .ok .nx ⟨[.no, .v .box, p2, s3', s4', s5', s6', s7', s8', .no], bx'⟩ ∧ BxOk (N + 1000) bx' := by
  obtain ⟨b, k, b1, r1, hb, _, r3⟩ := room_ok h (by omega)
  have h2 := hb.b2
  have h10 := hb.b10
  obtain ⟨B0, B1⟩ := size_pow hb
  obtain ⟨d, b2, d1, d2, d3⟩ := draw_ok r3 (by omega) (size := 10) (by decide) (by decide)
  have d1 : m__law_draw [.box, .int 10] b1 = .ok (.v (.int d)) b2 := d1
  -- how many letters
  obtain ⟨n, b3, n1, n2, n3⟩ : ∃ (n : Nat) (b3 : Bx), (if d = 0 then m__law_draw [.box, .int 300] b2 = .ok (.v (.int n)) b3 else m__law_draw [.box, .int 9] b2 = .ok (.v (.int n)) b3) ∧ n < 300 ∧ BxOk (N + 4) b3 := by
    by_cases hd : d = 0
    · obtain ⟨n, b3, n1, n2, n3⟩ := draw_ok d3 (by omega) (size := 300) (by decide) (by decide)
      exact ⟨n, b3, by rw [if_pos hd]; exact n1, n2, n3⟩
    · obtain ⟨n, b3, n1, n2, n3⟩ := draw_ok d3 (by omega) (size := 9) (by decide) (by decide)
      exact ⟨n, b3, by rw [if_neg hd]; exact n1, by omega, n3⟩
  obtain ⟨w, b4, s1, s2, s3_, s4_⟩ := signs_ok n3 (size := b ^ k) (many := n) (by omega) B0 (by omega) (by omega)
  have hw : Wk b k w := ⟨by omega, s3_⟩
  have ca := cell_asked_ok b4 hb hw
  have ce := cell_asked_ok b4 hb (w := []) ⟨by simp, by simp⟩
  have ce : m__law_cell_asked [.box, .int b, .int k, .tup []] b4 = _ := ce
  obtain ⟨b5, e1, e2⟩ := nested_ok s4_ (by omega) hb (wk_take hw 40) (by rw [List.length_take]; omega)
  obtain ⟨b6, f1, f2⟩ := points_asked_ok e2 (by omega) hb
  obtain ⟨b7, g1, g2⟩ := words_asked_ok f2 (by omega) hb
  have ct : cutL (wD w) none (some 40) = wD (w.take 40) := cut_take' (n := 40)
  have rg : rngD1 [.int 3] = some (rgL 0 ((3 : Nat) : Int)) := rng1_nat (n := 3) (by decide)
  obtain ⟨s7', s8', b8, i1, i2⟩ := alike_ok hb g2 (by omega) p2 (.v (.tup (wD w))) s7 s8
  have mb : mulOk (b : Int) (b : Int) = true := mul_bd ⟨by omega, by omega⟩ ⟨by omega, by omega⟩
  refine ⟨.v (.int b), .v (.int k), .v (.int ((b ^ k : Nat) : Int)), .v (.tup (wD w)), s7', s8', b8, ?_, i2.mono (by omega)⟩
  generalize hR : rgL 0 ((3 : Nat) : Int) = RR at *
  generalize hT : wD (w.take 40) = T at *
  generalize hW : wD w = W at *
  have hBi : (if k = 1 then (b : Int) else (b : Int) * b) = ((b ^ k : Nat) : Int) := by
    rcases hb.k12 with rfl | rfl
    · simp
    · rw [if_neg (by decide), Nat.pow_two, Int.natCast_mul]
  generalize hB : b ^ k = B at *
  rcases hb.k12 with rfl | rfl
  · have hb1 : B = b := by rw [← hB]; simp
    subst hb1
    by_cases hd : d = 0
    · rw [if_pos hd] at n1
      subst hd
      have d1 : m__law_draw [.box, .int 10] b1 = .ok (.v (.int 0)) b2 := d1
      have r1 : m__law_room [.box] bx = .ok (.v (.tup [.int B, .int 1])) b1 := r1
      have ca : m__law_cell_asked [.box, .int B, .int 1, .tup W] b4 = _ := ca
      have ce : m__law_cell_asked [.box, .int B, .int 1, .tup []] b4 = _ := ce
      have e1 : m__law_nested [.box, .int B, .int 1, .tup T] b4 = _ := e1
      have f1 : m__law_points_asked [.box, .int B, .int 1] b5 = _ := f1
      have g1 : m__law_words_asked [.box, .int B, .int 1] b6 = _ := g1
      have n1 : m__law_draw [.box, .int 300] b2 = _ := n1
      have i1 : frM q_law_3t q_law_4b RR ⟨[.no, .v .box, p2, .v (.int B), .v (.int 1), .v (.int B), .v (.tup W), s7, s8, .no], b7⟩ = .ok .nx ⟨[.no, .v .box, p2, .v (.int B), .v (.int 1), .v (.int B), .v (.tup W), s7', s8', .no], b8⟩ := i1
      simp [q_law_6b, noX_ap, r1, d1, n1, s1, ca, ce, truD, ct, e1, f1, g1, rg, i1]
    · rw [if_neg hd] at n1
      have hd' : ¬ (d : Int) = 0 := by omega
      have r1 : m__law_room [.box] bx = .ok (.v (.tup [.int B, .int 1])) b1 := r1
      have ca : m__law_cell_asked [.box, .int B, .int 1, .tup W] b4 = _ := ca
      have ce : m__law_cell_asked [.box, .int B, .int 1, .tup []] b4 = _ := ce
      have e1 : m__law_nested [.box, .int B, .int 1, .tup T] b4 = _ := e1
      have f1 : m__law_points_asked [.box, .int B, .int 1] b5 = _ := f1
      have g1 : m__law_words_asked [.box, .int B, .int 1] b6 = _ := g1
      have n1 : m__law_draw [.box, .int 9] b2 = _ := n1
      have i1 : frM q_law_3t q_law_4b RR ⟨[.no, .v .box, p2, .v (.int B), .v (.int 1), .v (.int B), .v (.tup W), s7, s8, .no], b7⟩ = .ok .nx ⟨[.no, .v .box, p2, .v (.int B), .v (.int 1), .v (.int B), .v (.tup W), s7', s8', .no], b8⟩ := i1
      simp [q_law_6b, noX_ap, r1, d1, hd, hd', n1, s1, ca, ce, truD, ct, e1, f1, g1, rg, i1]
  · have hBi : (b : Int) * (b : Int) = (B : Int) := by rw [← hBi]; simp
    by_cases hd : d = 0
    · rw [if_pos hd] at n1
      subst hd
      have d1 : m__law_draw [.box, .int 10] b1 = .ok (.v (.int 0)) b2 := d1
      have r1 : m__law_room [.box] bx = .ok (.v (.tup [.int b, .int 2])) b1 := r1
      have ca : m__law_cell_asked [.box, .int b, .int 2, .tup W] b4 = _ := ca
      have ce : m__law_cell_asked [.box, .int b, .int 2, .tup []] b4 = _ := ce
      have e1 : m__law_nested [.box, .int b, .int 2, .tup T] b4 = _ := e1
      have f1 : m__law_points_asked [.box, .int b, .int 2] b5 = _ := f1
      have g1 : m__law_words_asked [.box, .int b, .int 2] b6 = _ := g1
      have n1 : m__law_draw [.box, .int 300] b2 = _ := n1
      have i1 : frM q_law_3t q_law_4b RR ⟨[.no, .v .box, p2, .v (.int b), .v (.int 2), .v (.int B), .v (.tup W), s7, s8, .no], b7⟩ = .ok .nx ⟨[.no, .v .box, p2, .v (.int b), .v (.int 2), .v (.int B), .v (.tup W), s7', s8', .no], b8⟩ := i1
      simp [q_law_6b, noX_ap, mb, hBi, r1, d1, n1, s1, ca, ce, truD, ct, e1, f1, g1, rg, i1]
    · rw [if_neg hd] at n1
      have hd' : ¬ (d : Int) = 0 := by omega
      have r1 : m__law_room [.box] bx = .ok (.v (.tup [.int b, .int 2])) b1 := r1
      have ca : m__law_cell_asked [.box, .int b, .int 2, .tup W] b4 = _ := ca
      have ce : m__law_cell_asked [.box, .int b, .int 2, .tup []] b4 = _ := ce
      have e1 : m__law_nested [.box, .int b, .int 2, .tup T] b4 = _ := e1
      have f1 : m__law_points_asked [.box, .int b, .int 2] b5 = _ := f1
      have g1 : m__law_words_asked [.box, .int b, .int 2] b6 = _ := g1
      have n1 : m__law_draw [.box, .int 9] b2 = _ := n1
      have i1 : frM q_law_3t q_law_4b RR ⟨[.no, .v .box, p2, .v (.int b), .v (.int 2), .v (.int B), .v (.tup W), s7, s8, .no], b7⟩ = .ok .nx ⟨[.no, .v .box, p2, .v (.int b), .v (.int 2), .v (.int B), .v (.tup W), s7', s8', .no], b8⟩ := i1
      simp [q_law_6b, noX_ap, mb, hBi, r1, d1, hd, hd', n1, s1, ca, ce, truD, ct, e1, f1, g1, rg, i1]
theorem law_true (ns : List Int) (hl : ns.length ≤ 63) : lawR 10 b_law ns := by
  obtain ⟨s', h1, s2, s3, s4, s5, s6, s7, s8, bx', h3, h4⟩ := frM_run (t := q_law_5t) (b := q_law_6b) (fun n s => ∃ s2 s3 s4 s5 s6 s7 s8 bx', s = ⟨[.no, .v .box, s2, s3, s4, s5, s6, s7, s8, .no], bx'⟩ ∧ BxOk (1000 * n) bx') (rgL 0 ((3 : Nat) : Int)) 0 ⟨[.no, .v .box, .no, .no, .no, .no, .no, .no, .no, .no], bx0 ns⟩ ⟨.no, .no, .no, .no, .no, .no, .no, bx0 ns, rfl, bx0_ok ns⟩ fun n d s hd hI => by
    obtain ⟨s2, s3, s4, s5, s6, s7, s8, bx1, rfl, hx⟩ := hI
    obtain ⟨hn, rfl⟩ := rgL_get hd
    rw [Nat.zero_add] at hx ⊢
    obtain ⟨s3', s4', s5', s6', s7', s8', bx2, t1, t2⟩ := turn_ok hx (by omega) (.v (.int n)) s3 s4 s5 s6 s7 s8
    exact ⟨_, _, rfl, t1, .v (.int n), s3', s4', s5', s6', s7', s8', bx2, rfl, t2.mono (by omega)⟩
  rw [h3] at h1
  have rg : rngD1 [.int 3] = some (rgL 0 ((3 : Nat) : Int)) := rng1_nat (n := 3) (by decide)
  generalize rgL 0 ((3 : Nat) : Int) = RR at *
  have fin : b_law ⟨.no :: .v .box :: List.replicate (10 - 2) .no, bx0 ns⟩ = .ok (.rt (.v (.bl true))) ⟨[.no, .v .box, s2, s3, s4, s5, s6, s7, s8, .no], bx'⟩ := by
    simp [b_law, rg, List.replicate, h1]
  unfold lawR
  rw [fin]
  trivial
end K05

theorem PySem.Challenge.cw_bendless_k05_cells_and_words_holds : PySem.Challenge.rw_bendless_k05_cells_and_words.Holds := by
  exact head_of K05.law_true
