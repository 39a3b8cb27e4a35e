import PyProof.Rows.All
import Wide.All
import OpenK.AllK
import Wide.FinOn
import HandS.ForMost
import HandS.TupAny
import HandS.Style
import HandS.Deep
import HandS.Conv
import HandS.Iter
import HandS.Zip
import HandS.Rev
import HandS.Text
import HandS.IsInst
import PySem.Challenge.RW_nevernot_k17_surely
set_option Elab.async false
set_option linter.all false
set_option maxRecDepth 100000
namespace N1
open PySem PySem.Spec PyProof.Rows L2

/-! ### plain values, slots, tokens -/
inductive T where
  | non | bl (b : Bool) | int (i : Int) | str (x : Str) | tup (ts : List T) | lst (ts : List T) | lsk (ts : List T) | ty (n : String)
inductive Slot where
  | val (t : T) | own (ts : List T) | io (k : Nat) (ts : List T)
abbrev DSt := List (Option Slot)
/-- what an expression hands on: a value, the list that slot i holds, a new list that nobody else has -/
inductive Tok where
  | v (t : T) | s (i : Nat) | fr (ts : List T)
abbrev Ms := Addr → Prop

def slotAt : DSt → Nat → Option Slot
  | [], _ => none
  | x :: _, 0 => x
  | _ :: r, n + 1 => slotAt r n
def setSlot : DSt → Nat → Option Slot → DSt
  | [], _, _ => []
  | _ :: r, 0, y => y :: r
  | x :: r, n + 1, y => x :: setSlot r n y
theorem slotAt_iff : ∀ {τ : DSt} {i : Nat} {s : Slot}, slotAt τ i = some s ↔ τ[i]? = some (some s)
  | [], i, s => by simp [slotAt]
  | x :: r, 0, s => by simp [slotAt]
  | x :: r, n + 1, s => by simpa [slotAt] using slotAt_iff (τ := r) (i := n) (s := s)
theorem setSlot_eq : ∀ (τ : DSt) (i : Nat) (y : Option Slot), setSlot τ i y = τ.set i y
  | [], _, _ => rfl
  | _ :: _, 0, _ => rfl
  | x :: r, n + 1, y => by rw [setSlot, setSlot_eq r n y]; rfl

/-! ### a value lies in the heap -/
section
variable (K : PySem.W.Frag) (M : Ms) (H : Hp)
def KL (a : Addr) (xs : List V) : Prop :=
  ∃ (o : Obj) (its : Array Value) (n : Nat), K.lookup a = some o ∧ o.cls = .type "list" ∧ o.dict = none ∧ o.data = .seq its n ∧ its.size ≤ sizeLine ∧ Vals xs its.toList
/-- a list that nobody writes any more -/
def RdL (a : Addr) (vs : List V) : Prop := H a = some (.lst vs) ∧ ¬ M a
/-- a list that is locked (the script) or of the written part -/
def RdK (a : Addr) (vs : List V) : Prop := (∃ o, H a = some (.frz o (.lst vs))) ∨ KL K a vs
mutual
inductive VT : V → T → Prop
  | non : VT .non .non
  | bl (b : Bool) : VT (.bl b) (.bl b)
  | int (i : Int) : VT (.int i) (.int i)
  | str (x : Str) (h : PyData.strOk x = true) : VT (.str x) (.str x)
  | ty (n : String) : VT (.ty n) (.ty n)
  | tup {a : Addr} {vs : List V} {ts : List T} : SqT K H a vs → VTs vs ts → VT (.ref a) (.tup ts)
  | lst {a : Addr} {vs : List V} {ts : List T} : RdL M H a vs → VTs vs ts → VT (.ref a) (.lst ts)
  | lsk {a : Addr} {vs : List V} {ts : List T} : RdK K H a vs → VTs vs ts → VT (.ref a) (.lsk ts)
inductive VTs : List V → List T → Prop
  | nil : VTs [] []
  | cons {v : V} {vs : List V} {t : T} {ts : List T} : VT v t → VTs vs ts → VTs (v :: vs) (t :: ts)
end
end
theorem RdL.seq {K : PySem.W.Frag} {M : Ms} {H : Hp} {a : Addr} {vs : List V} (h : RdL M H a vs) : SqL K H a vs := .inl (.inl h.1)
theorem RdK.seq {K : PySem.W.Frag} {H : Hp} {a : Addr} {vs : List V} (h : RdK K H a vs) : SqL K H a vs := by
  rcases h with ⟨o, h⟩ | h
  · exact .inl (.inr ⟨o, h⟩)
  · exact .inr h

/-- what a step keeps: tuples, locked things, lists that nobody writes -/
structure Kp0 (M : Ms) (H : Hp) (M' : Ms) (H' : Hp) : Prop where
  tup : ∀ a xs, H a = some (.tup xs) → H' a = some (.tup xs)
  frz : ∀ a o u, H a = some (.frz o u) → H' a = some (.frz o u)
  lst : ∀ a xs, H a = some (.lst xs) → ¬ M a → H' a = some (.lst xs) ∧ ¬ M' a
structure Kp (O M : Ms) (H : Hp) (M' : Ms) (H' : Hp) : Prop extends Kp0 M H M' H' where
  far : ∀ a, O a → H' a = H a
theorem Kp0.refl {M : Ms} {H : Hp} : Kp0 M H M H := ⟨fun _ _ h => h, fun _ _ _ h => h, fun _ _ h n => ⟨h, n⟩⟩
theorem Kp0.trans {M M1 M2 : Ms} {H H1 H2 : Hp} (a : Kp0 M H M1 H1) (b : Kp0 M1 H1 M2 H2) : Kp0 M H M2 H2 :=
  ⟨fun c xs h => b.tup c xs (a.tup c xs h), fun c o u h => b.frz c o u (a.frz c o u h), fun c xs h n => let ⟨h1, n1⟩ := a.lst c xs h n; b.lst c xs h1 n1⟩
theorem Kp0.anti {M M1 M2 : Ms} {H H1 : Hp} (a : Kp0 M H M1 H1) (s : ∀ a, M2 a → M1 a) : Kp0 M H M2 H1 :=
  ⟨a.tup, a.frz, fun c xs h n => let ⟨h1, n1⟩ := a.lst c xs h n; ⟨h1, fun z => n1 (s c z)⟩⟩
theorem Kp.refl {O M : Ms} {H : Hp} : Kp O M H M H := ⟨.refl, fun _ _ => rfl⟩
theorem Kp.trans {O M M1 M2 : Ms} {H H1 H2 : Hp} (a : Kp O M H M1 H1) (b : Kp O M1 H1 M2 H2) : Kp O M H M2 H2 :=
  ⟨a.toKp0.trans b.toKp0, fun c h => (b.far c h).trans (a.far c h)⟩
theorem Kp.anti {O M M1 M2 : Ms} {H H1 : Hp} (a : Kp O M H M1 H1) (s : ∀ a, M2 a → M1 a) : Kp O M H M2 H1 := ⟨a.toKp0.anti s, a.far⟩
theorem Kp0.of_anti {M M2 : Ms} {H : Hp} (s : ∀ a, M2 a → M a) : Kp0 M H M2 H := Kp0.refl.anti s
theorem Kp.of_anti {O M M2 : Ms} {H : Hp} (s : ∀ a, M2 a → M a) : Kp O M H M2 H := Kp.refl.anti s

section
variable {K : PySem.W.Frag} {M M' : Ms} {H H' : Hp}
theorem KpT.seq {a : Addr} {vs : List V} (k : Kp0 M H M' H') (h : SqT K H a vs) : SqT K H' a vs := by
  rcases h with (h | ⟨o, h⟩) | h
  · exact .inl (.inl (k.tup _ _ h))
  · exact .inl (.inr ⟨o, k.frz _ _ _ h⟩)
  · exact .inr h
theorem RdL.keep {a : Addr} {vs : List V} (k : Kp0 M H M' H') (h : RdL M H a vs) : RdL M' H' a vs := k.lst _ _ h.1 h.2
theorem RdK.keep {a : Addr} {vs : List V} (k : Kp0 M H M' H') (h : RdK K H a vs) : RdK K H' a vs := by
  rcases h with ⟨o, h⟩ | h
  · exact .inl ⟨o, k.frz _ _ _ h⟩
  · exact .inr h
mutual
theorem VT.keep (k : Kp0 M H M' H') : ∀ {v : V} {t : T}, VT K M H v t → VT K M' H' v t
  | _, _, .non => .non
  | _, _, .bl b => .bl b
  | _, _, .int i => .int i
  | _, _, .str x h => .str x h
  | _, _, .ty n => .ty n
  | _, _, .tup h hs => .tup (KpT.seq k h) (VTs.keep k hs)
  | _, _, .lst h hs => .lst (h.keep k) (VTs.keep k hs)
  | _, _, .lsk h hs => .lsk (h.keep k) (VTs.keep k hs)
theorem VTs.keep (k : Kp0 M H M' H') : ∀ {vs : List V} {ts : List T}, VTs K M H vs ts → VTs K M' H' vs ts
  | _, _, .nil => .nil
  | _, _, .cons h hs => .cons (VT.keep k h) (VTs.keep k hs)
end
theorem VTs.length : ∀ {vs : List V} {ts : List T}, VTs K M H vs ts → vs.length = ts.length
  | _, _, .nil => rfl
  | _, _, .cons _ h => congrArg (· + 1) h.length
theorem VTs.get : ∀ {vs : List V} {ts : List T} {i : Nat} {t : T}, VTs K M H vs ts → ts[i]? = some t → ∃ v, vs[i]? = some v ∧ VT K M H v t
  | _, _, _, _, .nil, e => by simp at e
  | _, _, 0, _, .cons h _, e => by
    have e := Option.some.inj (show some _ = some _ from e)
    exact ⟨_, rfl, e ▸ h⟩
  | _, _, i + 1, _, .cons _ h, e => by
    obtain ⟨v, h1, h2⟩ := VTs.get (i := i) h (by simpa using e)
    exact ⟨v, by simpa using h1, h2⟩
theorem VTs.getV : ∀ {vs : List V} {ts : List T} {i : Nat} {v : V}, VTs K M H vs ts → vs[i]? = some v → ∃ t, ts[i]? = some t ∧ VT K M H v t
  | _, _, _, _, .nil, e => by simp at e
  | _, _, 0, _, .cons h _, e => by
    have e := Option.some.inj (show some _ = some _ from e)
    exact ⟨_, rfl, e ▸ h⟩
  | _, _, i + 1, _, .cons _ h, e => by
    obtain ⟨v, h1, h2⟩ := VTs.getV (i := i) h (by simpa using e)
    exact ⟨v, by simpa using h1, h2⟩
theorem VTs.append : ∀ {vs ws : List V} {ts us : List T}, VTs K M H vs ts → VTs K M H ws us → VTs K M H (vs ++ ws) (ts ++ us)
  | _, _, _, _, .nil, h => h
  | _, _, _, _, .cons h hs, g => .cons h (hs.append g)
theorem VTs.set : ∀ {vs : List V} {ts : List T} (i : Nat) {v : V} {t : T}, VT K M H v t → VTs K M H vs ts → VTs K M H (vs.set i v) (ts.set i t)
  | _, _, _, _, _, _, .nil => .nil
  | _, _, 0, _, _, g, .cons _ hs => .cons g hs
  | _, _, i + 1, _, _, g, .cons h hs => .cons h (hs.set i g)
theorem VTs.take : ∀ {vs : List V} {ts : List T} (n : Nat), VTs K M H vs ts → VTs K M H (vs.take n) (ts.take n)
  | _, _, 0, _ => .nil
  | _, _, _ + 1, .nil => .nil
  | _, _, n + 1, .cons h hs => .cons h (hs.take n)
theorem VTs.drop : ∀ {vs : List V} {ts : List T} (n : Nat), VTs K M H vs ts → VTs K M H (vs.drop n) (ts.drop n)
  | _, _, 0, h => h
  | _, _, _ + 1, .nil => .nil
  | _, _, n + 1, .cons _ hs => hs.drop n
theorem VTs.reverse {vs : List V} {ts : List T} (h : VTs K M H vs ts) : VTs K M H vs.reverse ts.reverse := by
  match h with
  | .nil => exact .nil
  | .cons h g => rw [List.reverse_cons, List.reverse_cons]; exact (VTs.reverse g).append (.cons h .nil)
theorem VTs.nil_iff {vs : List V} {ts : List T} (h : VTs K M H vs ts) : vs = [] ↔ ts = [] := by
  cases h <;> simp
end

/-! ### the state of a frame -/
/-- the addresses that are being written: others' lists, this frame's, a new one -/
def Mu (O : Ms) (α : List (Option Addr)) (tmp : Option Addr) : Ms := fun a => O a ∨ (∃ i : Nat, α[i]? = some (some a)) ∨ tmp = some a
def SlotOk (K : PySem.W.Frag) (M : Ms) (io : List Addr) (H : Hp) (σ : L2.St) (α : List (Option Addr)) (i : Nat) : Slot → Prop
  | .val t => ∃ v, σ[i]? = some (some v) ∧ VT K M H v t
  | .own ts => ∃ a vs, α[i]? = some (some a) ∧ σ[i]? = some (some (.ref a)) ∧ H a = some (.lst vs) ∧ VTs K M H vs ts
  | .io k ts => ∃ a vs, io[k]? = some a ∧ α[i]? = some (some a) ∧ σ[i]? = some (some (.ref a)) ∧ H a = some (.lst vs) ∧ VTs K M H vs ts
structure Now (K : PySem.W.Frag) (O : Ms) (io : List Addr) (tmp : Option Addr) (α : List (Option Addr)) (τ : DSt) (σ : L2.St) (H : Hp) : Prop where
  lenT : τ.length = σ.length
  lenA : α.length = σ.length
  slot : ∀ (i : Nat) (s : Slot), τ[i]? = some (some s) → SlotOk K (Mu O α tmp) io H σ α i s
  nd : ∀ (i j : Nat) (a : Addr), α[i]? = some (some a) → α[j]? = some (some a) → i = j
  nO : ∀ (i : Nat) (a : Addr), α[i]? = some (some a) → ¬ O a
  tm : ∀ p, tmp = some p → ¬ O p ∧ ∀ i : Nat, α[i]? ≠ some (some p)
  tr : ∀ a, Mu O α none a → ∃ xs, H a = some (.lst xs)
def Res (K : PySem.W.Frag) (O : Ms) (α : List (Option Addr)) (tmp : Option Addr) (σ : L2.St) (H : Hp) (v : V) : Tok → Prop
  | .v t => tmp = none ∧ VT K (Mu O α none) H v t
  | .s i => tmp = none ∧ σ[i]? = some (some v)
  | .fr ts => ∃ p vs, tmp = some p ∧ v = .ref p ∧ H p = some (.lst vs) ∧ VTs K (Mu O α tmp) H vs ts

/-! ### the plain readings, and what they say of the layer below -/
abbrev DK := Tok → DSt → Prop
abbrev DE := DSt → DK → Prop
abbrev DT := DSt → (Bool → DSt → Prop) → Prop
abbrev DA := DSt → (List Tok → DSt → Prop) → Prop
structure DEnds where
  nx : DSt → Prop
  rt : DK
  bk : DSt → Prop := fun _ => False
  ct : DSt → Prop := fun _ => False
abbrev DS := DEnds → DSt → Prop

/-- from a state on, a plain wish leads to a wish of the layer below -/
def Lk (K : PySem.W.Frag) (O : Ms) (io : List Addr) (M : Ms) (H : Hp) (E : DSt → Prop) (D : L2.St → Hp → Prop) : Prop :=
  ∀ α' τ' σ' H', Now K O io none α' τ' σ' H' → Kp O M H (Mu O α' none) H' → E τ' → D σ' H'
def Rk (K : PySem.W.Frag) (O : Ms) (io : List Addr) (M : Ms) (H : Hp) (E : DK) (D : VK) : Prop :=
  ∀ v tk tmp α' τ' σ' H', Now K O io tmp α' τ' σ' H' → Kp O M H (Mu O α' tmp) H' → Res K O α' tmp σ' H' v tk → E tk τ' → D v H'
def liftE (K : PySem.W.Frag) (t : DE) : TE := fun σ H Q => ∃ (O : Ms) (io : List Addr) (α : List (Option Addr)) (τ : DSt) (R : DK), Now K O io none α τ σ H ∧ t τ R ∧
  ∀ v tk tmp α' τ' H', Now K O io tmp α' τ' σ H' → Kp O (Mu O α none) H (Mu O α' tmp) H' → Res K O α' tmp σ H' v tk → R tk τ' → Q v H'
def liftT (K : PySem.W.Frag) (t : DT) : TT := fun σ H Q => ∃ (O : Ms) (io : List Addr) (α : List (Option Addr)) (τ : DSt) (R : Bool → DSt → Prop), Now K O io none α τ σ H ∧ t τ R ∧
  ∀ b α' τ' H', Now K O io none α' τ' σ H' → Kp O (Mu O α none) H (Mu O α' none) H' → R b τ' → Q b H'
def liftS (K : PySem.W.Frag) (t : DS) : TS := fun D σ H => ∃ (O : Ms) (io : List Addr) (α : List (Option Addr)) (τ : DSt) (E : DEnds), Now K O io none α τ σ H ∧ t E τ ∧
  Lk K O io (Mu O α none) H E.nx D.nx ∧ Rk K O io (Mu O α none) H E.rt D.rt ∧ Lk K O io (Mu O α none) H E.bk D.bk ∧ Lk K O io (Mu O α none) H E.ct D.ct
/-- tokens of evaluated operands (new lists weakened to values) -/
def TokOk (K : PySem.W.Frag) (M : Ms) (σ : L2.St) (H : Hp) (v : V) : Tok → Prop
  | .v t => VT K M H v t
  | .s i => σ[i]? = some (some v)
  | .fr _ => False
def weak : Tok → Tok
  | .v t => .v t
  | .s i => .s i
  | .fr ts => .v (.lst ts)
inductive ToksOk (K : PySem.W.Frag) (M : Ms) (σ : L2.St) (H : Hp) : List V → List Tok → Prop
  | nil : ToksOk K M σ H [] []
  | cons {v : V} {vs : List V} {t : Tok} {ts : List Tok} : TokOk K M σ H v t → ToksOk K M σ H vs ts → ToksOk K M σ H (v :: vs) (t :: ts)
def liftA (K : PySem.W.Frag) (t : DA) : TA := fun σ H Q => ∃ (O : Ms) (io : List Addr) (α : List (Option Addr)) (τ : DSt) (R : List Tok → DSt → Prop), Now K O io none α τ σ H ∧ t τ R ∧
  ∀ vs tks α' τ' H', Now K O io none α' τ' σ H' → Kp O (Mu O α none) H (Mu O α' none) H' → ToksOk K (Mu O α' none) σ H' vs tks → R tks τ' → Q vs H'

abbrev QE (X : Cx) (e : Expr) (t : DE) : Prop := PE X e (liftE X.K t)
abbrev QT (X : Cx) (e : Expr) (t : DT) : Prop := PT X e (liftT X.K t)
abbrev QW (X : Cx) (e : Expr) (t : DT) : Prop := PW X e (liftT X.K t)
abbrev QA (X : Cx) (es : List Expr) (t : DA) : Prop := PA X es (liftA X.K t)
abbrev QS (X : Cx) (st : Stmt) (t : DS) : Prop := PS X st (liftS X.K t)
abbrev QSs (X : Cx) (st : List Stmt) (t : DS) : Prop := PSs X st (liftS X.K t)

section
variable {X : Cx}
theorem PEmono {e : Expr} {t t' : TE} (h : PE X e t) (m : ∀ σ H Q, t' σ H Q → t σ H Q) : PE X e t' := ⟨fun pins s σ H Q I q => h.run pins s σ H Q I (m σ H Q q)⟩
theorem PTmono {e : Expr} {t t' : TT} (h : PT X e t) (m : ∀ σ H Q, t' σ H Q → t σ H Q) : PT X e t' := ⟨fun pins s σ H Q I q => h.run pins s σ H Q I (m σ H Q q)⟩
theorem PWmono {e : Expr} {t t' : TT} (h : PW X e t) (m : ∀ σ H Q, t' σ H Q → t σ H Q) : PW X e t' := ⟨fun wh pins s σ H Q I q => h.run wh pins s σ H Q I (m σ H Q q)⟩
theorem PAmono {es : List Expr} {t t' : TA} (h : PA X es t) (m : ∀ σ H Q, t' σ H Q → t σ H Q) : PA X es t' := ⟨fun pos pins s σ H Q I q => h.run pos pins s σ H Q I (m σ H Q q)⟩
theorem PSmono {st : Stmt} {t t' : TS} (h : PS X st t) (m : ∀ D σ H, t' D σ H → t D σ H) : PS X st t' := ⟨fun pins s σ H D I q => h.run pins s σ H D I (m D σ H q)⟩
theorem PSsmono {st : List Stmt} {t t' : TS} (h : PSs X st t) (m : ∀ D σ H, t' D σ H → t D σ H) : PSs X st t' := ⟨fun pins s σ H D I q => h.run pins s σ H D I (m D σ H q)⟩
end

section
variable {K : PySem.W.Frag} {O : Ms} {io : List Addr} {tmp : Option Addr} {α α' : List (Option Addr)} {τ τ' : DSt} {σ : L2.St} {H H' : Hp} {M M' : Ms}
theorem Mu.weak : ∀ a, Mu O α none a → Mu O α tmp a := fun a h => by
  rcases h with h | h | h
  · exact .inl h
  · exact .inr (.inl h)
  · cases h
theorem SlotOk.keep {i : Nat} {s : Slot} (h : SlotOk K M io H σ α i s) (k : Kp0 M H M' H') (w : ∀ a vs, α[i]? = some (some a) → H a = some (.lst vs) → H' a = some (.lst vs)) : SlotOk K M' io H' σ α i s := by
  cases s with
  | val t => obtain ⟨v, e, h⟩ := h; exact ⟨v, e, h.keep k⟩
  | own ts => obtain ⟨a, vs, e1, e2, e3, h⟩ := h; exact ⟨a, vs, e1, e2, w a vs e1 e3, h.keep k⟩
  | io j ts => obtain ⟨a, vs, e0, e1, e2, e3, h⟩ := h; exact ⟨a, vs, e0, e1, e2, w a vs e1 e3, h.keep k⟩
/-- the heap has grown, or a foreign thing has changed: this frame's lists stand -/
theorem Now.keep {tmp' : Option Addr} (n : Now K O io tmp α τ σ H) (k : Kp0 (Mu O α tmp) H (Mu O α tmp') H') (w : ∀ a xs, Mu O α none a → H a = some (.lst xs) → H' a = some (.lst xs))
    (ht : ∀ p, tmp' = some p → ¬ O p ∧ ∀ i : Nat, α[i]? ≠ some (some p)) : Now K O io tmp' α τ σ H' :=
  ⟨n.lenT, n.lenA, fun i s e => (n.slot i s e).keep k fun a vs e1 e2 => w a vs (.inr (.inl ⟨i, e1⟩)) e2, n.nd, n.nO, ht, fun a h => by
    obtain ⟨xs, e⟩ := n.tr a h
    exact ⟨xs, w a xs h e⟩⟩
theorem Now.drop (n : Now K O io tmp α τ σ H) : Now K O io none α τ σ H :=
  n.keep (.of_anti Mu.weak) (fun _ _ _ h => h) (fun _ z => by cases z)
/-- the result of an operand, kept as a value -/
theorem Res.tok {v : V} {tk : Tok} (n : Now K O io tmp α τ σ H) (k : Kp O M H' (Mu O α tmp) H) (r : Res K O α tmp σ H v tk) : Now K O io none α τ σ H ∧ Kp O M H' (Mu O α none) H ∧ TokOk K (Mu O α none) σ H v (weak tk) := by
  refine ⟨n.drop, k.anti Mu.weak, ?_⟩
  cases tk with
  | v t => exact r.2
  | s i => exact r.2
  | fr ts =>
    obtain ⟨p, vs, rfl, rfl, e, h⟩ := r
    refine .lst ⟨e, ?_⟩ (h.keep (.of_anti Mu.weak))
    obtain ⟨h1, h2⟩ := n.tm p rfl
    rintro (z | ⟨i, z⟩ | z)
    · exact h1 z
    · exact h2 i z
    · cases z
theorem TokOk.keep {v : V} {tk : Tok} (h : TokOk K M σ H v tk) (k : Kp0 M H M' H') : TokOk K M' σ H' v tk := by
  cases tk with
  | v t => exact VT.keep k h
  | s i => exact h
  | fr ts => exact h
theorem ToksOk.keep {vs : List V} {tks : List Tok} (h : ToksOk K M σ H vs tks) (k : Kp0 M H M' H') : ToksOk K M' σ H' vs tks := by
  induction h with
  | nil => exact .nil
  | cons h _ ih => exact .cons (h.keep k) ih

/-! ### a value as it stands now -/
def VC (K : PySem.W.Frag) (M : Ms) (H : Hp) (v : V) (t : T) : Prop := VT K M H v t ∨ ∃ a vs ts, v = .ref a ∧ t = .lst ts ∧ H a = some (.lst vs) ∧ VTs K M H vs ts
/-- what the token says now -/
def use (τ : DSt) (tk : Tok) (k : T → Prop) : Prop := match tk with
  | .v t => k t
  | .fr ts => k (.lst ts)
  | .s i => match slotAt τ i with
    | some (.val t) => k t
    | some (.own ts) => k (.lst ts)
    | some (.io _ ts) => k (.lst ts)
    | none => False
theorem use_ok {v : V} {tk : Tok} {k : T → Prop} (n : Now K O io none α τ σ H) (r : TokOk K (Mu O α none) σ H v tk) (h : use τ tk k) : ∃ t, VC K (Mu O α none) H v t ∧ k t := by
  cases tk with
  | v t => exact ⟨t, .inl r, h⟩
  | fr ts => exact r.elim
  | s i =>
    have r : σ[i]? = some (some v) := r
    unfold use at h
    dsimp only at h
    split at h
    · next t e =>
      obtain ⟨v', e2, q⟩ := n.slot i _ (slotAt_iff.mp e)
      rw [r] at e2
      cases e2
      exact ⟨t, .inl q, h⟩
    · next ts e =>
      obtain ⟨a, vs, e1, e2, e3, q⟩ := n.slot i _ (slotAt_iff.mp e)
      rw [r] at e2
      cases e2
      exact ⟨_, .inr ⟨a, vs, ts, rfl, rfl, e3, q⟩, h⟩
    · next j ts e =>
      obtain ⟨a, vs, _, e1, e2, e3, q⟩ := n.slot i _ (slotAt_iff.mp e)
      rw [r] at e2
      cases e2
      exact ⟨_, .inr ⟨a, vs, ts, rfl, rfl, e3, q⟩, h⟩
    · exact h.elim
/-- from now on nobody writes it -/
def froze (τ : DSt) (tk : Tok) (k : T → DSt → Prop) : Prop := match tk with
  | .v t => k t τ
  | .fr ts => k (.lst ts) τ
  | .s i => match slotAt τ i with
    | some (.val t) => k t τ
    | some (.own ts) => k (.lst ts) (setSlot τ i (some (.val (.lst ts))))
    | _ => False
theorem getα {α : List (Option Addr)} {i j : Nat} {y z : Option Addr} (h : (α.set i y)[j]? = some z) : (j = i ∧ z = y) ∨ (j ≠ i ∧ α[j]? = some z) := by
  by_cases e : j = i
  · subst e
    have hl : j < (α.set j y).length := (List.getElem?_eq_some_iff.mp h).1
    rw [List.length_set] at hl
    rw [List.getElem?_set_self hl] at h
    cases h
    exact .inl ⟨rfl, rfl⟩
  · rw [List.getElem?_set_ne (Ne.symm e)] at h
    exact .inr ⟨e, h⟩
theorem Mu.dropped {i : Nat} : ∀ a, Mu O (α.set i none) tmp a → Mu O α tmp a := fun a h => by
  rcases h with h | ⟨j, h⟩ | h
  · exact .inl h
  · rcases getα h with ⟨_, z⟩ | ⟨_, z⟩
    · cases z
    · exact .inr (.inl ⟨j, z⟩)
  · exact .inr (.inr h)
/-- slot i takes a plain value; σ' is σ but for slot i -/
theorem Now.setVal {σ' : L2.St} {i : Nat} {v : V} {t : T} (n : Now K O io none α τ σ H) (hl : σ'.length = σ.length) (hne : ∀ j : Nat, j ≠ i → σ'[j]? = σ[j]?) (hi : i < τ.length → σ'[i]? = some (some v)) (h : VT K (Mu O (α.set i none) none) H v t) :
    Now K O io none (α.set i none) (setSlot τ i (some (.val t))) σ' H := by
  rw [setSlot_eq]
  have k : Kp0 (Mu O α none) H (Mu O (α.set i none) none) H := .of_anti Mu.dropped
  refine ⟨by rw [List.length_set, hl]; exact n.lenT, by rw [List.length_set, hl]; exact n.lenA, fun j s e => ?_, fun j1 j2 a e1 e2 => ?_, fun j a e => ?_, fun p z => (by cases z), fun a h => n.tr a (Mu.dropped a h)⟩
  · by_cases hj : j = i
    · subst hj
      have hl : j < (τ.set j (some (Slot.val t))).length := (List.getElem?_eq_some_iff.mp e).1
      rw [List.length_set] at hl
      rw [List.getElem?_set_self hl] at e
      cases e
      exact ⟨v, hi hl, h⟩
    · rw [List.getElem?_set_ne (Ne.symm hj)] at e
      have q := n.slot j s e
      have ea : (α.set i none)[j]? = α[j]? := List.getElem?_set_ne (Ne.symm hj)
      cases s with
      | val t => obtain ⟨v, e, h⟩ := q; exact ⟨v, by rw [hne j hj]; exact e, h.keep k⟩
      | own ts => obtain ⟨a, vs, e1, e2, e3, h⟩ := q; exact ⟨a, vs, by rw [ea]; exact e1, by rw [hne j hj]; exact e2, e3, h.keep k⟩
      | io m ts => obtain ⟨a, vs, e0, e1, e2, e3, h⟩ := q; exact ⟨a, vs, e0, by rw [ea]; exact e1, by rw [hne j hj]; exact e2, e3, h.keep k⟩
  · rcases getα e1 with ⟨_, z⟩ | ⟨_, z1⟩
    · cases z
    · rcases getα e2 with ⟨_, z⟩ | ⟨_, z2⟩
      · cases z
      · exact n.nd j1 j2 a z1 z2
  · rcases getα e with ⟨_, z⟩ | ⟨_, z⟩
    · cases z
    · exact n.nO j a z
theorem froze_ok {v : V} {tk : Tok} {k : T → DSt → Prop} (n : Now K O io none α τ σ H) (r : TokOk K (Mu O α none) σ H v tk) (h : froze τ tk k) :
    ∃ t α' τ', Now K O io none α' τ' σ H ∧ (∀ a, Mu O α' none a → Mu O α none a) ∧ VT K (Mu O α' none) H v t ∧ k t τ' := by
  cases tk with
  | v t => exact ⟨t, α, τ, n, fun _ h => h, r, h⟩
  | fr ts => exact r.elim
  | s i =>
    have r : σ[i]? = some (some v) := r
    unfold froze at h
    dsimp only at h
    split at h
    · next t e =>
      obtain ⟨v', e2, q⟩ := n.slot i _ (slotAt_iff.mp e)
      rw [r] at e2
      cases e2
      exact ⟨t, α, τ, n, fun _ h => h, q, h⟩
    · next ts e =>
      obtain ⟨a, vs, e1, e2, e3, q⟩ := n.slot i _ (slotAt_iff.mp e)
      rw [r] at e2
      cases e2
      have w : ¬ Mu O (α.set i none) none a := by
        rintro (z | ⟨j, z⟩ | z)
        · exact n.nO i a e1 z
        · rcases getα z with ⟨_, z⟩ | ⟨z1, z⟩
          · cases z
          · exact z1 (n.nd j i a z e1)
        · cases z
      have hv : VT K (Mu O (α.set i none) none) H (.ref a) (.lst ts) := .lst ⟨e3, w⟩ (q.keep (.of_anti Mu.dropped))
      exact ⟨_, α.set i none, _, n.setVal rfl (fun _ _ => rfl) (fun _ => r) hv, Mu.dropped, hv, h⟩
    · exact h.elim
end
end N1
namespace N1
open PySem PySem.Spec PyProof.Rows L2

/-! ### equality of plain values -/
mutual
def T.eq : T → T → Bool
  | .non, .non => true
  | .bl a, .bl b => a == b
  | .bl a, .int j => (if a then 1 else 0) == j
  | .int i, .bl b => i == (if b then 1 else 0)
  | .int i, .int j => i == j
  | .str x, .str y => x == y
  | .tup xs, .tup ys => T.eqs xs ys
  | .lst xs, .lst ys => T.eqs xs ys
  | .lst xs, .lsk ys => T.eqs xs ys
  | .lsk xs, .lst ys => T.eqs xs ys
  | .lsk xs, .lsk ys => T.eqs xs ys
  | _, _ => false
def T.eqs : List T → List T → Bool
  | [], [] => true
  | x :: xs, y :: ys => T.eq x y && T.eqs xs ys
  | _, _ => false
end
mutual
def T.py : T → PyData
  | .non => .none
  | .bl b => .bool b
  | .int i => .int i
  | .str x => .str x
  | .tup ts => .tuple (T.pys ts)
  | .lst ts => .list (T.pys ts)
  | .lsk ts => .list (T.pys ts)
  | .ty _ => .none
def T.pys : List T → List PyData
  | [] => []
  | t :: ts => T.py t :: T.pys ts
end
/-- no classes within, at most n deep -/
def T.fit : Nat → T → Bool
  | _, .non => true
  | _, .bl _ => true
  | _, .int _ => true
  | _, .str _ => true
  | n + 1, .tup ts => ts.all (T.fit n)
  | n + 1, .lst ts => ts.all (T.fit n)
  | n + 1, .lsk ts => ts.all (T.fit n)
  | _, _ => false
theorem fitc {n : Nat} {t : T} {ts : List T} (h : (t :: ts).all (T.fit n) = true) : T.fit n t = true ∧ ts.all (T.fit n) = true := by
  rw [List.all_cons, Bool.and_eq_true] at h
  exact h
mutual
theorem T.py_depth : ∀ (t : T) (n : Nat), T.fit n t = true → (T.py t).depth ≤ n
  | .non, _, _ => Nat.zero_le _
  | .bl _, _, _ => Nat.zero_le _
  | .int _, _, _ => Nat.zero_le _
  | .str _, _, _ => Nat.zero_le _
  | .ty _, n, h => by cases n <;> simp [T.fit] at h
  | .tup ts, 0, h => by simp [T.fit] at h
  | .lst ts, 0, h => by simp [T.fit] at h
  | .lsk ts, 0, h => by simp [T.fit] at h
  | .tup ts, n + 1, h => Nat.succ_le_succ (T.pys_depth ts n h)
  | .lst ts, n + 1, h => Nat.succ_le_succ (T.pys_depth ts n h)
  | .lsk ts, n + 1, h => Nat.succ_le_succ (T.pys_depth ts n h)
theorem T.pys_depth : ∀ (ts : List T) (n : Nat), ts.all (T.fit n) = true → PyData.depthAll (T.pys ts) ≤ n
  | [], _, _ => Nat.zero_le _
  | t :: ts, n, h => Nat.max_le.mpr ⟨T.py_depth t n (fitc h).1, T.pys_depth ts n (fitc h).2⟩
end
mutual
theorem T.eqv : ∀ (a b : T) (n m : Nat), T.fit n a = true → T.fit m b = true → PyData.eqv (T.py a) (T.py b) = T.eq a b
  | .non, b, n, m, h, g => by cases b <;> cases m <;> first | rfl | simp [T.fit] at g
  | .bl a, b, n, m, h, g => by cases b <;> cases m <;> first | rfl | simp [T.fit] at g
  | .int i, b, n, m, h, g => by cases b <;> cases m <;> first | rfl | simp [T.fit] at g
  | .str x, b, n, m, h, g => by cases b <;> cases m <;> first | rfl | simp [T.fit] at g
  | .ty _, _, n, _, h, _ => by cases n <;> simp [T.fit] at h
  | .tup xs, b, 0, _, h, _ => by simp [T.fit] at h
  | .lst xs, b, 0, _, h, _ => by simp [T.fit] at h
  | .lsk xs, b, 0, _, h, _ => by simp [T.fit] at h
  | .tup xs, b, n + 1, m, h, g => by
    cases b with
    | tup ys => cases m with
      | zero => simp [T.fit] at g
      | succ m => exact T.eqvs xs ys n m h g
    | ty _ => cases m <;> simp [T.fit] at g
    | _ => rfl
  | .lst xs, b, n + 1, m, h, g => by
    cases b with
    | lst ys => cases m with
      | zero => simp [T.fit] at g
      | succ m => exact T.eqvs xs ys n m h g
    | lsk ys => cases m with
      | zero => simp [T.fit] at g
      | succ m => exact T.eqvs xs ys n m h g
    | ty _ => cases m <;> simp [T.fit] at g
    | _ => rfl
  | .lsk xs, b, n + 1, m, h, g => by
    cases b with
    | lst ys => cases m with
      | zero => simp [T.fit] at g
      | succ m => exact T.eqvs xs ys n m h g
    | lsk ys => cases m with
      | zero => simp [T.fit] at g
      | succ m => exact T.eqvs xs ys n m h g
    | ty _ => cases m <;> simp [T.fit] at g
    | _ => rfl
theorem T.eqvs : ∀ (xs ys : List T) (n m : Nat), xs.all (T.fit n) = true → ys.all (T.fit m) = true → PyData.eqvAll (T.pys xs) (T.pys ys) = T.eqs xs ys
  | [], [], _, _, _, _ => rfl
  | [], _ :: _, _, _, _, _ => rfl
  | _ :: _, [], _, _, _, _ => rfl
  | x :: xs, y :: ys, n, m, h, g => by
    show (PyData.eqv (T.py x) (T.py y) && PyData.eqvAll (T.pys xs) (T.pys ys)) = (T.eq x y && T.eqs xs ys)
    rw [T.eqv x y n m (fitc h).1 (fitc g).1, T.eqvs xs ys n m (fitc h).2 (fitc g).2]
end
theorem pys_any (d : T) (n : Nat) (hd : T.fit n d = true) : ∀ (ts : List T) (m : Nat), ts.all (T.fit m) = true → (T.pys ts).any (fun z => PyData.eqv z (T.py d)) = ts.any fun z => T.eq z d
  | [], _, _ => rfl
  | t :: ts, m, h => by
    show (PyData.eqv (T.py t) (T.py d) || (T.pys ts).any _) = (T.eq t d || ts.any _)
    rw [T.eqv t d m n (fitc h).1 hd, pys_any d n hd ts m (fitc h).2]

section
variable {K : PySem.W.Frag} {M : Ms} {H : Hp}
mutual
theorem VT.dp : ∀ {v : V} {t : T} {n : Nat}, VT K M H v t → T.fit n t = true → Dp K H v (T.py t) ∧ (T.py t).canLay0 = true
  | _, _, _, .non, _ => ⟨.non, rfl⟩
  | _, _, _, .bl b, _ => ⟨.bl b, rfl⟩
  | _, _, _, .int i, _ => ⟨.int i, rfl⟩
  | _, _, _, .str x h, _ => ⟨.str x, h⟩
  | _, _, n, .ty _, h => by cases n <;> simp [T.fit] at h
  | _, _, 0, .tup _ _, h => by simp [T.fit] at h
  | _, _, 0, .lst _ _, h => by simp [T.fit] at h
  | _, _, 0, .lsk _ _, h => by simp [T.fit] at h
  | _, _, n + 1, .tup h hs, g => ⟨.tup h (VTs.dps hs g).1, (VTs.dps hs g).2⟩
  | _, _, n + 1, .lst h hs, g => ⟨.lst h.seq (VTs.dps hs g).1, (VTs.dps hs g).2⟩
  | _, _, n + 1, .lsk h hs, g => ⟨.lst h.seq (VTs.dps hs g).1, (VTs.dps hs g).2⟩
theorem VTs.dps : ∀ {vs : List V} {ts : List T} {n : Nat}, VTs K M H vs ts → ts.all (T.fit n) = true → DpAll K H vs (T.pys ts) ∧ PyData.canLayAll0 (T.pys ts) = true
  | _, _, _, .nil, _ => ⟨.nil, rfl⟩
  | _, _, _, .cons h hs, g => ⟨.cons (VT.dp h (fitc g).1).1 (VTs.dps hs (fitc g).2).1, by
    show (PyData.canLay0 _ && PyData.canLayAll0 _) = true
    rw [(VT.dp h (fitc g).1).2, (VTs.dps hs (fitc g).2).2]
    rfl⟩
end
theorem VC.dp {v : V} {t : T} {n : Nat} (h : VC K M H v t) (g : T.fit n t = true) : Dp K H v (T.py t) ∧ (T.py t).canLay0 = true := by
  rcases h with h | ⟨a, vs, ts, rfl, rfl, e, hs⟩
  · exact h.dp g
  · cases n with
    | zero => simp [T.fit] at g
    | succ n => exact ⟨.lst (.inl (.inl e)) (hs.dps g).1, (hs.dps g).2⟩
theorem VC.shaped {v : V} {t : T} (h : VC K M H v t) (g : T.fit 60 t = true) : SeqAt.shaped (T.py t) = true := by
  unfold SeqAt.shaped
  rw [(h.dp g).2, Bool.true_and]
  exact decide_eq_true (Nat.le_trans (T.py_depth t 60 g) (by decide))
end

/-! ### what an operation leaves -/
def ResQ (K : PySem.W.Frag) (O : Ms) (io : List Addr) (α : List (Option Addr)) (τ : DSt) (σ : L2.St) (H : Hp) (k : Tok → Prop) : VK := fun z H' =>
  ∃ tk tmp, Now K O io tmp α τ σ H' ∧ Kp O (Mu O α none) H (Mu O α tmp) H' ∧ Res K O α tmp σ H' z tk ∧ k tk
section
variable {K : PySem.W.Frag} {O : Ms} {io : List Addr} {α : List (Option Addr)} {τ : DSt} {σ : L2.St} {H : Hp} {k : Tok → Prop}
theorem ResQ.val {z : V} {t : T} (n : Now K O io none α τ σ H) (h : VT K (Mu O α none) H z t) (q : k (.v t)) : ResQ K O io α τ σ H k z H := ⟨.v t, none, n, .refl, ⟨rfl, h⟩, q⟩
theorem kp_new {tmp : Option Addr} {p : Addr} (n : Now K O io none α τ σ H) (hp : H p = none) (o : HO) (ht : tmp = none ∨ tmp = some p) : Kp O (Mu O α none) H (Mu O α tmp) (upd H p o) := by
  refine ⟨⟨fun a xs e => ?_, fun a ob u e => ?_, fun a xs e m => ⟨?_, ?_⟩⟩, fun a h => ?_⟩
  · rw [upd_ne (ne_of_none e hp)]; exact e
  · rw [upd_ne (ne_of_none e hp)]; exact e
  · rw [upd_ne (ne_of_none e hp)]; exact e
  · rintro (z | z | z)
    · exact m (.inl z)
    · exact m (.inr (.inl z))
    · rcases ht with rfl | rfl
      · cases z
      · cases z
        rw [hp] at e
        cases e
  · obtain ⟨xs, e⟩ := n.tr a (.inl h)
    rw [upd_ne (ne_of_none e hp)]
theorem now_new {tmp : Option Addr} {p : Addr} (n : Now K O io none α τ σ H) (hp : H p = none) (o : HO) (ht : tmp = none ∨ tmp = some p) : Now K O io tmp α τ σ (upd H p o) := by
  refine n.keep (kp_new n hp o ht).toKp0 (fun a xs _ e => by rw [upd_ne (ne_of_none e hp)]; exact e) fun q e => ?_
  rcases ht with rfl | rfl
  · cases e
  · cases e
    refine ⟨fun z => ?_, fun i z => ?_⟩
    · obtain ⟨xs, e⟩ := n.tr p (.inl z)
      rw [hp] at e
      cases e
    · obtain ⟨xs, e⟩ := n.tr p (.inr (.inl ⟨i, z⟩))
      rw [hp] at e
      cases e
theorem ResQ.tup {vs : List V} {ts : List T} (n : Now K O io none α τ σ H) (h : VTs K (Mu O α none) H vs ts) (q : k (.v (.tup ts))) : ∀ p, H p = none → ResQ K O io α τ σ H k (.ref p) (upd H p (.tup vs)) := fun p hp =>
  have kp := kp_new n hp (.tup vs) (.inl rfl)
  ⟨.v (.tup ts), none, now_new n hp _ (.inl rfl), kp, ⟨rfl, .tup (SqT.of upd_same) (h.keep kp.toKp0)⟩, q⟩
theorem ResQ.lst {vs : List V} {ts : List T} (n : Now K O io none α τ σ H) (h : VTs K (Mu O α none) H vs ts) (q : k (.fr ts)) : ∀ p, H p = none → ResQ K O io α τ σ H k (.ref p) (upd H p (.lst vs)) := fun p hp =>
  have kp := kp_new n hp (.lst vs) (.inr rfl)
  ⟨.fr ts, some p, now_new n hp _ (.inr rfl), kp, ⟨p, vs, rfl, rfl, upd_same, h.keep kp.toKp0⟩, q⟩
end
/-- an operation on two values, by plain values -/
def OpD (X : Cx) (f : Value → Value → Sem Value) (r : T → T → (Tok → Prop) → Prop) : Prop :=
  ∀ (pins : List (Addr × Obj)) (s : Shared) (σ : L2.St) (H : Hp) (x y : V) (v u : Value) (O : Ms) (io : List Addr) (α : List (Option Addr)) (τ : DSt) (ρ : L2.St) (a b : T) (k : Tok → Prop),
    Inv X pins σ H s → Now X.K O io none α τ ρ H → RelV x v → RelV y u → VC X.K (Mu O α none) H x a → VC X.K (Mu O α none) H y b → r a b k →
    wpAny (model X.prog X.w) X.A (f v u) (EP X pins σ (ResQ X.K O io α τ ρ H k)) X.xe s
/-! what stands at a list or a tuple now -/
section
variable {K : PySem.W.Frag} {M : Ms} {H : Hp} {v : V}
theorem VC.tup {ts : List T} (h : VC K M H v (.tup ts)) : ∃ a vs, v = .ref a ∧ SqT K H a vs ∧ VTs K M H vs ts := by
  rcases h with h | ⟨_, _, _, _, e, _⟩
  · cases h with
    | tup h hs => exact ⟨_, _, rfl, h, hs⟩
  · cases e
theorem VC.lst {ts : List T} (h : VC K M H v (.lst ts)) : ∃ a vs, v = .ref a ∧ H a = some (.lst vs) ∧ VTs K M H vs ts := by
  rcases h with h | ⟨a, vs, us, e1, e, e2, hs⟩
  · cases h with
    | lst h hs => exact ⟨_, _, rfl, h.1, hs⟩
  · cases e
    exact ⟨a, vs, e1, e2, hs⟩
theorem VC.lsk {ts : List T} (h : VC K M H v (.lsk ts)) : ∃ a vs, v = .ref a ∧ SqL K H a vs ∧ VTs K M H vs ts := by
  rcases h with h | ⟨_, _, _, _, e, _⟩
  · cases h with
    | lsk h hs => exact ⟨_, _, rfl, h.seq, hs⟩
  · cases e
theorem VC.int {i : Int} (h : VC K M H v (.int i)) : v = .int i := by
  rcases h with h | ⟨_, _, _, _, e, _⟩
  · cases h; rfl
  · cases e
theorem VC.bl {i : Bool} (h : VC K M H v (.bl i)) : v = .bl i := by
  rcases h with h | ⟨_, _, _, _, e, _⟩
  · cases h; rfl
  · cases e
theorem VC.str {i : Str} (h : VC K M H v (.str i)) : v = .str i ∧ PyData.strOk i = true := by
  rcases h with h | ⟨_, _, _, _, e, _⟩
  · cases h with
    | str _ h => exact ⟨rfl, h⟩
  · cases e
theorem VC.non (h : VC K M H v .non) : v = .non := by
  rcases h with h | ⟨_, _, _, _, e, _⟩
  · cases h; rfl
  · cases e
end
theorem strOk_append {x y : Str} (h : PyData.strOk x = true) (g : PyData.strOk y = true) : PyData.strOk (x ++ y) = true := by
  unfold PyData.strOk at *
  show (x.cps ++ y.cps).all _ = true
  rw [Array.all_append, h, g]
  rfl

/-! ### the operators -/
def opAdd : T → T → (Tok → Prop) → Prop
  | .int i, .int j, k => k (.v (.int (i + j)))
  | .str x, .str y, k => x.length + y.length ≤ sizeLine ∧ k (.v (.str (x ++ y)))
  | .tup xs, .tup ys, k => xs.length + ys.length ≤ sizeLine ∧ k (.v (.tup (xs ++ ys)))
  | .lst xs, .lst ys, k => xs.length + ys.length ≤ sizeLine ∧ k (.fr (xs ++ ys))
  | _, _, _ => False
def opSub : T → T → (Tok → Prop) → Prop
  | .int i, .int j, k => k (.v (.int (i - j)))
  | _, _, _ => False
def opMul : T → T → (Tok → Prop) → Prop
  | .int i, .int j, k => CMul i j ∧ k (.v (.int (i * j)))
  | .lst ts, .int j, k => (-(2 ^ 63) ≤ j ∧ j < 2 ^ 63 ∧ ts.length * j.toNat ≤ sizeLine) ∧ k (.fr (List.replicate j.toNat ts).flatten)
  | _, _, _ => False
def opMod : T → T → (Tok → Prop) → Prop
  | .int i, .int j, k => 0 < j ∧ k (.v (.int (i % j)))
  | _, _, _ => False
def opFdiv : T → T → (Tok → Prop) → Prop
  | .int i, .int j, k => CDiv i j ∧ k (.v (.int (i / j)))
  | _, _, _ => False
def opPow : T → T → (Tok → Prop) → Prop
  | .int i, .int j, k => CPow i j ∧ k (.v (.int (i ^ j.toNat)))
  | _, _, _ => False
def opBand : T → T → (Tok → Prop) → Prop
  | .int i, .int j, k => k (.v (.int (Builtin.bitAnd i j)))
  | _, _, _ => False
def opBor : T → T → (Tok → Prop) → Prop
  | .int i, .int j, k => k (.v (.int (Builtin.bitOr i j)))
  | _, _, _ => False
section
variable {X : Cx}
theorem opd_add : OpD X (binaryOp .Add) opAdd := by
  intro pins s σ H x y v u O io α τ ρ a b k I n rx ry ha hb h
  cases a <;> cases b <;> first | exact h.elim | skip
  · cases ha.int; cases hb.int
    exact op_add pins s σ H _ _ v u _ I rx ry ⟨_, _, rfl, rfl, .val n (.int _) h⟩
  · obtain ⟨rfl, o1⟩ := ha.str
    obtain ⟨rfl, o2⟩ := hb.str
    obtain ⟨h1, h2⟩ := h
    exact op_add_str pins s σ H _ _ v u _ I rx ry ⟨_, _, rfl, rfl, h1, .val n (.str _ (strOk_append o1 o2)) h2⟩
  · obtain ⟨a, vs, rfl, e, hs⟩ := ha.tup
    obtain ⟨b, ws, rfl, e2, hs2⟩ := hb.tup
    obtain ⟨h1, h2⟩ := h
    refine op_catA pins s σ H _ _ v u _ I rx ry ⟨_, _, vs, ws, rfl, rfl, e, e2, by rw [hs.length, hs2.length]; exact h1, fun z => ?_, fun _ z => ?_, fun _ _ => ResQ.tup n (hs.append hs2) h2⟩
    · subst z
      cases hs
      exact .val n (.tup e2 hs2) h2
    · subst z
      cases hs2
      rw [List.append_nil] at h2
      exact .val n (.tup e hs) h2
  · obtain ⟨a, vs, rfl, e, hs⟩ := ha.lst
    obtain ⟨b, ws, rfl, e2, hs2⟩ := hb.lst
    obtain ⟨h1, h2⟩ := h
    exact op_cat pins s σ H _ _ v u _ I rx ry ⟨_, _, vs, ws, rfl, rfl, e, e2, by rw [hs.length, hs2.length]; exact h1, ResQ.lst n (hs.append hs2) h2⟩
theorem opd_sub : OpD X (binaryOp .Sub) opSub := by
  intro pins s σ H x y v u O io α τ ρ a b k I n rx ry ha hb h
  cases a <;> cases b <;> first | exact h.elim | skip
  cases ha.int; cases hb.int
  exact op_sub pins s σ H _ _ v u _ I rx ry ⟨_, _, rfl, rfl, .val n (.int _) h⟩
theorem VTs.rep {K : PySem.W.Frag} {M : Ms} {H : Hp} {vs : List V} {ts : List T} (h : VTs K M H vs ts) : ∀ k : Nat, VTs K M H (List.replicate k vs).flatten (List.replicate k ts).flatten
  | 0 => .nil
  | k + 1 => by
    rw [List.replicate_succ, List.replicate_succ, List.flatten_cons, List.flatten_cons]
    exact h.append (VTs.rep h k)
theorem opd_mul : OpD X (binaryOp .Mult) opMul := by
  intro pins s σ H x y v u O io α τ ρ a b k I n rx ry ha hb h
  cases a <;> cases b <;> first | exact h.elim | skip
  · cases ha.int; cases hb.int
    exact op_mul pins s σ H _ _ v u _ I rx ry ⟨_, _, rfl, rfl, h.1, .val n (.int _) h.2⟩
  · cases hb.int
    obtain ⟨p, vs, rfl, e, hs⟩ := ha.lst
    obtain ⟨⟨h1, h2, h3⟩, h⟩ := h
    exact op_rep pins s σ H _ _ v u _ I rx ry ⟨_, _, _, rfl, rfl, e, h1, h2, by rw [hs.length]; exact h3, ResQ.lst n (hs.rep _) h⟩
theorem opd_mod : OpD X (binaryOp .Mod) opMod := by
  intro pins s σ H x y v u O io α τ ρ a b k I n rx ry ha hb h
  cases a <;> cases b <;> first | exact h.elim | skip
  cases ha.int; cases hb.int
  exact op_mod pins s σ H _ _ v u _ I rx ry ⟨_, _, rfl, rfl, h.1, .val n (.int _) h.2⟩
theorem opd_fdiv : OpD X (binaryOp .FloorDiv) opFdiv := by
  intro pins s σ H x y v u O io α τ ρ a b k I n rx ry ha hb h
  cases a <;> cases b <;> first | exact h.elim | skip
  cases ha.int; cases hb.int
  exact op_fdiv pins s σ H _ _ v u _ I rx ry ⟨_, _, rfl, rfl, h.1, .val n (.int _) h.2⟩
theorem opd_pow : OpD X (binaryOp .Pow) opPow := by
  intro pins s σ H x y v u O io α τ ρ a b k I n rx ry ha hb h
  cases a <;> cases b <;> first | exact h.elim | skip
  cases ha.int; cases hb.int
  exact op_pow pins s σ H _ _ v u _ I rx ry ⟨_, _, rfl, rfl, h.1, .val n (.int _) h.2⟩
theorem opd_band : OpD X (binaryOp .BitAnd) opBand := by
  intro pins s σ H x y v u O io α τ ρ a b k I n rx ry ha hb h
  cases a <;> cases b <;> first | exact h.elim | skip
  cases ha.int; cases hb.int
  exact op_and pins s σ H _ _ v u _ I rx ry ⟨_, _, rfl, rfl, .val n (.int _) h⟩
theorem opd_bor : OpD X (binaryOp .BitOr) opBor := by
  intro pins s σ H x y v u O io α τ ρ a b k I n rx ry ha hb h
  cases a <;> cases b <;> first | exact h.elim | skip
  cases ha.int; cases hb.int
  exact op_or pins s σ H _ _ v u _ I rx ry ⟨_, _, rfl, rfl, .val n (.int _) h⟩
end

/-! ### comparisons -/
/-- a pair that a comparison compares at once -/
def scalT : T → T → Option Bool
  | .int i, .int j => some (decide (i = j))
  | .str x, .str y => some (decide (x = y))
  | .bl a, .bl b => some (decide (a = b))
  | _, _ => none
def opEq (a b : T) (k : Tok → Prop) : Prop := match scalT a b with
  | some c => k (.v (.bl c))
  | none => T.fit 60 a = true ∧ T.fit 60 b = true ∧ k (.v (.bl (T.eq a b)))
def opNe (a b : T) (k : Tok → Prop) : Prop := match scalT a b with
  | some c => k (.v (.bl !c))
  | none => T.fit 60 a = true ∧ T.fit 60 b = true ∧ k (.v (.bl !(T.eq a b)))
def opLt : T → T → (Tok → Prop) → Prop
  | .int i, .int j, k => k (.v (.bl (decide (i < j))))
  | .str i, .str j, k => k (.v (.bl (decide (i.cps.toList < j.cps.toList))))
  | _, _, _ => False
def opLe : T → T → (Tok → Prop) → Prop
  | .int i, .int j, k => k (.v (.bl (decide (i ≤ j))))
  | _, _, _ => False
def opGt : T → T → (Tok → Prop) → Prop
  | .int i, .int j, k => k (.v (.bl (decide (j < i))))
  | _, _, _ => False
def opGe : T → T → (Tok → Prop) → Prop
  | .int i, .int j, k => k (.v (.bl (decide (j ≤ i))))
  | _, _, _ => False
def T.isNon : T → Bool
  | .non => true
  | _ => false
/-- is None; is True, is False of a bool -/
def isT : T → T → Option Bool
  | a, .non => some a.isNon
  | .bl a, .bl b => some (decide (a = b))
  | _, _ => none
def opIs (a b : T) (k : Tok → Prop) : Prop := match isT a b with
  | some c => k (.v (.bl c))
  | none => False
def opIsNot (a b : T) (k : Tok → Prop) : Prop := match isT a b with
  | some c => k (.v (.bl !c))
  | none => False
def itemsOf : T → Option (List T)
  | .tup ts => some ts
  | .lst ts => some ts
  | .lsk ts => some ts
  | _ => none
def T.has (x : T) (ts : List T) : Bool := ts.any fun z => T.eq z x
def opIn (x c : T) (k : Tok → Prop) : Prop := match c with
  | .tup ts => T.fit 60 x = true ∧ ts.all (T.fit 60) = true ∧ k (.v (.bl (T.has x ts)))
  | .lst ts => T.fit 60 x = true ∧ ts.all (T.fit 60) = true ∧ k (.v (.bl (T.has x ts)))
  | .lsk ts => T.fit 60 x = true ∧ ts.all (T.fit 60) = true ∧ k (.v (.bl (T.has x ts)))
  | .str y => match x with
    | .str z => k (.v (.bl (!(Builtin.Str.occurrences y z 0 y.length 1).isEmpty)))
    | _ => False
  | _ => False
def opNotIn (x c : T) (k : Tok → Prop) : Prop := opIn x c fun tk => match tk with
  | .v (.bl b) => k (.v (.bl !b))
  | _ => False
theorem decV {a b : V} {p : Prop} [Decidable p] (h : a = b ↔ p) : decide (a = b) = decide p := decide_eq_decide.mpr h
theorem decI (i j : Int) : decide (V.int i = V.int j) = decide (i = j) := decV ⟨V.int.inj, congrArg _⟩
theorem decS (i j : Str) : decide (V.str i = V.str j) = decide (i = j) := decV ⟨V.str.inj, congrArg _⟩
theorem decB (i j : Bool) : decide (V.bl i = V.bl j) = decide (i = j) := decV ⟨V.bl.inj, congrArg _⟩
section
variable {X : Cx}
theorem opd_eq (hu : X.A.units + 64 < cLine) : OpD X (compareOp .Eq) opEq := by
  intro pins s σ H x y v u O io α τ ρ a b k I n rx ry ha hb h
  unfold opEq at h
  split at h
  · next c e =>
    unfold scalT at e
    split at e <;> try contradiction
    · cases ha.int; cases hb.int
      cases e
      exact op_eq pins s σ H _ _ v u _ I rx ry ⟨rfl, .val n (.bl _) (by rw [decI]; exact h)⟩
    · obtain ⟨rfl, o1⟩ := ha.str
      obtain ⟨rfl, o2⟩ := hb.str
      cases e
      exact op_eq pins s σ H _ _ v u _ I rx ry ⟨rfl, .val n (.bl _) (by rw [decS]; exact h)⟩
    · cases ha.bl; cases hb.bl
      cases e
      exact op_eq pins s σ H _ _ v u _ I rx ry ⟨rfl, .val n (.bl _) (by rw [decB]; exact h)⟩
  · obtain ⟨h1, h2, h⟩ := h
    refine op_eqD hu pins s σ H _ _ v u _ I rx ry ⟨_, _, (ha.dp h1).1, (hb.dp h2).1, ha.shaped h1, hb.shaped h2, .val n (.bl _) ?_⟩
    rw [T.eqv a b 60 60 h1 h2]
    exact h
theorem opd_ne (hu : X.A.units + 64 < cLine) : OpD X (compareOp .NotEq) opNe := by
  intro pins s σ H x y v u O io α τ ρ a b k I n rx ry ha hb h
  unfold opNe at h
  split at h
  · next c e =>
    unfold scalT at e
    split at e <;> try contradiction
    · cases ha.int; cases hb.int
      cases e
      exact op_ne pins s σ H _ _ v u _ I rx ry ⟨rfl, .val n (.bl _) (by rw [decI]; exact h)⟩
    · obtain ⟨rfl, o1⟩ := ha.str
      obtain ⟨rfl, o2⟩ := hb.str
      cases e
      exact op_ne pins s σ H _ _ v u _ I rx ry ⟨rfl, .val n (.bl _) (by rw [decS]; exact h)⟩
    · cases ha.bl; cases hb.bl
      cases e
      exact op_ne pins s σ H _ _ v u _ I rx ry ⟨rfl, .val n (.bl _) (by rw [decB]; exact h)⟩
  · obtain ⟨h1, h2, h⟩ := h
    refine op_neD hu pins s σ H _ _ v u _ I rx ry ⟨_, _, (ha.dp h1).1, (hb.dp h2).1, ha.shaped h1, hb.shaped h2, .val n (.bl _) ?_⟩
    rw [T.eqv a b 60 60 h1 h2]
    exact h
theorem opd_lt : OpD X (compareOp .Lt) opLt := by
  intro pins s σ H x y v u O io α τ ρ a b k I n rx ry ha hb h
  cases a <;> cases b <;> first | exact h.elim | skip
  · cases ha.int; cases hb.int
    exact op_lt pins s σ H _ _ v u _ I rx ry ⟨_, _, rfl, rfl, .val n (.bl _) h⟩
  · obtain ⟨rfl, o1⟩ := ha.str
    obtain ⟨rfl, o2⟩ := hb.str
    exact op_lt_str pins s σ H _ _ v u _ I rx ry ⟨_, _, rfl, rfl, .val n (.bl _) h⟩
theorem opd_le : OpD X (compareOp .LtE) opLe := by
  intro pins s σ H x y v u O io α τ ρ a b k I n rx ry ha hb h
  cases a <;> cases b <;> first | exact h.elim | skip
  cases ha.int; cases hb.int
  exact op_le pins s σ H _ _ v u _ I rx ry ⟨_, _, rfl, rfl, .val n (.bl _) h⟩
theorem opd_gt : OpD X (compareOp .Gt) opGt := by
  intro pins s σ H x y v u O io α τ ρ a b k I n rx ry ha hb h
  cases a <;> cases b <;> first | exact h.elim | skip
  cases ha.int; cases hb.int
  exact op_gt pins s σ H _ _ v u _ I rx ry ⟨_, _, rfl, rfl, .val n (.bl _) h⟩
theorem opd_ge : OpD X (compareOp .GtE) opGe := by
  intro pins s σ H x y v u O io α τ ρ a b k I n rx ry ha hb h
  cases a <;> cases b <;> first | exact h.elim | skip
  cases ha.int; cases hb.int
  exact op_ge pins s σ H _ _ v u _ I rx ry ⟨_, _, rfl, rfl, .val n (.bl _) h⟩
theorem VC.notty {K : PySem.W.Frag} {M : Ms} {H : Hp} {v : V} {t : T} (h : VC K M H v t) (e : v = .non) : t = .non := by
  rcases h with h | ⟨_, _, _, e', _, _⟩
  · subst e
    cases h
    rfl
  · rw [e] at e'
    cases e'
theorem is_cases {a b : T} {c : Bool} (e : isT a b = some c) : (b = .non ∧ c = a.isNon) ∨ ∃ p q, a = .bl p ∧ b = .bl q ∧ c = decide (p = q) := by
  unfold isT at e
  split at e <;> cases e
  · exact .inl ⟨rfl, rfl⟩
  · exact .inr ⟨_, _, rfl, rfl, rfl⟩
theorem VC.is_non {K : PySem.W.Frag} {M : Ms} {H : Hp} {v : V} {t : T} (h : VC K M H v t) : decide (v = .non) = t.isNon := by
  by_cases e : v = .non
  · rw [decide_eq_true e, h.notty e]
    rfl
  · rw [decide_eq_false e]
    cases t <;> first | rfl | exact absurd h.non e
theorem opd_is : OpD X (compareOp .Is) opIs := by
  intro pins s σ H x y v u O io α τ ρ a b k I n rx ry ha hb h
  unfold opIs at h
  split at h
  · next c e =>
    rcases is_cases e with ⟨rfl, ec⟩ | ⟨p, q, rfl, rfl, ec⟩
    · refine op_isN pins s σ H _ _ v u _ I rx ry ⟨hb.non, .val n (.bl _) ?_⟩
      rw [ha.is_non, ← ec]
      exact h
    · cases ha.bl; cases hb.bl
      exact op_isBl pins s σ H _ _ v u _ I rx ry ⟨_, _, rfl, rfl, .val n (.bl _) (by rw [← ec]; exact h)⟩
  · exact h.elim
theorem opd_isnot : OpD X (compareOp .IsNot) opIsNot := by
  intro pins s σ H x y v u O io α τ ρ a b k I n rx ry ha hb h
  unfold opIsNot at h
  split at h
  · next c e =>
    rcases is_cases e with ⟨rfl, ec⟩ | ⟨p, q, rfl, rfl, ec⟩
    · refine op_notN pins s σ H _ _ v u _ I rx ry ⟨hb.non, .val n (.bl _) ?_⟩
      rw [ha.is_non, ← ec]
      exact h
    · cases ha.bl; cases hb.bl
      exact op_notBl pins s σ H _ _ v u _ I rx ry ⟨_, _, rfl, rfl, .val n (.bl _) (by rw [← ec]; exact h)⟩
  · exact h.elim
theorem fits_all {n : Nat} : ∀ {ts : List T}, ts.all (T.fit n) = true → PyData.depthAll (T.pys ts) ≤ n := fun {ts} h => T.pys_depth ts n h
theorem in_items {pins : List (Addr × Obj)} {s : Shared} {σ : L2.St} {H : Hp} {x y : V} {v u : Value} {M : Ms} {a : T} {ts : List T} {neg : Bool} {Q : VK} (hu : X.A.units + 64 < cLine) (I : Inv X pins σ H s) (rx : RelV x v) (ry : RelV y u) (ha : VC X.K M H x a) (fa : T.fit 60 a = true) (fs : ts.all (T.fit 60) = true)
    (hb : (∃ p vs, y = .ref p ∧ (SqL X.K H p vs ∨ SqT X.K H p vs) ∧ VTs X.K M H vs ts)) (q : Q (.bl (if neg then !T.has a ts else T.has a ts)) H) :
    wpAny (model X.prog X.w) X.A (compareOp (if neg then .NotIn else .In) v u) (EP X pins σ Q) X.xe s := by
  obtain ⟨p, vs, rfl, hq, hs⟩ := hb
  obtain ⟨as, r1⟩ := Dp.reads I _ x v (ha.dp fa).1 rx
  have hroom : X.A.units + 1 + min (PyData.depthAll (T.pys ts)) (T.py a).depth < cLine := by
    have h1 : min (PyData.depthAll (T.pys ts)) (T.py a).depth ≤ (T.py a).depth := Nat.min_le_right _ _
    have h2 := T.py_depth a 60 fa
    omega
  have e : (T.pys ts).any (fun z => PyData.eqv z (T.py a)) = T.has a ts := pys_any a 60 fa ts 60 fs
  rcases hq with hq | hq
  · obtain ⟨bs, r2⟩ := Dp.reads I (.list (T.pys ts)) (.ref p) u (.lst hq (hs.dps fs).1) ry
    cases neg with
    | false => exact SeqAt.in_list_reads r2 r1 (hs.dps fs).2 (ha.dp fa).2 hroom ⟨.bl _, H, I, rfl, by rw [e]; exact q⟩
    | true => exact SeqAt.notIn_list_reads r2 r1 (hs.dps fs).2 (ha.dp fa).2 hroom ⟨.bl _, H, I, rfl, by rw [e]; exact q⟩
  · obtain ⟨bs, r2⟩ := Dp.reads I (.tuple (T.pys ts)) (.ref p) u (.tup hq (hs.dps fs).1) ry
    cases neg with
    | false => exact SeqAt.in_tuple_reads r2 r1 (hs.dps fs).2 (ha.dp fa).2 hroom ⟨.bl _, H, I, rfl, by rw [e]; exact q⟩
    | true => exact SeqAt.notIn_tuple_reads r2 r1 (hs.dps fs).2 (ha.dp fa).2 hroom ⟨.bl _, H, I, rfl, by rw [e]; exact q⟩
theorem opd_in (hu : X.A.units + 64 < cLine) : OpD X (compareOp .In) opIn := by
  intro pins s σ H x y v u O io α τ ρ a b k I n rx ry ha hb h
  cases b with
  | tup ts =>
    obtain ⟨p, vs, e, hq, hs⟩ := hb.tup
    exact in_items (neg := false) hu I rx ry ha h.1 h.2.1 ⟨p, vs, e, .inr hq, hs⟩ (.val n (.bl _) h.2.2)
  | lst ts =>
    obtain ⟨p, vs, e, hq, hs⟩ := hb.lst
    exact in_items (neg := false) hu I rx ry ha h.1 h.2.1 ⟨p, vs, e, .inl (SqL.of hq), hs⟩ (.val n (.bl _) h.2.2)
  | lsk ts =>
    obtain ⟨p, vs, e, hq, hs⟩ := hb.lsk
    exact in_items (neg := false) hu I rx ry ha h.1 h.2.1 ⟨p, vs, e, .inl hq, hs⟩ (.val n (.bl _) h.2.2)
  | str z =>
    cases a with
    | str w =>
      obtain ⟨rfl, o1⟩ := ha.str
      obtain ⟨rfl, o2⟩ := hb.str
      exact op_in_str pins s σ H _ _ v u _ I rx ry ⟨_, _, rfl, rfl, .val n (.bl _) h⟩
    | _ => exact h.elim
  | _ => exact h.elim
theorem opd_notin (hu : X.A.units + 64 < cLine) : OpD X (compareOp .NotIn) opNotIn := by
  intro pins s σ H x y v u O io α τ ρ a b k I n rx ry ha hb h
  unfold opNotIn at h
  cases b with
  | tup ts =>
    obtain ⟨p, vs, e, hq, hs⟩ := hb.tup
    exact in_items (neg := true) hu I rx ry ha h.1 h.2.1 ⟨p, vs, e, .inr hq, hs⟩ (.val n (.bl _) h.2.2)
  | lst ts =>
    obtain ⟨p, vs, e, hq, hs⟩ := hb.lst
    exact in_items (neg := true) hu I rx ry ha h.1 h.2.1 ⟨p, vs, e, .inl (SqL.of hq), hs⟩ (.val n (.bl _) h.2.2)
  | lsk ts =>
    obtain ⟨p, vs, e, hq, hs⟩ := hb.lsk
    exact in_items (neg := true) hu I rx ry ha h.1 h.2.1 ⟨p, vs, e, .inl hq, hs⟩ (.val n (.bl _) h.2.2)
  | str z =>
    cases a with
    | str w =>
      obtain ⟨rfl, o1⟩ := ha.str
      obtain ⟨rfl, o2⟩ := hb.str
      exact op_notin_str pins s σ H _ _ v u _ I rx ry ⟨_, _, rfl, rfl, .val n (.bl _) h⟩
    | _ => exact h.elim
  | _ => exact h.elim
end
end N1
namespace N1
open PySem PySem.Spec PyProof.Rows L2

/-- an open way: what is wanted where the test is True, where it is False -/
structure Br (c : Bool) (A B : Prop) : Prop where
  t : c = true → A
  f : c = false → B

section
variable {K : PySem.W.Frag} {O : Ms} {io : List Addr} {α : List (Option Addr)} {τ : DSt} {σ : L2.St} {H : Hp}
theorem use_weak {τ : DSt} {tk : Tok} {k : T → Prop} : use τ (weak tk) k = use τ tk k := by cases tk <;> rfl
theorem froze_weak {τ : DSt} {tk : Tok} {k : T → DSt → Prop} : froze τ (weak tk) k = froze τ tk k := by cases tk <;> rfl
/-- one operand, then Qv -/
theorem one {ta : DE} {C : Tok → DSt → Prop} {Qv : V → Hp → Prop} (n : Now K O io none α τ σ H) (h : ta τ C)
    (fin : ∀ v tk α' τ' H', Now K O io none α' τ' σ H' → Kp O (Mu O α none) H (Mu O α' none) H' → TokOk K (Mu O α' none) σ H' v (weak tk) → C tk τ' → Qv v H') : liftE K ta σ H Qv :=
  ⟨O, io, α, τ, C, n, h, fun v tk tmp α' τ' H' n' k r c => let ⟨n2, k2, r2⟩ := r.tok n' k; fin v tk α' τ' H' n2 k2 r2 c⟩
theorem two {ta tb : DE} {C : Tok → Tok → DSt → Prop} {Qv : V → V → Hp → Prop} (n : Now K O io none α τ σ H) (h : ta τ fun x τ1 => tb τ1 fun y τ2 => C x y τ2)
    (fin : ∀ v u x y α' τ' H', Now K O io none α' τ' σ H' → Kp O (Mu O α none) H (Mu O α' none) H' → TokOk K (Mu O α' none) σ H' v (weak x) → TokOk K (Mu O α' none) σ H' u (weak y) → C x y τ' → Qv v u H') :
    liftE K ta σ H fun v H1 => liftE K tb σ H1 fun u H2 => Qv v u H2 :=
  one n h fun v x α1 τ1 H1 n1 k1 r1 c1 => one n1 c1 fun u y α2 τ2 H2 n2 k2 r2 c2 => fin v u x y α2 τ2 H2 n2 (k1.trans k2) (r1.keep k2.toKp0) r2 c2
end

/-! ### names, constants -/
def dVar (i : Nat) : DE := fun τ Q => match slotAt τ i with
  | some (.val t) => Q (.v t) τ
  | some (.own _) => Q (.s i) τ
  | some (.io _ _) => Q (.s i) τ
  | none => False
def dC (t : T) : DE := fun τ Q => Q (.v t) τ
section
variable {X : Cx} {e : Expr}
theorem qe_var {i : Nat} (h : PE X e (tVar i)) : QE X e (dVar i) := PEmono h fun σ H Q ⟨O, io, α, τ, R, n, h, fin⟩ => by
  unfold dVar at h
  split at h
  · next t e =>
    obtain ⟨v, e2, q⟩ := n.slot i _ (slotAt_iff.mp e)
    exact ⟨v, e2, fin v (.v t) none α τ H n .refl ⟨rfl, q⟩ h⟩
  · next ts e =>
    obtain ⟨a, vs, e1, e2, e3, q⟩ := n.slot i _ (slotAt_iff.mp e)
    exact ⟨_, e2, fin _ (.s i) none α τ H n .refl ⟨rfl, e2⟩ h⟩
  · next j ts e =>
    obtain ⟨a, vs, e0, e1, e2, e3, q⟩ := n.slot i _ (slotAt_iff.mp e)
    exact ⟨_, e2, fin _ (.s i) none α τ H n .refl ⟨rfl, e2⟩ h⟩
  · exact h.elim
theorem qe_const {v : V} {t : T} (h : PE X e (tC v)) (r : ∀ M H, VT X.K M H v t) : QE X e (dC t) := PEmono h fun σ H Q ⟨O, io, α, τ, R, n, h, fin⟩ =>
  fin v (.v t) none α τ H n .refl ⟨rfl, r _ _⟩ h
theorem qe_int {i j pos} : QE X (.Constant (.int i) j pos) (dC (.int i)) := qe_const pe_int fun _ _ => .int i
theorem qe_bl {b j pos} : QE X (.Constant (.bool b) j pos) (dC (.bl b)) := qe_const pe_bl fun _ _ => .bl b
theorem qe_non {j pos} : QE X (.Constant .none j pos) (dC .non) := qe_const pe_non fun _ _ => .non
theorem qe_str {x j pos} (h : PyData.strOk x = true := by decide +kernel) : QE X (.Constant (.str x) j pos) (dC (.str x)) := qe_const pe_str fun _ _ => .str x h
end

/-! ### lists of operands -/
def dNil : DA := fun τ Q => Q [] τ
def dCons (te : DE) (ta : DA) : DA := fun τ Q => te τ fun tk τ1 => ta τ1 fun tks τ2 => Q (weak tk :: tks) τ2
def useAll (τ : DSt) : List Tok → (List T → Prop) → Prop
  | [], k => k []
  | tk :: r, k => use τ tk fun t => useAll τ r fun ts => k (t :: ts)
def frozeAll : DSt → List Tok → (List T → DSt → Prop) → Prop
  | τ, [], k => k [] τ
  | τ, tk :: r, k => froze τ tk fun t τ1 => frozeAll τ1 r fun ts τ2 => k (t :: ts) τ2
inductive VCs (K : PySem.W.Frag) (M : Ms) (H : Hp) : List V → List T → Prop
  | nil : VCs K M H [] []
  | cons {v : V} {vs : List V} {t : T} {ts : List T} : VC K M H v t → VCs K M H vs ts → VCs K M H (v :: vs) (t :: ts)
section
variable {K : PySem.W.Frag} {O : Ms} {io : List Addr} {α : List (Option Addr)} {τ : DSt} {σ : L2.St} {H : Hp}
theorem useAll_ok (n : Now K O io none α τ σ H) : ∀ {vs : List V} {tks : List Tok} {k : List T → Prop}, ToksOk K (Mu O α none) σ H vs tks → useAll τ tks k → ∃ ts, VCs K (Mu O α none) H vs ts ∧ k ts
  | _, _, k, .nil, h => ⟨[], .nil, h⟩
  | _, _, k, .cons r rs, h => by
    obtain ⟨t, c, h⟩ := use_ok n r h
    obtain ⟨ts, cs, h⟩ := useAll_ok n rs h
    exact ⟨t :: ts, .cons c cs, h⟩
theorem frozeAll_ok : ∀ {vs : List V} {tks : List Tok} {α : List (Option Addr)} {τ : DSt} {k : List T → DSt → Prop}, Now K O io none α τ σ H → ToksOk K (Mu O α none) σ H vs tks → frozeAll τ tks k →
    ∃ ts α' τ', Now K O io none α' τ' σ H ∧ (∀ a, Mu O α' none a → Mu O α none a) ∧ VTs K (Mu O α' none) H vs ts ∧ k ts τ'
  | _, _, α, τ, k, n, .nil, h => ⟨[], α, τ, n, fun _ z => z, .nil, h⟩
  | _, _, α, τ, k, n, .cons r rs, h => by
    obtain ⟨t, α1, τ1, n1, a1, q1, h1⟩ := froze_ok n r h
    obtain ⟨ts, α2, τ2, n2, a2, q2, h2⟩ := frozeAll_ok n1 (rs.keep (.of_anti a1)) h1
    exact ⟨t :: ts, α2, τ2, n2, fun a z => a1 a (a2 a z), .cons (q1.keep (.of_anti a2)) q2, h2⟩
theorem ToksOk.length {M : Ms} {vs : List V} {tks : List Tok} (h : ToksOk K M σ H vs tks) : vs.length = tks.length := by
  induction h with
  | nil => rfl
  | cons _ _ ih => exact congrArg (· + 1) ih
end
section
variable {X : Cx} {e : Expr} {es : List Expr} {te : DE} {ta : DA} {pos : Pos}
theorem qa_nil : QA X [] dNil := PAmono pa_nil fun σ H Q ⟨O, io, α, τ, R, n, h, fin⟩ => fin [] [] α τ H n .refl .nil h
theorem qa_cons (he : QE X e te) (ha : QA X es ta) (hs : starEach (e :: es) X.env = (false, eval e X.env) :: starEach es X.env := by rfl) : QA X (e :: es) (dCons te ta) :=
  PAmono (pa_cons he ha hs) fun σ H Q ⟨O, io, α, τ, R, n, h, fin⟩ =>
    one n h fun v tk α1 τ1 H1 n1 k1 r1 c1 => ⟨O, io, α1, τ1, _, n1, c1, fun vs tks α2 τ2 H2 n2 k2 r2 c2 => fin (v :: vs) (weak tk :: tks) α2 τ2 H2 n2 (k1.trans k2) (.cons (r1.keep k2.toKp0) r2) c2⟩

/-! ### tuples, lists that are written -/
def dTup (m : Nat) (ta : DA) : DE := fun τ Q => ta τ fun tks τ1 => tks.length = m ∧ frozeAll τ1 tks fun ts τ2 => Q (.v (.tup ts)) τ2
def dLst (m : Nat) (ta : DA) : DE := fun τ Q => ta τ fun tks τ1 => tks.length = m ∧ frozeAll τ1 tks fun ts τ2 => Q (.fr ts) τ2
theorem small_line {n : Nat} (h : n ≤ 1000) : n ≤ sizeLine := Nat.le_trans h (by decide)
theorem qe_tup {x1} (m : Nat) (h : QA X es ta) (hm : m ≤ 1000 := by decide) : QE X (.Tuple es x1 pos) (dTup m ta) :=
  PEmono (pe_tup h) fun σ H Q ⟨O, io, α, τ, R, n, h, fin⟩ => ⟨O, io, α, τ, _, n, h, fun vs tks α1 τ1 H1 n1 k1 r1 ⟨hl, c1⟩ => by
    obtain ⟨ts, α2, τ2, n2, a2, q2, c2⟩ := frozeAll_ok n1 r1 c1
    refine ⟨by rw [r1.length, hl]; exact small_line hm, fun p hp => ?_⟩
    have kp := kp_new n2 hp (.tup vs) (.inl rfl)
    exact fin (.ref p) (.v (.tup ts)) none α2 τ2 _ (now_new n2 hp _ (.inl rfl)) ((k1.trans (.of_anti a2)).trans kp) ⟨rfl, .tup (SqT.of upd_same) (q2.keep kp.toKp0)⟩ c2⟩
theorem qe_lst (m : Nat) (h : QA X es ta) (hm : m ≤ 1000 := by decide) : QE X (.List es pos) (dLst m ta) :=
  PEmono (pe_lst h) fun σ H Q ⟨O, io, α, τ, R, n, h, fin⟩ => ⟨O, io, α, τ, _, n, h, fun vs tks α1 τ1 H1 n1 k1 r1 ⟨hl, c1⟩ => by
    obtain ⟨ts, α2, τ2, n2, a2, q2, c2⟩ := frozeAll_ok n1 r1 c1
    refine ⟨by rw [r1.length, hl]; exact small_line hm, fun p hp => ?_⟩
    have kp := kp_new n2 hp (.lst vs) (.inr rfl)
    exact fin (.ref p) (.fr ts) (some p) α2 τ2 _ (now_new n2 hp _ (.inr rfl)) ((k1.trans (.of_anti a2)).trans kp) ⟨p, vs, rfl, rfl, upd_same, q2.keep kp.toKp0⟩ c2⟩
end

/-! ### operators -/
def dOp (r : T → T → (Tok → Prop) → Prop) (ta tb : DE) : DE := fun τ Q => ta τ fun x τ1 => tb τ1 fun y τ2 => use τ2 x fun a => use τ2 y fun b => r a b fun z => Q z τ2
def rD (K : PySem.W.Frag) (r : T → T → (Tok → Prop) → Prop) : R2 := fun x y H Q => ∃ (O : Ms) (io : List Addr) (α : List (Option Addr)) (τ : DSt) (ρ : L2.St) (a b : T) (k : Tok → Prop),
  Now K O io none α τ ρ H ∧ VC K (Mu O α none) H x a ∧ VC K (Mu O α none) H y b ∧ r a b k ∧ ∀ z H', ResQ K O io α τ ρ H k z H' → Q z H'
section
variable {X : Cx} {a b : Expr} {ta tb : DE} {pos : Pos} {r : T → T → (Tok → Prop) → Prop}
theorem EPmono {pins : List (Addr × Obj)} {σ : L2.St} {Q Q' : VK} {u : Value} {s : Shared} (h : EP X pins σ Q u s) (m : ∀ v H, Q v H → Q' v H) : EP X pins σ Q' u s :=
  let ⟨v, H', I, r, q⟩ := h; ⟨v, H', I, r, m v H' q⟩
theorem OpD.opr {f : Value → Value → Sem Value} (h : OpD X f r) : OpR X f (rD X.K r) := fun pins s σ H x y v u Q I rx ry ⟨O, io, α, τ, ρ, a, b, k, n, ca, cb, q, fin⟩ =>
  thn (h pins s σ H x y v u O io α τ ρ a b k I n rx ry ca cb q) fun _ _ z => EPmono z fin
theorem dop_lift {σ : L2.St} {H : Hp} {Q : VK} (h : liftE X.K (dOp r ta tb) σ H Q) : tOp (rD X.K r) (liftE X.K ta) (liftE X.K tb) σ H Q := by
  obtain ⟨O, io, α, τ, R, n, h, fin⟩ := h
  refine two n h fun v u x y α1 τ1 H1 n1 k1 r1 r2 c => ?_
  rw [← use_weak] at c
  obtain ⟨a, ca, c⟩ := use_ok n1 r1 c
  rw [← use_weak] at c
  obtain ⟨b, cb, c⟩ := use_ok n1 r2 c
  exact ⟨O, io, α1, τ1, σ, a, b, _, n1, ca, cb, c, fun z H' ⟨tk, tmp, n2, k2, r3, q⟩ => fin z tk tmp α1 τ1 H' n2 (k1.trans k2) r3 q⟩
theorem qe_op {op : Operator} (ho : OpD X (binaryOp op) r) (ha : QE X a ta) (hb : QE X b tb) : QE X (.BinOp a op b pos) (dOp r ta tb) := PEmono (pe_op ho.opr ha hb) fun _ _ _ => dop_lift
theorem qe_cmp {op : CmpOp} (ho : OpD X (compareOp op) r) (ha : QE X a ta) (hb : QE X b tb) (hm : behindInMarks op b = false) : QE X (.Compare a [op] [b] pos) (dOp r ta tb) := PEmono (pe_cmpR ho.opr ha hb hm) fun _ _ _ => dop_lift
/-- a comparison as a test -/
def dTest (t : DE) : DT := fun τ Q => t τ fun tk τ1 => match tk with
  | .v (.bl c) => Q c τ1
  | _ => False
theorem VTbl {K : PySem.W.Frag} {M : Ms} {H : Hp} {v : V} {c : Bool} (h : VT K M H v (.bl c)) : v = .bl c := by cases h; rfl
theorem dtest_lift {t : DE} {t' : TE} {σ : L2.St} {H : Hp} {Q : Bool → Hp → Prop} (m : ∀ σ H Q, liftE X.K t σ H Q → t' σ H Q) (h : liftT X.K (dTest t) σ H Q) : tTest t' σ H Q := by
  obtain ⟨O, io, α, τ, R, n, h, fin⟩ := h
  refine m _ _ _ ⟨O, io, α, τ, _, n, h, fun v tk tmp α' τ' H' n' k' r c => ?_⟩
  cases tk with
  | v t =>
    obtain ⟨e, r⟩ := r
    cases e
    cases t with
    | bl b => exact ⟨b, VTbl r, fin b α' τ' H' n' k' c⟩
    | _ => exact c.elim
  | _ => exact c.elim
theorem qt_cmp {op : CmpOp} (ho : OpD X (compareOp op) r) (ha : QE X a ta) (hb : QE X b tb) (hm : behindInMarks op b = false) : QT X (.Compare a [op] [b] pos) (dTest (dOp r ta tb)) :=
  PTmono (pt_cmpR ho.opr ha hb hm) fun _ _ _ => dtest_lift fun _ _ _ => dop_lift

/-! ### a op b op c -/
def dChain (r r' : T → T → (Tok → Prop) → Prop) (ta tb tc : DE) : DE := fun τ Q => ta τ fun x τ1 => tb τ1 fun y τ2 => use τ2 x fun a => use τ2 y fun b => r a b fun z => match z with
  | .v (.bl k) => Br k (tc τ2 fun w τ3 => use τ3 y fun b => use τ3 w fun c => r' b c fun z' => Q z' τ3) (Q (.v (.bl false)) τ2)
  | _ => False
theorem dchain_lift {c : Expr} {tc : DE} {r' : T → T → (Tok → Prop) → Prop} {σ : L2.St} {H : Hp} {Q : VK} (h : liftE X.K (dChain r r' ta tb tc) σ H Q) : tChain (rD X.K r) (rD X.K r') (liftE X.K ta) (liftE X.K tb) (liftE X.K tc) σ H Q := by
  obtain ⟨O, io, α, τ, R, n, h, fin⟩ := h
  refine two n h fun v u x y α1 τ1 H1 n1 k1 r1 r2 c => ?_
  rw [← use_weak] at c
  obtain ⟨a, ca, c⟩ := use_ok n1 r1 c
  rw [← use_weak] at c
  obtain ⟨b, cb, c⟩ := use_ok n1 r2 c
  refine ⟨O, io, α1, τ1, σ, a, b, _, n1, ca, cb, c, fun z H' ⟨tk, tmp, n2, k2, r3, q⟩ => ?_⟩
  cases tk with
  | v t =>
    obtain ⟨e, r3⟩ := r3
    cases e
    cases t with
    | bl kk =>
      refine ⟨kk, VTbl r3, ?_⟩
      cases kk with
      | true =>
        refine iteT (one n2 (q.t rfl) fun w tk3 α3 τ3 H3 n3 k3 r4 c3 => ?_)
        rw [← use_weak] at c3
        obtain ⟨b', cb', c3⟩ := use_ok n3 ((r2.keep k2.toKp0).keep k3.toKp0) c3
        rw [← use_weak] at c3
        obtain ⟨c', cc', c3⟩ := use_ok n3 r4 c3
        exact ⟨O, io, α3, τ3, σ, b', c', _, n3, cb', cc', c3, fun z H' ⟨tk, tmp, n5, k5, r5, q⟩ => fin z tk tmp α3 τ3 H' n5 (((k1.trans k2).trans k3).trans k5) r5 q⟩
      | false => exact iteF (fin (.bl false) (.v (.bl false)) none α1 τ1 H' n2 (k1.trans k2) ⟨rfl, .bl false⟩ (q.f rfl))
    | _ => exact q.elim
  | _ => exact q.elim
theorem qe_chain {c : Expr} {tc : DE} {op op' : CmpOp} {r' : T → T → (Tok → Prop) → Prop} (ho : OpD X (compareOp op) r) (ho' : OpD X (compareOp op') r') (ha : QE X a ta) (hb : QE X b tb) (hc : QE X c tc)
    (hm : lastMarks [op, op'] [b, c] = false := by with_unfolding_all rfl) : QE X (.Compare a [op, op'] [b, c] pos) (dChain r r' ta tb tc) := PEmono (pe_chain ho.opr ho'.opr ha hb hc hm) fun _ _ _ => dchain_lift (c := c)
theorem qt_chain {c : Expr} {tc : DE} {op op' : CmpOp} {r' : T → T → (Tok → Prop) → Prop} (ho : OpD X (compareOp op) r) (ho' : OpD X (compareOp op') r') (ha : QE X a ta) (hb : QE X b tb) (hc : QE X c tc)
    (hm : lastMarks [op, op'] [b, c] = false := by with_unfolding_all rfl) : QT X (.Compare a [op, op'] [b, c] pos) (dTest (dChain r r' ta tb tc)) :=
  PTmono (pt_chain ho.opr ho'.opr ha hb hc hm) fun _ _ _ => dtest_lift fun _ _ _ => dchain_lift (c := c)

/-! ### truth, and, or, not -/
def truthOf : T → (Bool → Prop) → Prop
  | .non, k => k false
  | .bl b, k => k b
  | .int i, k => k (i != 0)
  | .str x, k => x.length ≤ sizeLine ∧ k ((x.length : Int) != 0)
  | .tup ts, k => k (!ts.isEmpty)
  | .lst ts, k => k (!ts.isEmpty)
  | .lsk ts, k => k (!ts.isEmpty)
  | .ty _, _ => False
def dTruth (te : DE) : DT := fun τ Q => te τ fun tk τ1 => use τ1 tk fun t => truthOf t fun b => Q b τ1
theorem VTs.empty {K : PySem.W.Frag} {M : Ms} {H : Hp} {vs : List V} {ts : List T} (h : VTs K M H vs ts) : (!vs.isEmpty) = !ts.isEmpty := by cases h <;> rfl
theorem truth_ok {K : PySem.W.Frag} {M : Ms} {H : Hp} {v : V} {t : T} {k : Bool → Prop} (c : VC K M H v t) (h : truthOf t k) : ∃ b, TruV K v H b ∧ k b := by
  cases t with
  | non => rw [c.non]; exact ⟨_, rfl, h⟩
  | bl b => cases c.bl; exact ⟨_, rfl, h⟩
  | int i => cases c.int; exact ⟨_, rfl, h⟩
  | str x => obtain ⟨rfl, _⟩ := c.str; exact ⟨_, ⟨h.1, rfl⟩, h.2⟩
  | tup ts => obtain ⟨a, vs, rfl, e, hs⟩ := c.tup; exact ⟨_, .inr (.inl ⟨vs, e, rfl⟩), by rw [hs.empty]; exact h⟩
  | lst ts => obtain ⟨a, vs, rfl, e, hs⟩ := c.lst; exact ⟨_, .inl ⟨vs, SqL.of e, rfl⟩, by rw [hs.empty]; exact h⟩
  | lsk ts => obtain ⟨a, vs, rfl, e, hs⟩ := c.lsk; exact ⟨_, .inl ⟨vs, e, rfl⟩, by rw [hs.empty]; exact h⟩
  | ty n => exact h.elim
theorem qt_truth (ha : QE X a ta) (he : ∀ whole, isTrue a X.env whole = (do let v ← whole; standAt a.pos; holding [v] (truthy v)) := by intro _; rfl) : QT X a (dTruth ta) :=
  PTmono (pt_truth ha he) fun σ H Q ⟨O, io, α, τ, R, n, h, fin⟩ => one n h fun v tk α1 τ1 H1 n1 k1 r1 c => by
    rw [← use_weak] at c
    obtain ⟨t, ct, c⟩ := use_ok n1 r1 c
    obtain ⟨b, tb, c⟩ := truth_ok ct c
    exact ⟨b, tb, fin b α1 τ1 H1 n1 k1 c⟩
def dAnd (t u : DT) : DT := fun τ Q => t τ fun c τ1 => Br c (u τ1 Q) (Q false τ1)
def dOr (t u : DT) : DT := fun τ Q => t τ fun c τ1 => Br c (Q true τ1) (u τ1 Q)
def dNot (t : DT) : DT := fun τ Q => t τ fun c τ1 => Q (!c) τ1
variable {tA tB : DT} {rest : List Expr}
theorem qw_and1 (ha : QT X a tA) : QW X (.BoolOp .And [a] pos) tA := pw_and1 ha
theorem qw_or1 (ha : QT X a tA) : QW X (.BoolOp .Or [a] pos) tA := pw_or1 ha
theorem qw_and (ha : QT X a tA) (hb : QW X (.BoolOp .And (b :: rest) pos) tB) : QW X (.BoolOp .And (a :: b :: rest) pos) (dAnd tA tB) :=
  PWmono (pw_and ha hb) fun σ H Q ⟨O, io, α, τ, R, n, h, fin⟩ => ⟨O, io, α, τ, _, n, h, fun c α1 τ1 H1 n1 k1 q => by
    cases c with
    | true => exact iteT ⟨O, io, α1, τ1, R, n1, q.t rfl, fun b α2 τ2 H2 n2 k2 q2 => fin b α2 τ2 H2 n2 (k1.trans k2) q2⟩
    | false => exact iteF (fin false α1 τ1 H1 n1 k1 (q.f rfl))⟩
theorem qw_or (ha : QT X a tA) (hb : QW X (.BoolOp .Or (b :: rest) pos) tB) : QW X (.BoolOp .Or (a :: b :: rest) pos) (dOr tA tB) :=
  PWmono (pw_or ha hb) fun σ H Q ⟨O, io, α, τ, R, n, h, fin⟩ => ⟨O, io, α, τ, _, n, h, fun c α1 τ1 H1 n1 k1 q => by
    cases c with
    | true => exact iteT (fin true α1 τ1 H1 n1 k1 (q.t rfl))
    | false => exact iteF ⟨O, io, α1, τ1, R, n1, q.f rfl, fun b α2 τ2 H2 n2 k2 q2 => fin b α2 τ2 H2 n2 (k1.trans k2) q2⟩⟩
theorem qt_not (ha : QT X a tA) : QT X (.UnaryOp .Not a pos) (dNot tA) :=
  PTmono (pt_not ha) fun σ H Q ⟨O, io, α, τ, R, n, h, fin⟩ => ⟨O, io, α, τ, _, n, h, fun c α1 τ1 H1 n1 k1 q => fin (!c) α1 τ1 H1 n1 k1 q⟩
/-- as values, of bools -/
def dBool (t : DE) (k : Bool → DSt → Prop) (τ : DSt) : Prop := t τ fun tk τ1 => use τ1 tk fun t => match t with
  | .bl c => k c τ1
  | _ => False
theorem dbool_ok {K : PySem.W.Frag} {O : Ms} {io : List Addr} {α : List (Option Addr)} {τ : DSt} {σ : L2.St} {H : Hp} {t : DE} {k : Bool → DSt → Prop} {Q : V → Hp → Prop} (n : Now K O io none α τ σ H) (h : dBool t k τ)
    (fin : ∀ c α1 τ1 H1, Now K O io none α1 τ1 σ H1 → Kp O (Mu O α none) H (Mu O α1 none) H1 → k c τ1 → Q (.bl c) H1) : liftE K t σ H Q :=
  one n h fun v tk α1 τ1 H1 n1 k1 r1 c => by
    rw [← use_weak] at c
    obtain ⟨t, ct, c⟩ := use_ok n1 r1 c
    cases t with
    | bl b => cases ct.bl; exact fin b α1 τ1 H1 n1 k1 c
    | _ => exact c.elim
def dAndV (ta tb : DE) : DE := fun τ Q => dBool ta (fun c τ1 => Br c (tb τ1 Q) (Q (.v (.bl false)) τ1)) τ
def dOrV (ta tb : DE) : DE := fun τ Q => dBool ta (fun c τ1 => Br c (Q (.v (.bl true)) τ1) (tb τ1 Q)) τ
def dNotV (ta : DE) : DE := fun τ Q => dBool ta (fun c τ1 => Q (.v (.bl !c)) τ1) τ
theorem qe_one {op} (h : QE X a ta) : QE X (.BoolOp op [a] pos) ta := pe_one h
theorem qe_and (ha : QE X a ta) (hb : QE X (.BoolOp .And (b :: rest) pos) tb) : QE X (.BoolOp .And (a :: b :: rest) pos) (dAndV ta tb) :=
  PEmono (pe_and ha hb) fun σ H Q ⟨O, io, α, τ, R, n, h, fin⟩ => dbool_ok n h fun c α1 τ1 H1 n1 k1 q => ⟨c, rfl, by
    cases c with
    | true => exact iteT ⟨O, io, α1, τ1, R, n1, q.t rfl, fun v tk tmp α2 τ2 H2 n2 k2 => fin v tk tmp α2 τ2 H2 n2 (k1.trans k2)⟩
    | false => exact iteF (fin (.bl false) (.v (.bl false)) none α1 τ1 H1 n1 k1 ⟨rfl, .bl false⟩ (q.f rfl))⟩
theorem qe_or (ha : QE X a ta) (hb : QE X (.BoolOp .Or (b :: rest) pos) tb) : QE X (.BoolOp .Or (a :: b :: rest) pos) (dOrV ta tb) :=
  PEmono (pe_or ha hb) fun σ H Q ⟨O, io, α, τ, R, n, h, fin⟩ => dbool_ok n h fun c α1 τ1 H1 n1 k1 q => ⟨c, rfl, by
    cases c with
    | true => exact iteT (fin (.bl true) (.v (.bl true)) none α1 τ1 H1 n1 k1 ⟨rfl, .bl true⟩ (q.t rfl))
    | false => exact iteF ⟨O, io, α1, τ1, R, n1, q.f rfl, fun v tk tmp α2 τ2 H2 n2 k2 => fin v tk tmp α2 τ2 H2 n2 (k1.trans k2)⟩⟩
theorem qe_not (ha : QE X a ta) : QE X (.UnaryOp .Not a pos) (dNotV ta) :=
  PEmono (pe_not ha) fun σ H Q ⟨O, io, α, τ, R, n, h, fin⟩ => dbool_ok n h fun c α1 τ1 H1 n1 k1 q => ⟨c, rfl, fin (.bl !c) (.v (.bl !c)) none α1 τ1 H1 n1 k1 ⟨rfl, .bl _⟩ q⟩
/-- a if t else b -/
def dIfE (t : DT) (ta tb : DE) : DE := fun τ Q => t τ fun c τ1 => Br c (ta τ1 Q) (tb τ1 Q)
theorem qe_if {c : Expr} (hc : QT X c tA) (ha : QE X a ta) (hb : QE X b tb) : QE X (.IfExp c a b pos) (dIfE tA ta tb) :=
  PEmono (pe_ifExp hc ha hb) fun σ H Q ⟨O, io, α, τ, R, n, h, fin⟩ => ⟨O, io, α, τ, _, n, h, fun c α1 τ1 H1 n1 k1 q => by
    cases c with
    | true => exact iteT ⟨O, io, α1, τ1, R, n1, q.t rfl, fun v tk tmp α2 τ2 H2 n2 k2 => fin v tk tmp α2 τ2 H2 n2 (k1.trans k2)⟩
    | false => exact iteF ⟨O, io, α1, τ1, R, n1, q.f rfl, fun v tk tmp α2 τ2 H2 n2 k2 => fin v tk tmp α2 τ2 H2 n2 (k1.trans k2)⟩⟩
/-- -a -/
def dNeg (ta : DE) : DE := fun τ Q => ta τ fun tk τ1 => use τ1 tk fun t => match t with
  | .int i => Q (.v (.int (-i))) τ1
  | _ => False
theorem qe_neg (ha : QE X a ta) : QE X (.UnaryOp .USub a pos) (dNeg ta) :=
  PEmono (pe_un un_neg ha) fun σ H Q ⟨O, io, α, τ, R, n, h, fin⟩ => one n h fun v tk α1 τ1 H1 n1 k1 r1 c => by
    rw [← use_weak] at c
    obtain ⟨t, ct, c⟩ := use_ok n1 r1 c
    cases t with
    | int i => cases ct.int; exact ⟨i, rfl, fin _ (.v (.int (-i))) none α1 τ1 H1 n1 k1 ⟨rfl, .int _⟩ c⟩
    | _ => exact c.elim

/-! ### a place of a list, a tuple, a text -/
def atT {β : Type} : List β → Int → Option β
  | ts, .ofNat n => ts[n]?
  | ts, .negSucc n => if n < ts.length then ts[ts.length - 1 - n]? else none
theorem atT_eq {β : Type} (ts : List β) (i : Int) : atT ts i = atI ts i := by
  cases i with
  | ofNat n =>
    show ts[n]? = (ixN ts.length (n : Int)).bind fun j => ts[j]?
    by_cases h : n < ts.length
    · have e : ixN ts.length (n : Int) = some n := by
        unfold ixN
        rw [if_pos (Int.natCast_nonneg n), if_pos (show (n : Int) < ((ts.length : Nat) : Int) by omega)]
        rfl
      rw [e]
      rfl
    · have e : ixN ts.length (n : Int) = none := by
        unfold ixN
        rw [if_pos (Int.natCast_nonneg n), if_neg (show ¬ (n : Int) < ((ts.length : Nat) : Int) by omega)]
      rw [e, List.getElem?_eq_none (by omega)]
      rfl
  | negSucc n =>
    show (if n < ts.length then ts[ts.length - 1 - n]? else none) = (ixN ts.length (Int.negSucc n)).bind fun j => ts[j]?
    have h0 : ¬ 0 ≤ Int.negSucc n := by omega
    by_cases h : n < ts.length
    · have e : ixN ts.length (Int.negSucc n) = some (ts.length - 1 - n) := by
        unfold ixN
        rw [if_neg h0, if_pos (show -((ts.length : Nat) : Int) ≤ Int.negSucc n by omega)]
        congr 1
        omega
      rw [if_pos h, e]
      rfl
    · have e : ixN ts.length (Int.negSucc n) = none := by
        unfold ixN
        rw [if_neg h0, if_neg (show ¬ -((ts.length : Nat) : Int) ≤ Int.negSucc n by omega)]
      rw [if_neg h, e]
      rfl
/-- there is one, and it is as wanted -/
def ifSome {β : Type} (o : Option β) (k : β → Prop) : Prop := match o with
  | some t => k t
  | none => False
theorem ifSome_ok {β : Type} {o : Option β} {k : β → Prop} (h : ifSome o k) : ∃ t, o = some t ∧ k t := by
  cases o with
  | none => exact h.elim
  | some t => exact ⟨t, rfl, h⟩
theorem ifSome.of {β : Type} {o : Option β} {k : β → Prop} {t : β} (h : o = some t) (q : k t) : ifSome o k := by
  subst h
  exact q
def opIx : T → T → (Tok → Prop) → Prop
  | .tup ts, .int i, k => ifSome (atT ts i) fun t => k (.v t)
  | .lst ts, .int i, k => ifSome (atT ts i) fun t => k (.v t)
  | .lsk ts, .int i, k => ifSome (atT ts i) fun t => k (.v t)
  | .str x, .int i, k => x.length ≤ sizeLine ∧ ifSome (atT x.cps.toList i) fun c => k (.v (.str ⟨#[c]⟩))
  | _, _, _ => False
theorem VTs.at {K : PySem.W.Frag} {M : Ms} {H : Hp} {vs : List V} {ts : List T} {i : Int} {t : T} (h : VTs K M H vs ts) (e : atT ts i = some t) : ∃ v, atI vs i = some v ∧ VT K M H v t := by
  rw [atT_eq] at e
  unfold atI at e ⊢
  rw [h.length]
  cases q : ixN ts.length i with
  | none => rw [q] at e; cases e
  | some j =>
    rw [q] at e
    exact h.get e
theorem ixr : IxR X (rD X.K opIx) := by
  intro value slice pins s σ H x y v u Q I rx ry ⟨O, io, α, τ, ρ, a, b, k, n, ca, cb, q, fin⟩ hs
  cases a <;> cases b <;> first | exact q.elim | skip
  · obtain ⟨rfl, o1⟩ := ca.str
    cases cb.int
    obtain ⟨hz, q⟩ := q
    obtain ⟨c, e, q⟩ := ifSome_ok q
    rw [atT_eq] at e
    refine ix_str value slice pins s σ H _ _ v u Q I rx ry ⟨_, _, _, rfl, rfl, hz, e, fin _ _ (.val n (.str _ ?_) q)⟩ hs
    obtain ⟨j, _, e2, _⟩ := atI_get e
    have hm : c ∈ _ := List.mem_of_getElem? e2
    unfold PyData.strOk at o1 ⊢
    rw [Array.all_eq_true'] at o1
    simpa using o1 c (by simpa using hm)
  · obtain ⟨p, vs, rfl, e, hv⟩ := ca.tup
    cases cb.int
    obtain ⟨t, e2, q⟩ := ifSome_ok q
    obtain ⟨w', e3, h3⟩ := hv.at e2
    exact ix_tup value slice pins s σ H _ _ v u Q I rx ry ⟨_, _, _, _, rfl, rfl, e, e3, fin _ _ (.val n h3 q)⟩ hs
  · obtain ⟨p, vs, rfl, e, hv⟩ := ca.lst
    cases cb.int
    obtain ⟨t, e2, q⟩ := ifSome_ok q
    obtain ⟨w', e3, h3⟩ := hv.at e2
    exact ix_list value slice pins s σ H _ _ v u Q I rx ry ⟨_, _, _, _, rfl, rfl, SqL.of e, e3, fin _ _ (.val n h3 q)⟩ hs
  · obtain ⟨p, vs, rfl, e, hv⟩ := ca.lsk
    cases cb.int
    obtain ⟨t, e2, q⟩ := ifSome_ok q
    obtain ⟨w', e3, h3⟩ := hv.at e2
    exact ix_list value slice pins s σ H _ _ v u Q I rx ry ⟨_, _, _, _, rfl, rfl, e, e3, fin _ _ (.val n h3 q)⟩ hs
theorem qe_ix (ha : QE X a ta) (hb : QE X b tb) (hs : PlainIx b) : QE X (.Subscript a b pos) (dOp opIx ta tb) := PEmono (pe_ix ixr ha hb hs) fun _ _ _ => dop_lift
end
end N1
namespace N1
open PySem PySem.Spec PyProof.Rows L2

section
variable {K : PySem.W.Frag} {O M M' : Ms} {io : List Addr} {H H' : Hp}
theorem Lk.after {E : DSt → Prop} {D : L2.St → Hp → Prop} (l : Lk K O io M H E D) (k : Kp O M H M' H') : Lk K O io M' H' E D := fun α' τ' σ' H2 n k2 e => l α' τ' σ' H2 n (k.trans k2) e
theorem Rk.after {E : DK} {D : VK} (l : Rk K O io M H E D) (k : Kp O M H M' H') : Rk K O io M' H' E D := fun v tk tmp α' τ' σ' H2 n k2 r e => l v tk tmp α' τ' σ' H2 n (k.trans k2) r e
end

/-! ### blocks -/
def dNext : DS := fun D τ => D.nx τ
def dSeq (t u : DS) : DS := fun D τ => t { D with nx := u D } τ
def dNever : DS := fun _ _ => False
def dBreak : DS := fun D τ => D.bk τ
def dCont : DS := fun D τ => D.ct τ
section
variable {X : Cx} {st : Stmt} {rest : List Stmt} {t u : DS} {e : Expr} {te : DE} {pos : Pos}
theorem qss_nil : QSs X [] dNext := PSsmono pss_nil fun D σ H ⟨O, io, α, τ, E, n, h, l1, _, _, _⟩ => l1 α τ σ H n .refl h
theorem qss_cons (h1 : QS X st t) (h2 : QSs X rest u) : QSs X (st :: rest) (dSeq t u) := PSsmono (pss_cons h1 h2) fun D σ H ⟨O, io, α, τ, E, n, h, l1, l2, l3, l4⟩ =>
  ⟨O, io, α, τ, { E with nx := u E }, n, h, fun α' τ' σ' H' n' k e => ⟨O, io, α', τ', E, n', e, l1.after k, l2.after k, l3.after k, l4.after k⟩, l2, l3, l4⟩
theorem qss_one (h1 : QS X st t) : QSs X [st] t := pss_one h1
theorem qs_pass : QS X (.Pass pos) dNext := PSmono ps_pass fun D σ H ⟨O, io, α, τ, E, n, h, l1, _, _, _⟩ => l1 α τ σ H n .refl h
theorem qs_doc {x j pos pos'} : QS X (.Expr (.Constant (.str x) j pos) pos') dNext := PSmono ps_doc fun D σ H ⟨O, io, α, τ, E, n, h, l1, _, _, _⟩ => l1 α τ σ H n .refl h
theorem qs_break : QS X (.Break pos) dBreak := PSmono ps_break fun D σ H ⟨O, io, α, τ, E, n, h, _, _, l, _⟩ => l α τ σ H n .refl h
theorem qs_continue : QS X (.Continue pos) dCont := PSmono ps_continue fun D σ H ⟨O, io, α, τ, E, n, h, _, _, _, l⟩ => l α τ σ H n .refl h
theorem qs_never : QS X st dNever := PSmono ps_never fun D σ H ⟨_, _, _, _, _, _, h, _⟩ => h.elim
theorem qss_never {sts : List Stmt} : QSs X sts dNever := PSsmono pss_never fun D σ H ⟨_, _, _, _, _, _, h, _⟩ => h.elim
/-! an expression for its effect; return -/
def dExpr (te : DE) : DS := fun D τ => te τ fun _ τ1 => D.nx τ1
theorem qs_expr (he : QE X e te) (hs : swapsWith e none pos.line X.env = pure false := by rfl) : QS X (.Expr e pos) (dExpr te) := PSmono (ps_expr he hs) fun D σ H ⟨O, io, α, τ, E, n, h, l1, _, _, _⟩ =>
  one n h fun v tk α1 τ1 H1 n1 k1 r1 c => l1 α1 τ1 σ H1 n1 k1 c
def dRet (te : DE) : DS := fun D τ => te τ D.rt
theorem qs_ret (he : QE X e te) : QS X (.Return (some e) pos) (dRet te) := PSmono (ps_ret he) fun D σ H ⟨O, io, α, τ, E, n, h, _, l2, _, _⟩ =>
  ⟨O, io, α, τ, E.rt, n, h, fun v tk tmp α' τ' H' n' k r c => l2 v tk tmp α' τ' σ H' n' k r c⟩
def dRetN : DS := fun D τ => D.rt (.v .non) τ
theorem qs_retN : QS X (.Return none pos) dRetN := PSmono ps_retN fun D σ H ⟨O, io, α, τ, E, n, h, _, l2, _, _⟩ => l2 .non (.v .non) none α τ σ H n .refl ⟨rfl, .non⟩ h
/-! if -/
def dIf (c : DT) (t u : DS) : DS := fun D τ => c τ fun b τ1 => Br b (t D τ1) (u D τ1)
theorem qs_if {c : Expr} {a b : List Stmt} {tc : DT} (hc : QT X c tc) (ha : QSs X a t) (hb : QSs X b u) : QS X (.If c a b pos) (dIf tc t u) := PSmono (ps_if hc ha hb) fun D σ H ⟨O, io, α, τ, E, n, h, l1, l2, l3, l4⟩ =>
  ⟨O, io, α, τ, _, n, h, fun b α1 τ1 H1 n1 k q => by
    cases b with
    | true => exact iteT ⟨O, io, α1, τ1, E, n1, q.t rfl, l1.after k, l2.after k, l3.after k, l4.after k⟩
    | false => exact iteF ⟨O, io, α1, τ1, E, n1, q.f rfl, l1.after k, l2.after k, l3.after k, l4.after k⟩⟩
end

/-! ### a name takes a value -/
section
variable {K : PySem.W.Frag} {O : Ms} {io : List Addr} {tmp : Option Addr} {α : List (Option Addr)} {τ : DSt} {σ : L2.St} {H : Hp}
theorem set_at {β : Type} {l : List β} {i : Nat} {x : β} (h : i < l.length) : (l.set i x)[i]? = some x := List.getElem?_set_self h
theorem set_off {β : Type} {l : List β} {i j : Nat} {x : β} (h : j ≠ i) : (l.set i x)[j]? = l[j]? := List.getElem?_set_ne (Ne.symm h)
/-- .. a plain one -/
theorem Now.asg {i : Nat} {v : V} {t : T} (n : Now K O io none α τ σ H) (h : VT K (Mu O α none) H v t) : Now K O io none (α.set i none) (setSlot τ i (some (.val t))) (σ.set i (some v)) H :=
  n.setVal (by rw [List.length_set]) (fun j hj => set_off hj) (fun hi => set_at (by rw [← n.lenT]; exact hi)) (h.keep (.of_anti Mu.dropped))
theorem Mu.taken {i : Nat} {p : Addr} : ∀ a, Mu O (α.set i (some p)) none a → Mu O α (some p) a := fun a h => by
  rcases h with h | ⟨j, h⟩ | h
  · exact .inl h
  · rcases getα h with ⟨_, z⟩ | ⟨_, z⟩
    · exact .inr (.inr z.symm)
    · exact .inr (.inl ⟨j, z⟩)
  · cases h
/-- .. a new list -/
theorem Now.asgNew {i : Nat} {p : Addr} {vs : List V} {ts : List T} (n : Now K O io (some p) α τ σ H) (e : H p = some (.lst vs)) (h : VTs K (Mu O α (some p)) H vs ts) :
    Now K O io none (α.set i (some p)) (setSlot τ i (some (.own ts))) (σ.set i (some (.ref p))) H := by
  rw [setSlot_eq]
  have k : Kp0 (Mu O α (some p)) H (Mu O (α.set i (some p)) none) H := .of_anti Mu.taken
  obtain ⟨t1, t2⟩ := n.tm p rfl
  refine ⟨by simp only [List.length_set]; exact n.lenT, by simp only [List.length_set]; exact n.lenA, fun j s es => ?_, fun j1 j2 a e1 e2 => ?_, fun j a ea => ?_, fun p z => (by cases z), fun a ha => ?_⟩
  · by_cases hj : j = i
    · subst hj
      have hl : j < (τ.set j (some (Slot.own ts))).length := (List.getElem?_eq_some_iff.mp es).1
      rw [List.length_set] at hl
      rw [set_at hl] at es
      cases es
      exact ⟨p, vs, set_at (by rw [n.lenA, ← n.lenT]; exact hl), set_at (by rw [← n.lenT]; exact hl), e, h.keep k⟩
    · rw [set_off hj] at es
      have q := n.slot j s es
      cases s with
      | val t => obtain ⟨v, e, h⟩ := q; exact ⟨v, by rw [set_off hj]; exact e, h.keep k⟩
      | own ts => obtain ⟨a, vs, e1, e2, e3, h⟩ := q; exact ⟨a, vs, by rw [set_off hj]; exact e1, by rw [set_off hj]; exact e2, e3, h.keep k⟩
      | io m ts => obtain ⟨a, vs, e0, e1, e2, e3, h⟩ := q; exact ⟨a, vs, e0, by rw [set_off hj]; exact e1, by rw [set_off hj]; exact e2, e3, h.keep k⟩
  · rcases getα e1 with ⟨x1, z1⟩ | ⟨x1, z1⟩ <;> rcases getα e2 with ⟨x2, z2⟩ | ⟨x2, z2⟩
    · rw [x1, x2]
    · cases z1; exact absurd z2 (t2 j2)
    · cases z2; exact absurd z1 (t2 j1)
    · exact n.nd j1 j2 a z1 z2
  · rcases getα ea with ⟨_, z⟩ | ⟨_, z⟩
    · cases z; exact t1
    · exact n.nO j a z
  · rcases Mu.taken a ha with z | z | z
    · exact n.tr a (.inl z)
    · exact n.tr a (.inr (.inl z))
    · cases z; exact ⟨vs, e⟩
end
/-- x = what has come: a new list becomes this frame's own, a list of another name is frozen -/
def asgTo (i : Nat) (k : DSt → Prop) : DK := fun tk τ => match tk with
  | .fr ts => k (setSlot τ i (some (.own ts)))
  | tk => froze τ tk fun t τ1 => k (setSlot τ1 i (some (.val t)))
theorem asg_ok {K : PySem.W.Frag} {O : Ms} {io : List Addr} {tmp : Option Addr} {α α0 : List (Option Addr)} {τ : DSt} {σ : L2.St} {H H0 : Hp} {i : Nat} {v : V} {tk : Tok} {E : DSt → Prop} {D : L2.St → Hp → Prop}
    (n : Now K O io tmp α τ σ H) (k : Kp O (Mu O α0 none) H0 (Mu O α tmp) H) (r : Res K O α tmp σ H v tk) (h : asgTo i E tk τ) (l : Lk K O io (Mu O α0 none) H0 E D) : D (σ.set i (some v)) H := by
  have other : ∀ (tk' : Tok), TokOk K (Mu O α none) σ H v tk' → Now K O io none α τ σ H → Kp O (Mu O α0 none) H0 (Mu O α none) H → froze τ tk' (fun t τ1 => E (setSlot τ1 i (some (.val t)))) → D (σ.set i (some v)) H := fun tk' r n k h => by
    obtain ⟨t, α', τ', n', a', q, h⟩ := froze_ok n r h
    exact l _ _ _ _ (n'.asg q) ((k.trans (.of_anti a')).trans (.of_anti Mu.dropped)) h
  cases tk with
  | v t => obtain ⟨e, r⟩ := r; subst e; exact other (.v t) r n k h
  | s j => obtain ⟨e, r⟩ := r; subst e; exact other (.s j) r n k h
  | fr ts =>
    obtain ⟨p, vs, rfl, rfl, e, hv⟩ := r
    exact l _ _ _ _ (n.asgNew e hv) (k.trans (.of_anti Mu.taken)) h
def dAsg (i : Nat) (te : DE) : DS := fun D τ => te τ fun tk τ1 => asgTo i D.nx tk τ1
section
variable {X : Cx} {pos : Pos}
theorem dasg_lift {i : Nat} {te : DE} {D : Ends} {σ : L2.St} {H : Hp} (h : liftS X.K (dAsg i te) D σ H) : tAsg (liftE X.K te) (gName i) D σ H := by
  obtain ⟨O, io, α, τ, E, n, h, l1, _, _, _⟩ := h
  exact ⟨O, io, α, τ, _, n, h, fun v tk tmp α' τ' H' n' k r c => asg_ok n' k r c l1⟩
theorem qs_set {i : Nat} {x : Str} {e : Expr} {te : DE} {pos' : Pos} (hN : X.N.Nodup) (hi : X.N[i]? = some x) (hx : Loc X.env.scope x) (he : QE X e te) (hs : swapsWith e (some (.Name x pos')) pos.line X.env = pure false := by rfl)
    (hf : X.fn x = true ∨ X.env.scope.names.lookup x = some .local := by first | exact .inl rfl | exact .inr rfl | assumption) : QS X (.Assign [.Name x pos'] e pos) (dAsg i te) :=
  PSmono (ps_set hN hi hx he hs hf) fun _ _ _ => dasg_lift
/-! x op= e -/
def dAug (i : Nat) (r : T → T → (Tok → Prop) → Prop) (te : DE) : DS := fun D τ => match slotAt τ i with
  | some (.val a) => te τ fun tk τ1 => use τ1 tk fun b => r a b fun z => asgTo i D.nx z τ1
  | _ => False
theorem aug_set {op : Operator} {r : T → T → (Tok → Prop) → Prop} (ho : OpD X (inplaceOp op) r) {i : Nat} {x : Str} {e : Expr} {te : DE} {pos' : Pos} (hN : X.N.Nodup) (hi : X.N[i]? = some x) (hx : Loc X.env.scope x) (he : QE X e te)
    (hf : X.fn x = true ∨ X.env.scope.names.lookup x = some .local := by first | exact .inl rfl | exact .inr rfl | assumption) : QS X (.AugAssign (.Name x pos') op e pos) (dAug i r te) :=
  PSmono (ps_aug hN hi hx he ho.opr hf) fun D σ H ⟨O, io, α, τ, E, n, h, l1, _, _, _⟩ => by
    unfold dAug at h
    split at h
    · next a ea =>
      obtain ⟨v, e2, q⟩ := n.slot i _ (slotAt_iff.mp ea)
      refine ⟨v, e2, one n h fun u tk α1 τ1 H1 n1 k1 r1 c => ?_⟩
      rw [← use_weak] at c
      obtain ⟨b, cb, c⟩ := use_ok n1 r1 c
      exact ⟨O, io, α1, τ1, σ, a, b, _, n1, .inl (q.keep k1.toKp0), cb, c, fun z H2 ⟨tk2, tmp, n2, k2, r2, c2⟩ => asg_ok n2 (k1.trans k2) r2 c2 l1⟩
    · exact h.elim
theorem ip_add : OpD X (inplaceOp .Add) (fun a b k => match a, b with | .int i, .int j => k (.v (.int (i + j))) | _, _ => False) := by
  intro pins s σ H x y v u O io α τ ρ a b k I n rx ry ha hb h
  cases a <;> cases b <;> first | exact h.elim | skip
  cases ha.int; cases hb.int
  exact iop_add pins s σ H _ _ v u _ I rx ry ⟨_, _, rfl, rfl, .val n (.int _) h⟩
theorem ip_sub : OpD X (inplaceOp .Sub) opSub := by
  intro pins s σ H x y v u O io α τ ρ a b k I n rx ry ha hb h
  cases a <;> cases b <;> first | exact h.elim | skip
  cases ha.int; cases hb.int
  exact iop_sub pins s σ H _ _ v u _ I rx ry ⟨_, _, rfl, rfl, .val n (.int _) h⟩
end

/-! ### an own list changes -/
/-- the list that slot i holds to be written, and how to put another there -/
def ownOf : Option Slot → Option (List T × (List T → Slot))
  | some (.own ts) => some (ts, .own)
  | some (.io k ts) => some (ts, .io k)
  | _ => none
section
variable {K : PySem.W.Frag} {O : Ms} {io : List Addr} {α : List (Option Addr)} {τ : DSt} {σ : L2.St} {H : Hp}
theorem own_at {i : Nat} {ts : List T} {mk : List T → Slot} (n : Now K O io none α τ σ H) (h : ownOf (slotAt τ i) = some (ts, mk)) :
    ∃ a vs, α[i]? = some (some a) ∧ σ[i]? = some (some (.ref a)) ∧ H a = some (.lst vs) ∧ VTs K (Mu O α none) H vs ts ∧ ∀ vs' ts', VTs K (Mu O α none) H vs' ts' →
      Now K O io none α (setSlot τ i (some (mk ts'))) σ (upd H a (.lst vs')) ∧ Kp O (Mu O α none) H (Mu O α none) (upd H a (.lst vs')) := by
  have main : ∀ (s : Slot) (a : Addr) (vs : List V), τ[i]? = some (some s) → α[i]? = some (some a) → σ[i]? = some (some (.ref a)) → H a = some (.lst vs) → VTs K (Mu O α none) H vs ts →
      (∀ vs' ts' H', H' a = some (.lst vs') → VTs K (Mu O α none) H' vs' ts' → SlotOk K (Mu O α none) io H' σ α i (mk ts')) →
      ∃ a vs, α[i]? = some (some a) ∧ σ[i]? = some (some (.ref a)) ∧ H a = some (.lst vs) ∧ VTs K (Mu O α none) H vs ts ∧ ∀ vs' ts', VTs K (Mu O α none) H vs' ts' →
      Now K O io none α (setSlot τ i (some (mk ts'))) σ (upd H a (.lst vs')) ∧ Kp O (Mu O α none) H (Mu O α none) (upd H a (.lst vs')) := fun s a vs es ea eσ eH hv mkOk => by
    refine ⟨a, vs, ea, eσ, eH, hv, fun vs' ts' hv' => ?_⟩
    have kp : Kp O (Mu O α none) H (Mu O α none) (upd H a (.lst vs')) := by
      refine ⟨⟨fun b xs e => ?_, fun b ob u e => ?_, fun b xs e m => ⟨?_, m⟩⟩, fun b hb => ?_⟩
      · rw [upd_ne (ne_of e eH (by intro z; cases z))]; exact e
      · rw [upd_ne (ne_of e eH (by intro z; cases z))]; exact e
      · rw [upd_ne (show b ≠ a from fun z => m (z ▸ .inr (.inl ⟨i, ea⟩)))]; exact e
      · rw [upd_ne (show b ≠ a from fun z => n.nO i a ea (z ▸ hb))]
    refine ⟨?_, kp⟩
    rw [setSlot_eq]
    refine ⟨by rw [List.length_set]; exact n.lenT, n.lenA, fun j sl e => ?_, n.nd, n.nO, n.tm, fun b hb => ?_⟩
    · by_cases hj : j = i
      · subst hj
        have hl : j < (τ.set j (some (mk ts'))).length := (List.getElem?_eq_some_iff.mp e).1
        rw [List.length_set] at hl
        rw [set_at hl] at e
        cases e
        exact mkOk vs' ts' _ upd_same (hv'.keep kp.toKp0)
      · rw [set_off hj] at e
        exact (n.slot j sl e).keep kp.toKp0 fun b ws e1 e2 => by rw [upd_ne (show b ≠ a from fun z => hj (n.nd j i a (z ▸ e1) ea))]; exact e2
    · by_cases h : b = a
      · subst h; exact ⟨vs', upd_same⟩
      · obtain ⟨xs, e⟩ := n.tr b hb
        exact ⟨xs, by rw [upd_ne h]; exact e⟩
  cases hs : slotAt τ i with
  | none => rw [hs] at h; cases h
  | some s =>
    rw [hs] at h
    have es := slotAt_iff.mp hs
    cases s with
    | val t => cases h
    | own us =>
      cases h
      obtain ⟨a, vs, e1, e2, e3, q⟩ := n.slot i _ es
      exact main _ a vs es e1 e2 e3 q fun vs' ts' H' e hv => ⟨a, vs', e1, e2, e, hv⟩
    | io m us =>
      cases h
      obtain ⟨a, vs, e0, e1, e2, e3, q⟩ := n.slot i _ es
      exact main _ a vs es e1 e2 e3 q fun vs' ts' H' e hv => ⟨a, vs', e0, e1, e2, e, hv⟩
end
/-! x.append(e) -/
def dAppend (i : Nat) (te : DE) : DS := fun D τ => (ownOf (slotAt τ i)).isSome = true ∧ te τ fun tk τ1 => froze τ1 tk fun t τ2 => match ownOf (slotAt τ2 i) with
  | some (ts, mk) => ts.length < sizeLine ∧ D.nx (setSlot τ2 i (some (mk (ts ++ [t]))))
  | none => False
/-! x[j] = e -/
def setAt (ts : List T) (i : Int) (t : T) : Option (List T) := match i with
  | .ofNat n => if n < ts.length then some (ts.set n t) else none
  | .negSucc n => if n < ts.length then some (ts.set (ts.length - 1 - n) t) else none
theorem setAt_ix {ts us : List T} {i : Int} {t : T} (h : setAt ts i t = some us) : ∃ m, ixN ts.length i = some m ∧ us = ts.set m t := by
  unfold setAt at h
  cases i with
  | ofNat n =>
    dsimp only at h
    split at h
    · next hn =>
      refine ⟨n, ?_, (Option.some.inj h).symm⟩
      show ixN ts.length (n : Int) = some n
      unfold ixN
      rw [if_pos (Int.natCast_nonneg n), if_pos (show (n : Int) < ((ts.length : Nat) : Int) by omega)]
      rfl
    · cases h
  | negSucc n =>
    dsimp only at h
    split at h
    · next hn =>
      refine ⟨ts.length - 1 - n, ?_, (Option.some.inj h).symm⟩
      unfold ixN
      rw [if_neg (show ¬ 0 ≤ Int.negSucc n by omega), if_pos (show -((ts.length : Nat) : Int) ≤ Int.negSucc n by omega)]
      congr 1
      omega
    · cases h
def dSetIx (i : Nat) (tj te : DE) : DS := fun D τ => te τ fun tk τ1 => (ownOf (slotAt τ1 i)).isSome = true ∧ tj τ1 fun jk τ2 => froze τ2 tk fun t τ3 => use τ3 jk fun j => match j, ownOf (slotAt τ3 i) with
  | .int z, some (ts, mk) => ifSome (setAt ts z t) fun us => D.nx (setSlot τ3 i (some (mk us)))
  | _, _ => False
section
variable {X : Cx} {pos : Pos}
theorem own_is {K : PySem.W.Frag} {O : Ms} {io : List Addr} {α : List (Option Addr)} {τ : DSt} {σ : L2.St} {H : Hp} {i : Nat} (n : Now K O io none α τ σ H) (h : (ownOf (slotAt τ i)).isSome = true) : ∃ a vs, σ[i]? = some (some (.ref a)) ∧ H a = some (.lst vs) := by
  obtain ⟨⟨ts, mk⟩, e⟩ := Option.isSome_iff_exists.mp h
  obtain ⟨a, vs, _, e2, e3, _⟩ := own_at n e
  exact ⟨a, vs, e2, e3⟩
theorem qs_append {i : Nat} {x e : Expr} {te : DE} {apos cpos : Pos} (hx : PE X x (tVar i)) (he : QE X e te)
    (hbase : attributeBase x "append" X.env (eval x X.env) = eval x X.env := by rfl)
    (hfew : ((backTo cpos (starEach [e] X.env)).all (fun x => !x.1) && (backToKw cpos (keywordEach [] X.env)).all (fun x => x.1.isSome)
      && decide ([e].length + ([] : List Keyword).length + (if ([] : List Keyword).isEmpty then 0 else 1) < 30)) = true := by rfl)
    (hline : (apos.endLine == cpos.line) = true := by rfl) (hplain : (backTo cpos (starEach [] X.env)).any (·.1) = false := by rfl)
    (hs : swapsWith (.Call (.Attribute x "append" apos) [e] [] cpos) none pos.line X.env = pure false := by rfl) (hse : starEach [e] X.env = (false, eval e X.env) :: starEach [] X.env := by rfl) :
    QS X (.Expr (.Call (.Attribute x "append" apos) [e] [] cpos) pos) (dAppend i te) :=
  PSmono (ps_expr (pe_bm PySem.F.plainAttrs_list PySem.F.slot_list_append PySem.F.type_list_append mt_append hx (pa_cons he pa_nil hse) hbase hfew hline hse hplain) hs) fun D σ H ⟨O, io, α, τ, E, n, h, l1, _, _, _⟩ => by
    obtain ⟨h0, h⟩ := h
    obtain ⟨a, vs, e1, e2⟩ := own_is n h0
    refine ⟨.ref a, e1, .inl ⟨rfl, vs, SqL.of e2⟩, one n h fun v tk α1 τ1 H1 n1 k1 r1 c => ?_⟩
    rw [← froze_weak] at c
    obtain ⟨t, α2, τ2, n2, a2, q, c⟩ := froze_ok n1 r1 c
    split at c
    · next ts mk em =>
      obtain ⟨b, ws, _, e3, e4, hv, step⟩ := own_at n2 em
      rw [e1] at e3
      cases e3
      obtain ⟨n3, k3⟩ := step (ws ++ [v]) (ts ++ [t]) (hv.append (.cons q .nil))
      exact ⟨a, ws, v, rfl, rfl, e4, by rw [hv.length]; exact c.1, l1 α2 _ σ _ n3 ((k1.trans (.of_anti a2)).trans k3) c.2⟩
    · exact c.elim
theorem qs_setix {i : Nat} {x j e : Expr} {tj te : DE} {pos' : Pos} (hx : PE X x (tVar i)) (hj : QE X j tj) (he : QE X e te)
    (ha : ∀ v, assign (.Subscript x j pos') X.env v = (do
      let ov ← holding [v] (eval x X.env)
      let iv ← holding [v, ov] (eval j X.env)
      standAt pos'
      holding [v, ov, iv] (setItem ov iv v)
      release [v, ov, iv] []) := by intro _; rfl)
    (hs : swapsWithSole [.Subscript x j pos'] e pos.line X.env = pure false := by rfl) (hw : swappedStores [.Subscript x j pos'] e X.env = pure none := by rfl)
    (h1 : (assignEach [.Subscript x j pos'] X.env).map (·.2) = [assign (.Subscript x j pos') X.env] := by rfl) : QS X (.Assign [.Subscript x j pos'] e pos) (dSetIx i tj te) :=
  PSmono (ps_asg he (pg_sub hx hj set_list ha) hs hw h1) fun D σ H ⟨O, io, α, τ, E, n, h, l1, _, _, _⟩ => one n h fun v tk α1 τ1 H1 n1 k1 r1 ⟨h0, c⟩ => by
    obtain ⟨a, vs, e1, e2⟩ := own_is n1 h0
    refine ⟨.ref a, e1, one n1 c fun u jk α2 τ2 H2 n2 k2 r2 c => ?_⟩
    rw [← froze_weak] at c
    obtain ⟨t, α3, τ3, n3, a3, q, c⟩ := froze_ok n2 (r1.keep k2.toKp0) c
    rw [← use_weak] at c
    obtain ⟨b, cb, c⟩ := use_ok n3 (r2.keep (.of_anti a3)) c
    split at c
    · next z ts mk em =>
      cases cb.int
      obtain ⟨b, ws, _, e3, e4, hv, step⟩ := own_at n3 em
      rw [e1] at e3
      cases e3
      obtain ⟨us, eu, c⟩ := ifSome_ok c
      obtain ⟨m, ei, rfl⟩ := setAt_ix eu
      obtain ⟨n4, k4⟩ := step (ws.set m v) (ts.set m t) (hv.set m q)
      exact ⟨a, ws, z, m, rfl, rfl, e4, by rw [hv.length]; exact ei, l1 α3 _ σ _ n4 (((k1.trans k2).trans (.of_anti a3)).trans k4) c⟩
    · exact c.elim
end
end N1
namespace N1
open PySem PySem.Spec PyProof.Rows L2

/-! ### targets -/
abbrev DG := T → DSt → (DSt → Prop) → Prop
abbrev DGs := List T → DSt → (DSt → Prop) → Prop
/-- (only the names vs are touched) -/
def liftG (K : PySem.W.Frag) (vs : List Nat) (g : DG) : TG := fun v σ H Q => ∃ (O : Ms) (io : List Addr) (α : List (Option Addr)) (τ : DSt) (t : T) (R : DSt → Prop), Now K O io none α τ σ H ∧ VT K (Mu O α none) H v t ∧ g t τ R ∧
  ∀ α' τ' σ' H', Now K O io none α' τ' σ' H' → Kp O (Mu O α none) H (Mu O α' none) H' → L2.wipe σ' vs = L2.wipe σ vs → R τ' → Q σ' H'
def liftGs (K : PySem.W.Frag) (vs : List Nat) (g : DGs) : TGs := fun ws σ H Q => ∃ (O : Ms) (io : List Addr) (α : List (Option Addr)) (τ : DSt) (ts : List T) (R : DSt → Prop), Now K O io none α τ σ H ∧ VTs K (Mu O α none) H ws ts ∧ g ts τ R ∧
  ∀ α' τ' σ' H', Now K O io none α' τ' σ' H' → Kp O (Mu O α none) H (Mu O α' none) H' → L2.wipe σ' vs = L2.wipe σ vs → R τ' → Q σ' H'
def dgName (i : Nat) : DG := fun t τ Q => Q (setSlot τ i (some (.val t)))
def dgNil : DGs := fun _ τ Q => Q τ
def dgCons (g : DG) (r : DGs) : DGs := fun ts τ Q => match ts with
  | t :: us => g t τ fun τ1 => r us τ1 Q
  | [] => False
def dgTup (m : Nat) (g : DGs) : DG := fun t τ Q => match t with
  | .tup ts => ts.length = m ∧ g ts τ Q
  | _ => False
theorem wipe_off {σ : L2.St} {j : Nat} : ∀ {vs : List Nat}, j ∉ vs → (L2.wipe σ vs)[j]? = σ[j]?
  | [], _ => rfl
  | v :: vs, h => by
    show ((L2.wipe σ vs).set v none)[j]? = _
    rw [set_off (show j ≠ v from fun z => h (z ▸ List.mem_cons_self)), wipe_off fun z => h (List.mem_cons_of_mem _ z)]
theorem gName_keeps {i : Nat} {vs : List Nat} (h : i ∈ vs) : ∀ (σ : L2.St) (v : V), L2.wipe (σ.set i (some v)) vs = L2.wipe σ vs := by
  induction vs with
  | nil => simp at h
  | cons w vs ih =>
    intro σ v
    show (L2.wipe (σ.set i (some v)) vs).set w none = (L2.wipe σ vs).set w none
    by_cases hi : i ∈ vs
    · rw [ih hi]
    · have e : i = w := (List.mem_cons.mp h).resolve_right hi
      subst e
      refine List.ext_getElem? fun j => ?_
      by_cases hj : j = i
      · subst hj
        by_cases hl : j < σ.length
        · rw [set_at (by rw [wipe_length, List.length_set]; exact hl), set_at (by rw [wipe_length]; exact hl)]
        · rw [List.getElem?_eq_none (by rw [List.length_set, wipe_length, List.length_set]; omega), List.getElem?_eq_none (by rw [List.length_set, wipe_length]; omega)]
      · rw [set_off hj, set_off hj]
        by_cases hv : j ∈ vs
        · have : ∀ (σ : L2.St) (vs : List Nat), j ∈ vs → (L2.wipe σ vs)[j]? = if j < σ.length then some none else none := by
            intro σ vs
            induction vs with
            | nil => intro h; simp at h
            | cons u vs ih2 =>
              intro h
              show ((L2.wipe σ vs).set u none)[j]? = _
              by_cases hu : j = u
              · subst hu
                by_cases hl : j < σ.length
                · rw [set_at (by rw [wipe_length]; exact hl), if_pos hl]
                · rw [List.getElem?_eq_none (by rw [List.length_set, wipe_length]; omega), if_neg hl]
              · rw [set_off hu, ih2 ((List.mem_cons.mp h).resolve_left hu)]
          rw [this _ _ hv, this _ _ hv, List.length_set]
        · rw [wipe_off hv, wipe_off hv, set_off hj]
abbrev QG (X : Cx) (vs : List Nat) (tg : Expr) (g : DG) : Prop := PG X tg (liftG X.K vs g)
abbrev QGs (X : Cx) (vs : List Nat) (tgs : List Expr) (n : Nat) (g : DGs) : Prop := PGs X tgs (fun ws σ H Q => ws.length = n ∧ liftGs X.K vs g ws σ H Q)
section
variable {X : Cx} {pos : Pos} {is : List Nat}
theorem PGmono {tg : Expr} {t t' : TG} (h : PG X tg t) (m : ∀ v σ H Q, t' v σ H Q → t v σ H Q) : PG X tg t' := ⟨fun pins s σ H v u Q I r q => h.run pins s σ H v u Q I r (m v σ H Q q)⟩
theorem PGsmono {tg : List Expr} {t t' : TGs} (h : PGs X tg t) (m : ∀ v σ H Q, t' v σ H Q → t v σ H Q) : PGs X tg t' := ⟨fun pins s σ H v u Q I r q => h.run pins s σ H v u Q I r (m v σ H Q q)⟩
theorem qg_name {i : Nat} {x : Expr} (h : PG X x (gName i)) (hi : i ∈ is := by decide) : QG X is x (dgName i) := PGmono h fun v σ H Q ⟨O, io, α, τ, t, R, n, hv, h, l⟩ => l _ _ _ _ (n.asg hv) (.of_anti Mu.dropped) (gName_keeps hi σ v) h
theorem qgs_nil : QGs X is [] 0 dgNil := PGsmono pgs_nil fun vs σ H Q ⟨hl, O, io, α, τ, ts, R, n, hv, h, l⟩ => ⟨List.length_eq_zero_iff.mp hl, l _ _ _ _ n .refl rfl h⟩
theorem qgs_cons {e : Expr} {es : List Expr} {g : DG} {gs : DGs} {m : Nat} (h1 : QG X is e g) (h2 : QGs X is es m gs) (hs : (assignEach (e :: es) X.env).map (·.2) = assign e X.env :: (assignEach es X.env).map (·.2) := by rfl) : QGs X is (e :: es) (m + 1) (dgCons g gs) :=
  PGsmono (pgs_cons h1 h2 hs) fun vs σ H Q ⟨hl, O, io, α, τ, ts, R, n, hv, h, l⟩ => by
    cases hv with
    | nil => exact h.elim
    | cons hv hvs => exact ⟨_, _, rfl, O, io, α, τ, _, _, n, hv, h, fun α1 τ1 σ1 H1 n1 k1 w1 q => ⟨Nat.succ.inj hl, O, io, α1, τ1, _, R, n1, hvs.keep k1.toKp0, q, fun α2 τ2 σ2 H2 n2 k2 w2 q2 => l α2 τ2 σ2 H2 n2 (k1.trans k2) (w2.trans w1) q2⟩⟩
theorem qg_tup {es : List Expr} {k m : Nat} {g : DGs} (hc : X.calm = true) (h : QGs X is es m g) (hn : (assignEach es X.env).length = m := by rfl) (hst : (assignEach es X.env).findIdx? (·.1) = none := by rfl) : QG X is (.Tuple es k pos) (dgTup m g) :=
  PGmono (pg_tup hc h hn hst) fun v σ H Q ⟨O, io, α, τ, t, R, n, hv, h, l⟩ => by
    cases hv with
    | tup e hvs => exact ⟨_, _, rfl, e, by rw [hvs.length]; exact h.1, by rw [hvs.length]; exact h.1, O, io, α, τ, _, R, n, hvs, h.2, l⟩
    | _ => exact h.elim
/-! a, b = e -/
def dAsgG (te : DE) (g : DG) : DS := fun D τ => te τ fun tk τ1 => froze τ1 tk fun t τ2 => g t τ2 D.nx
theorem qs_asgG {tg e : Expr} {te : DE} {g : DG} (he : QE X e te) (hg : QG X is tg g) (hs : swapsWithSole [tg] e pos.line X.env = pure false := by rfl) (hw : swappedStores [tg] e X.env = pure none := by rfl)
    (h1 : (assignEach [tg] X.env).map (·.2) = [assign tg X.env] := by rfl) : QS X (.Assign [tg] e pos) (dAsgG te g) :=
  PSmono (ps_asg he hg hs hw h1) fun D σ H ⟨O, io, α, τ, E, n, h, l1, _, _, _⟩ => one n h fun v tk α1 τ1 H1 n1 k1 r1 c => by
    rw [← froze_weak] at c
    obtain ⟨t, α2, τ2, n2, a2, q, c⟩ := froze_ok n1 r1 c
    exact ⟨O, io, α2, τ2, t, _, n2, q, c, fun α3 τ3 σ3 H3 n3 k3 _ q3 => l1 α3 τ3 σ3 H3 n3 ((k1.trans (.of_anti a2)).trans k3) q3⟩
end

/-! ### what a loop walks -/
/-- J yields the plain values ts, as long as what stood at M0, H0 is kept -/
structure Feed (K : PySem.W.Frag) (M0 : Ms) (H0 : Hp) (J : It) (ts : List T) : Prop where
  go : ∀ i M H, Kp0 M0 H0 M H → i < ts.length → J.go i H
  yld : ∀ i M H, Kp0 M0 H0 M H → i < ts.length → ∀ v H', J.yld i H v H' → (H' = H ∨ ∃ p xs, H p = none ∧ H' = upd H p (.tup xs)) ∧ ∃ t, ts[i]? = some t ∧ ((∀ a xs, H a = some xs → H' a = some xs) → VT K M H' v t)
  stop : ∀ i M H, Kp0 M0 H0 M H → ts.length ≤ i → J.stop i H
abbrev DI := DSt → (List T → DSt → Prop) → Prop
def liftI (K : PySem.W.Frag) (d : DI) : TI := fun σ H R => ∃ (O : Ms) (io : List Addr) (α : List (Option Addr)) (τ : DSt) (C : List T → DSt → Prop), Now K O io none α τ σ H ∧ d τ C ∧
  ∀ J ts α' τ' H', Now K O io none α' τ' σ H' → Kp O (Mu O α none) H (Mu O α' none) H' → Feed K (Mu O α' none) H' J ts → ts.length ≤ sizeLine → C ts τ' → R J H'
abbrev QI (X : Cx) (tg iter : Expr) (d : DI) : Prop := PI X tg iter (liftI X.K d)
theorem PImono {X : Cx} {tg e : Expr} {t t' : TI} (h : PI X tg e t) (m : ∀ σ H Q, t' σ H Q → t σ H Q) : PI X tg e t' := ⟨fun pins s σ H Q I q => h.run pins s σ H Q I (m σ H Q q)⟩
theorem Kp0.new {M : Ms} {H : Hp} {p : Addr} {o : HO} (hp : H p = none) (hm : ∀ a, M a → ∃ xs, H a = some (.lst xs)) : Kp0 M H M (upd H p o) :=
  ⟨fun a xs e => by rw [upd_ne (ne_of_none e hp)]; exact e, fun a ob u e => by rw [upd_ne (ne_of_none e hp)]; exact e, fun a xs e m => ⟨by rw [upd_ne (ne_of_none e hp)]; exact e, m⟩⟩
section
variable {K : PySem.W.Frag} {M : Ms} {H : Hp} {a : Addr} {vs : List V} {ts : List T}
theorem feed_seq {J : It} (hs : VTs K M H vs ts) (h1 : ∀ i H' v, vs[i]? = some v → (∀ M', Kp0 M H M' H' → J.go i H')) (h2 : ∀ i H' v H2, (∃ M', Kp0 M H M' H') → J.yld i H' v H2 → H2 = H' ∧ vs[i]? = some v) (h3 : ∀ i H', (∃ M', Kp0 M H M' H') → vs.length ≤ i → J.stop i H') : Feed K M H J ts :=
  ⟨fun i M' H' k hi => by
    obtain ⟨v, e, _⟩ := hs.get (List.getElem?_eq_getElem hi)
    exact h1 i H' v e M' k, fun i M' H' k hi v H2 y => by
    obtain ⟨e, ev⟩ := h2 i H' v H2 ⟨M', k⟩ y
    obtain ⟨t, et, ht⟩ := hs.getV ev
    subst e
    exact ⟨.inl rfl, t, et, fun _ => ht.keep k⟩, fun i M' H' k hi => h3 i H' ⟨M', k⟩ (by rw [hs.length]; exact hi)⟩
theorem feed_list (h : RdL M H a vs) (hs : VTs K M H vs ts) : Feed K M H (Itl K a) ts :=
  feed_seq hs (fun i H' v e M' k => ⟨vs, v, (h.keep k).seq, e⟩) (fun i H' v H2 ⟨M', k⟩ y => ⟨y.1, y.2 vs (h.keep k).seq⟩) fun i H' ⟨M', k⟩ hi => ⟨vs, (h.keep k).seq, hi⟩
theorem feed_lsk (h : RdK K H a vs) (hs : VTs K M H vs ts) : Feed K M H (Itl K a) ts :=
  feed_seq hs (fun i H' v e M' k => ⟨vs, v, (h.keep k).seq, e⟩) (fun i H' v H2 ⟨M', k⟩ y => ⟨y.1, y.2 vs (h.keep k).seq⟩) fun i H' ⟨M', k⟩ hi => ⟨vs, (h.keep k).seq, hi⟩
theorem feed_tup (h : SqT K H a vs) (hs : VTs K M H vs ts) : Feed K M H (Itt K a) ts :=
  feed_seq hs (fun i H' v e M' k => ⟨vs, v, KpT.seq k h, e⟩) (fun i H' v H2 ⟨M', k⟩ y => ⟨y.1, y.2 vs (KpT.seq k h)⟩) fun i H' ⟨M', k⟩ hi => ⟨vs, KpT.seq k h, hi⟩
end
def signs (x : Str) : List T := x.cps.toList.map fun c => .str ⟨#[c]⟩
theorem feed_str {K : PySem.W.Frag} {M : Ms} {H : Hp} {x : Str} (ho : PyData.strOk x = true) : Feed K M H (Its x) (signs x) := by
  have hl : (signs x).length = x.cps.size := by simp [signs]
  refine ⟨fun i M' H' k hi => by rw [hl] at hi; exact hi, fun i M' H' k hi v H2 ⟨e, c, ec, ev⟩ => ?_, fun i M' H' k hi => by rw [hl] at hi; exact hi⟩
  subst e; subst ev
  have ec' : x.cps.toList[i]? = some c := by simpa using ec
  refine ⟨.inl rfl, .str ⟨#[c]⟩, by unfold signs; rw [List.getElem?_map, ec']; rfl, fun _ => .str _ ?_⟩
  unfold PyData.strOk at ho ⊢
  rw [Array.all_eq_true'] at ho
  simpa using ho c (Array.mem_of_getElem? ec)
def intsFrom (lo : Int) : Nat → List T
  | 0 => []
  | n + 1 => .int lo :: intsFrom (lo + 1) n
theorem intsFrom_len (lo : Int) (n : Nat) : (intsFrom lo n).length = n := by
  induction n generalizing lo with
  | zero => rfl
  | succ n ih => rw [intsFrom, List.length_cons, ih]
theorem intsFrom_get : ∀ (n : Nat) (lo : Int) (i : Nat), i < n → (intsFrom lo n)[i]? = some (.int (lo + i))
  | 0, _, i, h => absurd h (Nat.not_lt_zero i)
  | n + 1, lo, 0, _ => by rw [intsFrom]; simp
  | n + 1, lo, i + 1, h => by
    rw [intsFrom, List.getElem?_cons_succ, intsFrom_get n (lo + 1) i (by omega)]
    congr 2
    omega
theorem feed_range {K : PySem.W.Frag} {M : Ms} {H : Hp} {lo : Int} {n : Nat} : Feed K M H (Itr lo n) (intsFrom lo n) := by
  refine ⟨fun i M' H' k hi => by rw [intsFrom_len] at hi; exact hi, fun i M' H' k hi v H2 ⟨e, ev⟩ => ?_, fun i M' H' k hi => by rw [intsFrom_len] at hi; exact hi⟩
  rw [intsFrom_len] at hi
  subst e; subst ev
  exact ⟨.inl rfl, _, intsFrom_get n lo i hi, fun _ => .int _⟩
/-! a list, a tuple or a text, as it comes -/
def iAny (K : PySem.W.Frag) (tl : TE) : TI := fun σ H R => tl σ H fun x H1 => (∃ a xs, x = .ref a ∧ SqL K H1 a xs ∧ (xs.length ≤ sizeLine → R (Itl K a) H1)) ∨ (∃ a xs, x = .ref a ∧ SqT K H1 a xs ∧ (xs.length ≤ sizeLine → R (Itt K a) H1)) ∨ ∃ z, x = .str z ∧ R (Its z) H1
theorem pi_any {X : Cx} {tg e : Expr} {tl : TE} (he : PE X e tl) : PI X tg e (iAny X.K tl) := by
  refine ⟨fun pins s σ H R I h => thn (he.run pins s σ H _ I h) fun v s1 ⟨x, H1, I1, r1, q1⟩ => ?_⟩
  rcases q1 with ⟨a, xs, rfl, hq, q⟩ | ⟨a, xs, rfl, hq, q⟩ | ⟨z, rfl, q⟩
  · cases r1
    obtain ⟨its, rv, pl, hz⟩ := I1.list hq
    exact wpAny_pyIter_list pl.isList (pi_one (tk := s1.toks) I1 _ (turn_list a _) ⟨_, Heap.get?_push_size _ rfl, rfl, rfl⟩ (q hz))
  · cases r1
    obtain ⟨its, rv, pl, hz⟩ := I1.tuple hq
    exact wpAny_pyIter_tuple pl (pi_one (tk := s1.toks) I1 _ (turn_tuple a _) ⟨_, Heap.get?_push_size _ rfl, rfl, rfl⟩ (q hz))
  · obtain ⟨t, rfl⟩ := r1
    cases ha : z.cps.all (· < 128) with
    | false => exact wpAny_pyIter_wide ha (pi_one (tk := s1.toks) I1 _ (turn_str _ z t "str_iterator" (.inr rfl)) ⟨_, Heap.get?_push_size _ rfl, rfl, rfl⟩ q)
    | true => exact wpAny_pyIter_ascii ha (pi_one (tk := s1.toks) I1 _ (turn_str _ z t "str_ascii_iterator" (.inl rfl)) ⟨_, Heap.get?_push_size _ rfl, rfl, rfl⟩ q)
def diAny (te : DE) : DI := fun τ R => te τ fun tk τ1 => froze τ1 tk fun t τ2 => match t with
  | .tup ts => R ts τ2
  | .lst ts => R ts τ2
  | .lsk ts => R ts τ2
  | .str x => x.length ≤ sizeLine ∧ R (signs x) τ2
  | _ => False
theorem qi_any {X : Cx} {tg e : Expr} {te : DE} (he : QE X e te) : QI X tg e (diAny te) := PImono (pi_any he) fun σ H R ⟨O, io, α, τ, C, n, h, fin⟩ => one n h fun v tk α1 τ1 H1 n1 k1 r1 c => by
  rw [← froze_weak] at c
  obtain ⟨t, α2, τ2, n2, a2, q, c⟩ := froze_ok n1 r1 c
  have k2 := k1.trans (Kp.of_anti (O := O) (H := H1) a2)
  cases q with
  | tup e hs => exact .inr (.inl ⟨_, _, rfl, e, fun z => fin _ _ α2 τ2 H1 n2 k2 (feed_tup e hs) (by rw [← hs.length]; exact z) c⟩)
  | lst e hs => exact .inl ⟨_, _, rfl, e.seq, fun z => fin _ _ α2 τ2 H1 n2 k2 (feed_list e hs) (by rw [← hs.length]; exact z) c⟩
  | lsk e hs => exact .inl ⟨_, _, rfl, e.seq, fun z => fin _ _ α2 τ2 H1 n2 k2 (feed_lsk e hs) (by rw [← hs.length]; exact z) c⟩
  | str x ho => exact .inr (.inr ⟨_, rfl, fin _ _ α2 τ2 H1 n2 k2 (feed_str ho) (by simp only [signs, List.length_map, Array.length_toList]; exact c.1) c.2⟩)
  | _ => exact c.elim
/-! ranges -/
def diRange1 (te : DE) : DI := fun τ R => te τ fun tk τ1 => use τ1 tk fun t => match t with
  | .int j => (-16777216 ≤ j ∧ j ≤ 16777216) ∧ R (intsFrom 0 j.toNat) τ1
  | _ => False
def diRange2 (ta tb : DE) : DI := fun τ R => ta τ fun x τ1 => tb τ1 fun y τ2 => use τ2 x fun a => use τ2 y fun b => match a, b with
  | .int i, .int j => (-(2 ^ 62) ≤ i ∧ j - i ≤ 16777216 ∧ j < 2 ^ 62 ∧ i < 2 ^ 62 ∧ -(2 ^ 62) ≤ j) ∧ R (intsFrom i (j - i).toNat) τ2
  | _, _ => False
theorem sl_eq : (sizeLine : Nat) = 16777216 := sizeLine_eq
theorem qi_range1 {X : Cx} {tg a : Expr} {ta : DE} {p pos : Pos} (hg : Gl X "range") (hm : X.mg "range" = none) (ha : QE X a ta) (hs : starEach [a] X.env = [(false, eval a X.env)] := by rfl) : QI X tg (.Call (.Name "range" p) [a] [] pos) (diRange1 ta) :=
  PImono (pi_range1 hg hm (pa_cons ha pa_nil hs) hs) fun σ H R ⟨O, io, α, τ, C, n, h, fin⟩ => one n h fun v tk α1 τ1 H1 n1 k1 r1 c => by
    rw [← use_weak] at c
    obtain ⟨t, ct, c⟩ := use_ok n1 r1 c
    cases t with
    | int j =>
      cases ct.int
      obtain ⟨⟨c0, c1⟩, c⟩ := c
      have hsl := sl_eq
      exact ⟨j, rfl, by omega, by omega, fin _ _ α1 τ1 H1 n1 k1 feed_range (by rw [intsFrom_len]; omega) c⟩
    | _ => exact c.elim
theorem qi_range2 {X : Cx} {tg a b : Expr} {ta tb : DE} {p pos : Pos} (hg : Gl X "range") (hm : X.mg "range" = none) (ha : QE X a ta) (hb : QE X b tb) (hs : starEach [a, b] X.env = [(false, eval a X.env), (false, eval b X.env)] := by rfl) (hs2 : starEach [b] X.env = [(false, eval b X.env)] := by rfl) :
    QI X tg (.Call (.Name "range" p) [a, b] [] pos) (diRange2 ta tb) :=
  PImono (pi_range2 hg hm (pa_cons ha (pa_cons hb pa_nil hs2) (by rw [hs, hs2])) hs hs2) fun σ H R ⟨O, io, α, τ, C, n, h, fin⟩ => two n h fun v u x y α1 τ1 H1 n1 k1 r1 r2 c => by
    rw [← use_weak] at c
    obtain ⟨a, ca, c⟩ := use_ok n1 r1 c
    rw [← use_weak] at c
    obtain ⟨b, cb, c⟩ := use_ok n1 r2 c
    cases a <;> cases b <;> first | exact c.elim | skip
    cases ca.int; cases cb.int
    obtain ⟨⟨c0, c1, c2, c3, c4⟩, c⟩ := c
    have hsl := sl_eq
    exact ⟨_, _, rfl, ⟨c0, c3, c4, c2⟩, fin _ _ α1 τ1 H1 n1 k1 feed_range (by rw [intsFrom_len]; omega) c⟩

/-! ### for -/
def forL (g : DG) (tb : DS) (D : DEnds) : List T → DSt → Prop
  | [], τ => D.nx τ
  | t :: r, τ => g t τ fun τ1 => tb { D with nx := forL g tb D r, ct := forL g tb D r, bk := D.nx } τ1
def dFor (d : DI) (g : DG) (tb : DS) : DS := fun D τ => d τ fun ts τ1 => forL g tb D ts τ1
theorem Feed.step {K : PySem.W.Frag} {O : Ms} {io : List Addr} {α : List (Option Addr)} {τ : DSt} {σ : L2.St} {M0 : Ms} {H0 H H' : Hp} {J : It} {ts : List T} {i : Nat} {v : V} (F : Feed K M0 H0 J ts) (n : Now K O io none α τ σ H) (k : Kp O M0 H0 (Mu O α none) H) (hi : i < ts.length) (y : J.yld i H v H') :
    Now K O io none α τ σ H' ∧ Kp O (Mu O α none) H (Mu O α none) H' ∧ VT K (Mu O α none) H' v ts[i] := by
  obtain ⟨hh, t, et, hv⟩ := F.yld i _ _ k.toKp0 hi v H' y
  rw [List.getElem?_eq_getElem hi] at et
  cases et
  rcases hh with rfl | ⟨p, xs, hp, rfl⟩
  · exact ⟨n, .refl, hv fun _ _ z => z⟩
  · have kp := kp_new n hp (.tup xs) (.inl rfl)
    exact ⟨now_new n hp _ (.inl rfl), kp, hv fun a xs e => by rw [upd_ne (ne_of_none e hp)]; exact e⟩
section
variable {X : Cx} {pos : Pos}
theorem qs_for {tg iter : Expr} {body : List Stmt} {d : DI} {g : DG} {tb : DS} {is : List Nat} (hp : PassesOwn (model X.prog X.w) X.A X.env X.xe) (hc : X.calm = true) (hi : QI X tg iter d) (hg : QG X is tg g) (hb : QSs X body tb)
    (hs : ∀ x, foldedSetIterable iter X.env x = pure x := by intro _; rfl) : QS X (.For tg iter body [] pos) (dFor d g tb) :=
  PSmono (ps_for hp hc hi hg hb hs) fun D σ H ⟨O, io, α, τ, E, n, h, l1, l2, l3, l4⟩ => ⟨O, io, α, τ, _, n, h, fun J ts α1 τ1 H1 n1 k1 F hz c =>
    ⟨fun i m σ H => (i ≤ ts.length ∧ m = ts.length - i) ∧ ∃ α τ, Now X.K O io none α τ σ H ∧ Kp O (Mu O α1 none) H1 (Mu O α none) H ∧ forL g tb E (ts.drop i) τ,
      ⟨ts.length, ⟨Nat.zero_le _, rfl⟩, α1, τ1, n1, .refl, c⟩, fun i m σ H ⟨⟨hi, hm⟩, α2, τ2, n2, k2, c2⟩ => by
      by_cases hlt : i < ts.length
      · rw [List.drop_eq_getElem_cons hlt] at c2
        refine .inr ⟨F.go i _ _ k2.toKp0 hlt, fun σ' H' => ∃ α τ, Now X.K O io none α τ σ' H' ∧ Kp O (Mu O α1 none) H1 (Mu O α none) H' ∧ forL g tb E (ts.drop (i + 1)) τ,
          fun σ' H' ⟨α3, τ3, n3, k3, c3⟩ => ⟨ts.length - (i + 1), by omega, ⟨hlt, rfl⟩, α3, τ3, n3, k3, c3⟩, fun x H' y => ?_⟩
        obtain ⟨n3, k3, hv⟩ := F.step n2 k2 hlt y
        refine ⟨O, io, α2, τ2, ts[i], _, n3, hv, c2, fun α4 τ4 σ4 H4 n4 k4 _ q => ?_⟩
        have k5 := (k2.trans k3).trans k4
        exact ⟨O, io, α4, τ4, _, n4, q, fun α6 τ6 σ6 H6 n6 k6 q6 => ⟨α6, τ6, n6, k5.trans k6, q6⟩, l2.after (k1.trans k5), l1.after (k1.trans k5), fun α6 τ6 σ6 H6 n6 k6 q6 => ⟨α6, τ6, n6, k5.trans k6, q6⟩⟩
      · have e : i = ts.length := by omega
        subst e
        rw [List.drop_length] at c2
        exact .inl ⟨F.stop _ _ _ k2.toKp0 (Nat.le_refl _), l1 α2 τ2 σ H n2 (k1.trans k2) c2⟩⟩⟩

/-! ### while: by an invariant and a measure -/
def dWhile (c : DT) (tb : DS) : DS := fun D τ => ∃ W : Nat → DSt → Prop, (∃ m, W m τ) ∧ ∀ m τ, W m τ →
  c τ fun b τ1 => if b = true then tb { D with nx := fun τ2 => ∃ m', m' < m ∧ W m' τ2, ct := fun τ2 => ∃ m', m' < m ∧ W m' τ2, bk := D.nx } τ1 else D.nx τ1
theorem qs_while {c : Expr} {body : List Stmt} {tc : DT} {tb : DS} (hp : PassesOwn (model X.prog X.w) X.A X.env X.xe) (hc : QT X c tc) (hb : QSs X body tb) : QS X (.While c body [] pos) (dWhile tc tb) :=
  PSmono (ps_while hp hc hb) fun D σ H ⟨O, io, α, τ, E, n, ⟨W, ⟨m0, w0⟩, turn⟩, l1, l2, l3, l4⟩ =>
    ⟨fun m σ' H' => ∃ α' τ', Now X.K O io none α' τ' σ' H' ∧ Kp O (Mu O α none) H (Mu O α' none) H' ∧ W m τ', ⟨m0, α, τ, n, .refl, w0⟩, fun m σ1 H1 ⟨α1, τ1, n1, k1, w1⟩ =>
      ⟨O, io, α1, τ1, _, n1, turn m τ1 w1, fun b α2 τ2 H2 n2 k2 q => by
        cases b with
        | true =>
          rw [if_pos rfl] at q ⊢
          have go : ∀ α' τ' σ' H', Now X.K O io none α' τ' σ' H' → Kp O (Mu O α2 none) H2 (Mu O α' none) H' → (∃ m', m' < m ∧ W m' τ') → ∃ m', m' < m ∧ ∃ α' τ', Now X.K O io none α' τ' σ' H' ∧ Kp O (Mu O α none) H (Mu O α' none) H' ∧ W m' τ' :=
            fun α' τ' σ' H' n' k' ⟨m', hm, w'⟩ => ⟨m', hm, α', τ', n', (k1.trans k2).trans k', w'⟩
          exact ⟨fun σ' H' => ∃ m', m' < m ∧ ∃ α' τ', Now X.K O io none α' τ' σ' H' ∧ Kp O (Mu O α none) H (Mu O α' none) H' ∧ W m' τ', fun σ' H' z => z,
            O, io, α2, τ2, _, n2, q, go, l2.after (k1.trans k2), l1.after (k1.trans k2), go⟩
        | false =>
          rw [if_neg (by decide)] at q ⊢
          exact l1 α2 τ2 σ1 H2 n2 (k1.trans k2) q⟩⟩
end

/-! ### comprehensions -/
def wipeT (τ : DSt) : List Nat → DSt
  | [] => τ
  | v :: vs => setSlot (wipeT τ vs) v none
def wipeA (α : List (Option Addr)) : List Nat → List (Option Addr)
  | [] => α
  | v :: vs => (wipeA α vs).set v none
/-- the state without the names vs: they may hold anything, or nothing -/
theorem Now.wipe {K : PySem.W.Frag} {O : Ms} {io : List Addr} {α : List (Option Addr)} {τ : DSt} {σ σ' : L2.St} {H : Hp} (vs : List Nat) (n : Now K O io none α τ σ H) (hl : σ'.length = σ.length) (he : ∀ j, j ∉ vs → σ'[j]? = σ[j]?) :
    Now K O io none (wipeA α vs) (wipeT τ vs) σ' H ∧ ∀ a, Mu O (wipeA α vs) none a → Mu O α none a := by
  have aAt : ∀ (vs : List Nat) (j : Nat), (j ∈ vs → ∀ a, (wipeA α vs)[j]? ≠ some (some a)) ∧ (j ∉ vs → (wipeA α vs)[j]? = α[j]?) := by
    intro vs
    induction vs with
    | nil => intro j; exact ⟨fun h => by simp at h, fun _ => rfl⟩
    | cons v vs ih =>
      intro j
      refine ⟨fun h a e => ?_, fun h => ?_⟩
      · rcases getα e with ⟨_, z⟩ | ⟨z1, z⟩
        · cases z
        · exact (ih j).1 ((List.mem_cons.mp h).resolve_left z1) a z
      · show ((wipeA α vs).set v none)[j]? = _
        rw [set_off (show j ≠ v from fun z => h (z ▸ List.mem_cons_self)), (ih j).2 fun z => h (List.mem_cons_of_mem _ z)]
  have tAt : ∀ (vs : List Nat) (j : Nat), (j ∈ vs → ∀ s, (wipeT τ vs)[j]? ≠ some (some s)) ∧ (j ∉ vs → (wipeT τ vs)[j]? = τ[j]?) := by
    intro vs
    induction vs with
    | nil => intro j; exact ⟨fun h => by simp at h, fun _ => rfl⟩
    | cons v vs ih =>
      intro j
      refine ⟨fun h s e => ?_, fun h => ?_⟩
      · unfold wipeT at e
        rw [setSlot_eq] at e
        by_cases z1 : j = v
        · subst z1
          have hl : j < ((wipeT τ vs).set j none).length := (List.getElem?_eq_some_iff.mp e).1
          rw [List.length_set] at hl
          rw [set_at hl] at e
          cases e
        · rw [set_off z1] at e
          exact (ih j).1 ((List.mem_cons.mp h).resolve_left z1) s e
      · unfold wipeT
        rw [setSlot_eq, set_off (show j ≠ v from fun z => h (z ▸ List.mem_cons_self)), (ih j).2 fun z => h (List.mem_cons_of_mem _ z)]
  have tl : ∀ vs, (wipeT τ vs).length = τ.length := by
    intro vs
    induction vs with
    | nil => rfl
    | cons v vs ih => unfold wipeT; rw [setSlot_eq, List.length_set, ih]
  have al : ∀ vs, (wipeA α vs).length = α.length := by
    intro vs
    induction vs with
    | nil => rfl
    | cons v vs ih => unfold wipeA; rw [List.length_set, ih]
  have mu : ∀ a, Mu O (wipeA α vs) none a → Mu O α none a := fun a h => by
    rcases h with h | ⟨j, h⟩ | h
    · exact .inl h
    · by_cases hj : j ∈ vs
      · exact absurd h ((aAt vs j).1 hj a)
      · rw [(aAt vs j).2 hj] at h
        exact .inr (.inl ⟨j, h⟩)
    · cases h
  have noA : ∀ {j : Nat} {a : Addr}, (wipeA α vs)[j]? = some (some a) → j ∉ vs ∧ α[j]? = some (some a) := fun {j a} h => by
    have hj : j ∉ vs := fun z => (aAt vs j).1 z a h
    exact ⟨hj, by rw [← (aAt vs j).2 hj]; exact h⟩
  refine ⟨⟨by rw [tl, hl]; exact n.lenT, by rw [al, hl]; exact n.lenA, fun j s e => ?_, fun i j a e1 e2 => n.nd i j a (noA e1).2 (noA e2).2, fun i a e => n.nO i a (noA e).2, fun p z => (by cases z), fun a h => n.tr a (mu a h)⟩, mu⟩
  have hj : j ∉ vs := fun z => (tAt vs j).1 z s e
  rw [(tAt vs j).2 hj] at e
  have q := n.slot j s e
  have k : Kp0 (Mu O α none) H (Mu O (wipeA α vs) none) H := .of_anti mu
  cases s with
  | val t => obtain ⟨v, e, h⟩ := q; exact ⟨v, by rw [he j hj]; exact e, h.keep k⟩
  | own ts => obtain ⟨a, ws, e1, e2, e3, h⟩ := q; exact ⟨a, ws, by rw [(aAt vs j).2 hj]; exact e1, by rw [he j hj]; exact e2, e3, h.keep k⟩
  | io m ts => obtain ⟨a, ws, e0, e1, e2, e3, h⟩ := q; exact ⟨a, ws, e0, by rw [(aAt vs j).2 hj]; exact e1, by rw [he j hj]; exact e2, e3, h.keep k⟩
def lcL (vs : List Nat) (g : DG) (tt : DT) (te : DE) (Q : DK) : List T → List T → DSt → Prop
  | [], acc, τ => Q (.fr acc) τ
  | t :: r, acc, τ => g t τ fun τ2 => tt τ2 fun b τ3 => Br b (te τ3 fun tk τ4 => froze τ4 tk fun y τ5 => lcL vs g tt te Q r (acc ++ [y]) (wipeT τ5 vs)) (lcL vs g tt te Q r acc (wipeT τ3 vs))
def dLc (vs : List Nat) (d : DI) (g : DG) (tt : DT) (te : DE) : DE := fun τ Q => d τ fun ts τ1 => lcL vs g tt te Q ts [] (wipeT τ1 vs)
/-! the comprehension's own rule -/
def dYes : DT := fun τ Q => Q true τ
abbrev QTs (X : Cx) (ifs : List Expr) (t : DT) : Prop := PTs X ifs (liftT X.K t)
theorem PTsmono {X : Cx} {ifs : List Expr} {t t' : TT} (h : PTs X ifs t) (m : ∀ σ H Q, t' σ H Q → t σ H Q) : PTs X ifs t' := ⟨fun pins s σ H Q I q => h.run pins s σ H Q I (m σ H Q q)⟩
theorem qts_nil {X : Cx} : QTs X [] dYes := PTsmono pts_nil fun σ H Q ⟨O, io, α, τ, R, n, h, fin⟩ => fin true α τ H n .refl h
theorem qts_one {X : Cx} {c : Expr} {t : DT} (h : QT X c t) : QTs X [c] t := pts_one h
def Ov (O : Ms) (D : Addr) : Ms := fun a => O a ∨ a = D
section
variable {K : PySem.W.Frag} {O : Ms} {io : List Addr} {α : List (Option Addr)} {τ : DSt} {σ : L2.St} {H : Hp} {D : Addr}
theorem Ov.into : ∀ a, Mu (Ov O D) α none a → Mu O α (some D) a := fun a h => by
  rcases h with (h | h) | h | h
  · exact .inl h
  · exact .inr (.inr (h ▸ rfl))
  · exact .inr (.inl h)
  · cases h
theorem Ov.back : ∀ a, Mu O α (some D) a → Mu (Ov O D) α none a := fun a h => by
  rcases h with h | h | h
  · exact .inl (.inl h)
  · exact .inr (.inl h)
  · exact .inl (.inr (Option.some.inj h).symm)
theorem Now.over {vs : List V} (n : Now K O io (some D) α τ σ H) (e : H D = some (.lst vs)) : Now K (Ov O D) io none α τ σ H :=
  ⟨n.lenT, n.lenA, fun i s q => (n.slot i s q).keep (.of_anti Ov.into) fun _ _ _ z => z, n.nd, fun i a q z => by
    rcases z with z | z
    · exact n.nO i a q z
    · exact (n.tm D rfl).2 i (z ▸ q), fun _ z => (by cases z), fun a h => by
    rcases h with (h | h) | h | h
    · exact n.tr a (.inl h)
    · exact ⟨vs, h ▸ e⟩
    · exact n.tr a (.inr (.inl h))
    · cases h⟩
theorem Now.under (n : Now K (Ov O D) io none α τ σ H) (hD : ¬ O D) : Now K O io (some D) α τ σ H :=
  ⟨n.lenT, n.lenA, fun i s q => (n.slot i s q).keep (.of_anti Ov.back) fun _ _ _ z => z, n.nd, fun i a q z => n.nO i a q (.inl z), fun p z => by
    cases z
    exact ⟨hD, fun i q => n.nO i D q (.inr rfl)⟩, fun a h => by
    rcases h with h | h | h
    · exact n.tr a (.inl (.inl h))
    · exact n.tr a (.inr (.inl h))
    · cases h⟩
/-- the list at D, that only the comprehension writes -/
theorem Now.push {vs ws : List V} (n : Now K (Ov O D) io none α τ σ H) (hD : ¬ O D) : Now K (Ov O D) io none α τ σ (upd H D (.lst ws)) ∧ (H D = some (.lst vs) → Kp O (Mu (Ov O D) α none) H (Mu (Ov O D) α none) (upd H D (.lst ws))) := by
  obtain ⟨vs', e'⟩ := n.tr D (.inl (.inr rfl))
  have kp : Kp O (Mu (Ov O D) α none) H (Mu (Ov O D) α none) (upd H D (.lst ws)) := by
    refine ⟨⟨fun b xs e => ?_, fun b ob u e => ?_, fun b xs e m => ⟨?_, m⟩⟩, fun b hb => ?_⟩
    · rw [upd_ne (ne_of e e' (by intro z; cases z))]; exact e
    · rw [upd_ne (ne_of e e' (by intro z; cases z))]; exact e
    · rw [upd_ne (show b ≠ D from fun z => m (.inl (.inr z)))]; exact e
    · rw [upd_ne (show b ≠ D from fun z => hD (z ▸ hb))]
  refine ⟨⟨n.lenT, n.lenA, fun i s q => (n.slot i s q).keep kp.toKp0 fun a xs e1 e2 => by rw [upd_ne (show a ≠ D from fun z => n.nO i a e1 (.inr z))]; exact e2, n.nd, n.nO, n.tm, fun a h => ?_⟩, fun _ => kp⟩
  by_cases z : a = D
  · subst z; exact ⟨ws, upd_same⟩
  · obtain ⟨xs, e⟩ := n.tr a h
    exact ⟨xs, by rw [upd_ne z]; exact e⟩
end
theorem lc_lift {K : PySem.W.Frag} {vs : List Nat} {d : DI} {g : DG} {tt : DT} {te : DE} {σ : L2.St} {H : Hp} {Q : VK} (h : liftE K (dLc vs d g tt te) σ H Q) : tLc (liftI K d) (liftG K vs g) (liftT K tt) (liftE K te) vs σ H Q := by
  obtain ⟨O, io, α, τ, R, n, h, fin⟩ := h
  refine ⟨O, io, α, τ, _, n, h, fun J ts α1 τ1 H1 n1 k1 F hz c D hD => ?_⟩
  have nOD : ¬ O D := fun z => by
    obtain ⟨xs, e⟩ := n1.tr D (.inl z)
    rw [hD] at e
    cases e
  have kD := kp_new n1 hD (.lst []) (.inr rfl)
  have nD := (now_new n1 hD (.lst []) (.inr rfl)).over upd_same
  have kD' : Kp O (Mu O α1 none) H1 (Mu (Ov O D) α1 none) (upd H1 D (.lst [])) := kD.anti Ov.into
  refine ⟨fun i m H => (i ≤ ts.length ∧ m = ts.length - i) ∧ ∃ (α' : List (Option Addr)) (τ' : DSt) (σ' : L2.St) (acc : List T) (ws : List V), Now K (Ov O D) io none α' τ' σ' H ∧ (σ'.length = σ.length ∧ ∀ j, j ∉ vs → σ'[j]? = σ[j]?) ∧
      Kp O (Mu O α1 none) H1 (Mu (Ov O D) α' none) H ∧ H D = some (.lst ws) ∧ VTs K (Mu (Ov O D) α' none) H ws acc ∧ acc.length ≤ i ∧ lcL vs g tt te R (ts.drop i) acc (wipeT τ' vs),
    ⟨ts.length, ⟨Nat.zero_le _, rfl⟩, α1, τ1, σ, [], [], nD, ⟨rfl, fun _ _ => rfl⟩, kD', upd_same, .nil, Nat.le_refl _, c⟩, fun i m H2 ⟨⟨hi, hm⟩, α2, τ2, σ2, acc, ws, n2, ⟨hl2, he2⟩, k2, eD, hacc, hle, c2⟩ => ?_⟩
  have hwl : (L2.wipe σ vs).length = σ.length := wipe_length σ vs
  by_cases hlt : i < ts.length
  · rw [List.drop_eq_getElem_cons hlt] at c2
    refine .inr ⟨F.go i _ _ k2.toKp0 hlt, fun H' => ∃ (α' : List (Option Addr)) (τ' : DSt) (σ' : L2.St) (acc : List T) (ws : List V), Now K (Ov O D) io none α' τ' σ' H' ∧ (σ'.length = σ.length ∧ ∀ j, j ∉ vs → σ'[j]? = σ[j]?) ∧
      Kp O (Mu O α1 none) H1 (Mu (Ov O D) α' none) H' ∧ H' D = some (.lst ws) ∧ VTs K (Mu (Ov O D) α' none) H' ws acc ∧ acc.length ≤ i + 1 ∧ lcL vs g tt te R (ts.drop (i + 1)) acc (wipeT τ' vs),
      fun H' z => ⟨ts.length - (i + 1), by omega, ⟨hlt, rfl⟩, z⟩, fun x H3 y => ?_⟩
    -- the state at the turn's start: the comprehension's names are wiped
    obtain ⟨nw, mw⟩ := n2.wipe (σ' := L2.wipe σ vs) vs (by rw [hwl, hl2]) fun j hj => by rw [wipe_off hj, he2 j hj]
    obtain ⟨hh, t, et, hv⟩ := F.yld i _ _ k2.toKp0 hlt x H3 y
    rw [List.getElem?_eq_getElem hlt] at et
    cases et
    have step3 : Now K (Ov O D) io none (wipeA α2 vs) (wipeT τ2 vs) (L2.wipe σ vs) H3 ∧ Kp (Ov O D) (Mu (Ov O D) α2 none) H2 (Mu (Ov O D) (wipeA α2 vs) none) H3 ∧ VT K (Mu (Ov O D) (wipeA α2 vs) none) H3 x ts[i] := by
      rcases hh with rfl | ⟨p, xs, hp, rfl⟩
      · exact ⟨nw, .of_anti mw, (hv fun _ _ z => z).keep (.of_anti mw)⟩
      · have kp := kp_new nw hp (.tup xs) (.inl rfl)
        exact ⟨now_new nw hp _ (.inl rfl), (Kp.of_anti mw).trans kp, (hv fun a xs e => by rw [upd_ne (ne_of_none e hp)]; exact e).keep (.of_anti mw)⟩
    obtain ⟨n3, k3, hv3⟩ := step3
    refine ⟨Ov O D, io, _, _, ts[i], _, n3, hv3, c2, fun α4 τ4 σ4 H4 n4 k4 w4 q4 => ⟨?_, ?_⟩⟩
    · rw [w4]
      refine List.ext_getElem? fun j => ?_
      by_cases hj : j ∈ vs
      · have := L2.wipe_length σ vs
        have wat : ∀ (ρ : L2.St) (us : List Nat), j ∈ us → (L2.wipe ρ us)[j]? = if j < ρ.length then some none else none := by
          intro ρ us
          induction us with
          | nil => intro h; simp at h
          | cons u us ih2 =>
            intro h
            show ((L2.wipe ρ us).set u none)[j]? = _
            by_cases hu : j = u
            · subst hu
              by_cases hl : j < ρ.length
              · rw [set_at (by rw [wipe_length]; exact hl), if_pos hl]
              · rw [List.getElem?_eq_none (by rw [List.length_set, wipe_length]; omega), if_neg hl]
            · rw [set_off hu, ih2 ((List.mem_cons.mp h).resolve_left hu)]
        rw [wat _ _ hj, wat _ _ hj, wipe_length]
      · rw [wipe_off hj]
    · have hl4 : σ4.length = σ.length := by rw [← wipe_length σ4 vs, w4, wipe_length, wipe_length]
      have he4 : ∀ j, j ∉ vs → σ4[j]? = σ[j]? := fun j hj => by rw [← wipe_off (σ := σ4) hj, w4, wipe_off hj, wipe_off hj]
      have k24 := k3.trans k4
      have eD4 : H4 D = some (.lst ws) := (k24.far D (.inr rfl)).trans eD
      refine ⟨Ov O D, io, α4, τ4, _, n4, q4, fun b α5 τ5 H5 n5 k5 q5 => ?_⟩
      have k25 := k24.trans k5
      have eD5 : H5 D = some (.lst ws) := (k25.far D (.inr rfl)).trans eD
      have far : ∀ {M M' : Ms} {H H' : Hp}, Kp (Ov O D) M H M' H' → Kp O M H M' H' := fun k => ⟨k.toKp0, fun a h => k.far a (.inl h)⟩
      cases b with
      | false =>
        refine iteF ?_
        exact ⟨α5, τ5, σ4, acc, ws, n5, ⟨hl4, he4⟩, k2.trans (far k25), eD5, hacc.keep k25.toKp0, by omega, q5.f rfl⟩
      | true =>
        refine iteT (one n5 (q5.t rfl) fun v tk α6 τ6 H6 n6 k6 r6 c6 => ?_)
        rw [← froze_weak] at c6
        obtain ⟨t, α7, τ7, n7, a7, q7, c7⟩ := froze_ok n6 r6 c6
        have k27 := (k25.trans k6).trans (Kp.of_anti (O := Ov O D) (H := H6) a7)
        have eD6 : H6 D = some (.lst ws) := (k27.far D (.inr rfl)).trans eD
        obtain ⟨n8, k8⟩ := n7.push (vs := ws) (ws := ws ++ [v]) nOD
        have hv8 : VTs K (Mu (Ov O D) α7 none) (upd H6 D (.lst (ws ++ [v]))) (ws ++ [v]) (acc ++ [t]) := ((hacc.keep k27.toKp0).append (.cons q7 .nil)).keep (k8 eD6).toKp0
        exact ⟨ws, eD6, by rw [hacc.length]; omega, α7, τ7, σ4, acc ++ [t], ws ++ [v], n8, ⟨hl4, he4⟩, (k2.trans (far k27)).trans (k8 eD6), upd_same, hv8, by rw [List.length_append]; exact Nat.succ_le_succ hle, c7⟩
  · have e : i = ts.length := by omega
    subst e
    rw [List.drop_length] at c2
    obtain ⟨nw, mw⟩ := n2.wipe (σ' := σ) vs hl2.symm fun j hj => (he2 j hj).symm
    have ku : Kp O (Mu (Ov O D) α2 none) H2 (Mu O (wipeA α2 vs) (some D)) H2 := .of_anti fun a h => mw a (Ov.back a h)
    exact .inl ⟨F.stop _ _ _ k2.toKp0 (Nat.le_refl _), fin (.ref D) (.fr acc) (some D) (wipeA α2 vs) _ H2 (nw.under nOD) ((k1.trans k2).trans ku) ⟨D, ws, rfl, rfl, eD, hacc.keep ku.toKp0⟩ c2⟩
theorem qe_lc {X : Cx} {elt tg iter : Expr} {ifs : List Expr} {scope : Scope} {own : List (Str × Nat)} {pos : Pos} {d : DI} {g : DG} {tt : DT} {te : DE} (hc : X.calm = true) (hN : X.N.Nodup) (hi : QI X tg iter d) (ok : BlkOk X.N X.env.scope scope own)
    (hg : ∀ (s : Shared) (H : Hp) (C : Addr) (cl : List (Str × Addr)) (fp : List Addr), QG (X.blk s H scope (compEnvC scope cl C X.env) fp) (own.map (·.2)) tg g)
    (ht : ∀ (s : Shared) (H : Hp) (C : Addr) (cl : List (Str × Addr)) (fp : List Addr), QTs (X.blk s H scope (compEnvC scope cl C X.env) fp) ifs tt)
    (he : ∀ (s : Shared) (H : Hp) (C : Addr) (cl : List (Str × Addr)) (fp : List Addr), QE (X.blk s H scope (compEnvC scope cl C X.env) fp) elt te) (hs : ∀ x, foldedSetIterable iter X.env x = pure x := by intro _; rfl) :
    QE X (.ListComp elt [⟨tg, iter, ifs, 0⟩] scope pos) (dLc (own.map (·.2)) d g tt te) := PEmono (pe_lc hc hN hi ok hg ht he hs) fun _ _ _ => lc_lift
end N1
namespace N1
open PySem PySem.Spec PyProof.Rows L2

/-! ### a call of a built-in, by plain values -/
def rCD (K : PySem.W.Frag) (r : List T → (Tok → Prop) → Prop) : List V → Hp → VK → Prop := fun xs H Q => ∃ (O : Ms) (io : List Addr) (α : List (Option Addr)) (τ : DSt) (ρ : L2.St) (ts : List T) (k : Tok → Prop),
  Now K O io none α τ ρ H ∧ VCs K (Mu O α none) H xs ts ∧ r ts k ∧ ∀ z H', ResQ K O io α τ ρ H k z H' → Q z H'
def CallD (X : Cx) (f : Value) (r : List T → (Tok → Prop) → Prop) : Prop := CallR X f (rCD X.K r)
def dCallB (r : List T → (Tok → Prop) → Prop) (ta : DA) : DE := fun τ Q => ta τ fun tks τ1 => useAll τ1 tks fun ts => r ts fun z => Q z τ1
section
variable {X : Cx} {x : Str} {p pos : Pos} {e : Expr} {es : List Expr} {ta : DA} {id T : String} {r : List N1.T → (Tok → Prop) → Prop}
theorem dcallb_lift {σ : L2.St} {H : Hp} {Q : VK} (h : liftE X.K (dCallB r ta) σ H Q) : tCB (rCD X.K r) (liftA X.K ta) σ H Q := by
  obtain ⟨O, io, α, τ, R, n, h, fin⟩ := h
  refine ⟨O, io, α, τ, _, n, h, fun vs tks α1 τ1 H1 n1 k1 r1 c => ?_⟩
  obtain ⟨ts, cs, c⟩ := useAll_ok n1 r1 c
  exact ⟨O, io, α1, τ1, σ, ts, _, n1, cs, c, fun z H' ⟨tk, tmp, n2, k2, r3, q⟩ => fin z tk tmp α1 τ1 H' n2 (k1.trans k2) r3 q⟩
theorem qe_callB (hc : CallD X (.builtin id) r) (hg : Gl X x) (hm : X.mg x = none) (hv : bootBuiltins x = some (.builtin id)) (ha : QA X (e :: es) ta) (hn : x ≠ "__name__" := by decide) (hdb : (x == ("__debug__" : Str)) = false := by decide)
    (he : starEach (e :: es) X.env = (false, eval e X.env) :: starEach es X.env := by rfl) (hpl : (backTo pos (starEach es X.env)).any (·.1) = false := by rfl) : QE X (.Call (.Name x p) (e :: es) [] pos) (dCallB r ta) :=
  PEmono (pe_callB hc hg hm hv ha hn hdb he hpl) fun _ _ _ => dcallb_lift
theorem qe_callTy (hc : CallD X (.type T) r) (hg : Gl X x) (hm : X.mg x = none) (hv : bootBuiltins x = some (.type T)) (ha : QA X (e :: es) ta) (hn : x ≠ "__name__" := by decide) (hdb : (x == ("__debug__" : Str)) = false := by decide)
    (he : starEach (e :: es) X.env = (false, eval e X.env) :: starEach es X.env := by rfl) (hpl : (backTo pos (starEach es X.env)).any (·.1) = false := by rfl) : QE X (.Call (.Name x p) (e :: es) [] pos) (dCallB r ta) :=
  PEmono (pe_callTy hc hg hm hv ha hn hdb he hpl) fun _ _ _ => dcallb_lift
end
section
variable {K : PySem.W.Frag} {M : Ms} {H : Hp}
theorem VCs.one {xs : List V} {t : T} (h : VCs K M H xs [t]) : ∃ v, xs = [v] ∧ VC K M H v t := by
  cases h with
  | cons h hs => cases hs; exact ⟨_, rfl, h⟩
theorem VCs.two {xs : List V} {t u : T} (h : VCs K M H xs [t, u]) : ∃ v w, xs = [v, w] ∧ VC K M H v t ∧ VC K M H w u := by
  cases h with
  | cons h hs =>
    obtain ⟨w, rfl, hw⟩ := hs.one
    exact ⟨_, w, rfl, h, hw⟩
/-- a list or a tuple, whichever -/
theorem VC.items {v : V} {t : T} {ts : List T} (h : VC K M H v t) (e : itemsOf t = some ts) : ∃ a vs, v = .ref a ∧ (SqL K H a vs ∨ SqT K H a vs) ∧ VTs K M H vs ts := by
  cases t with
  | tup us => cases e; obtain ⟨a, vs, e1, e2, e3⟩ := h.tup; exact ⟨a, vs, e1, .inr e2, e3⟩
  | lst us => cases e; obtain ⟨a, vs, e1, e2, e3⟩ := h.lst; exact ⟨a, vs, e1, .inl (SqL.of e2), e3⟩
  | lsk us => cases e; obtain ⟨a, vs, e1, e2, e3⟩ := h.lsk; exact ⟨a, vs, e1, .inl e2, e3⟩
  | _ => cases e
end
def bLen : List T → (Tok → Prop) → Prop
  | [.tup ts], k => k (.v (.int ts.length))
  | [.lst ts], k => k (.v (.int ts.length))
  | [.lsk ts], k => k (.v (.int ts.length))
  | [.str x], k => x.length ≤ sizeLine ∧ k (.v (.int x.length))
  | _, _ => False
def bInt : List T → (Tok → Prop) → Prop
  | [.int i], k => k (.v (.int i))
  | [.bl b], k => k (.v (.int (if b then 1 else 0)))
  | _, _ => False
def bStr : List T → (Tok → Prop) → Prop
  | [.int i], k => (0 ≤ i ∧ i.natAbs.log2 < 1920) ∧ k (.v (.str (toString i)))
  | _, _ => False
def bTuple : List T → (Tok → Prop) → Prop
  | [.tup ts], k => k (.v (.tup ts))
  | [.lst ts], k => k (.v (.tup ts))
  | [.lsk ts], k => k (.v (.tup ts))
  | _, _ => False
def bList : List T → (Tok → Prop) → Prop
  | [.tup ts], k => k (.fr ts)
  | [.lst ts], k => k (.fr ts)
  | [.lsk ts], k => k (.fr ts)
  | _, _ => False
/-- a list of ints -/
def intsOf : List T → Option (List Int)
  | [] => some []
  | .int i :: r => (intsOf r).map (i :: ·)
  | _ => none
def strsOf : List T → Option (List Str)
  | [] => some []
  | .str x :: r => (strsOf r).map (x :: ·)
  | _ => none
def withInts (ts : List T) (c : List Int → Prop) : Prop := match intsOf ts with
  | some ns => c ns
  | none => False
theorem withInts_ok {ts : List T} {c : List Int → Prop} (h : withInts ts c) : ∃ ns, intsOf ts = some ns ∧ c ns := by
  unfold withInts at h
  split at h
  · exact ⟨_, by assumption, h⟩
  · exact h.elim
def withStrs (ts : List T) (c : List Str → Prop) : Prop := match strsOf ts with
  | some ns => c ns
  | none => False
theorem withStrs_ok {ts : List T} {c : List Str → Prop} (h : withStrs ts c) : ∃ ns, strsOf ts = some ns ∧ c ns := by
  unfold withStrs at h
  split at h
  · exact ⟨_, by assumption, h⟩
  · exact h.elim
def bSum : List T → (Tok → Prop) → Prop
  | [.lst ts], k => withInts ts fun ns => k (.v (.int ns.sum))
  | _, _ => False
def bMin : List T → (Tok → Prop) → Prop
  | [.int i, .int j], k => k (.v (.int (if j < i then j else i)))
  | [.lst ts], k => withInts ts fun ns => 0 < ns.length ∧ ∀ m, m ∈ ns → (∀ y, y ∈ ns → m ≤ y) → k (.v (.int m))
  | _, _ => False
def bMax : List T → (Tok → Prop) → Prop
  | [.int i, .int j], k => k (.v (.int (if j > i then j else i)))
  | [.lst ts], k => withInts ts fun ns => 0 < ns.length ∧ ∀ m, m ∈ ns → (∀ y, y ∈ ns → y ≤ m) → k (.v (.int m))
  | _, _ => False
def bSortedS : List T → (Tok → Prop) → Prop
  | [.lst ts], k => withStrs ts fun xs => xs.length < 64 ∧ ∀ ys : List Str, ys.Perm xs → sortedS ys = true → k (.fr (ys.map .str))
  | _, _ => False
section
variable {K : PySem.W.Frag} {M : Ms} {H : Hp}
theorem VTs.intsOf : ∀ {vs : List V} {ts : List T} {ns : List Int}, VTs K M H vs ts → N1.intsOf ts = some ns → vs = ns.map V.int
  | _, [], _, .nil, e => by cases e; rfl
  | _, t :: r, ns, .cons h hs, e => by
    cases t with
    | int i =>
      cases q : N1.intsOf r with
      | none => simp [N1.intsOf, q] at e
      | some ms =>
        simp [N1.intsOf, q] at e
        subst e
        cases h
        rw [hs.intsOf q]
        rfl
    | _ => simp [N1.intsOf] at e
theorem VTs.strsOf : ∀ {vs : List V} {ts : List T} {ns : List Str}, VTs K M H vs ts → N1.strsOf ts = some ns → vs = ns.map V.str ∧ ∀ x ∈ ns, PyData.strOk x = true
  | _, [], _, .nil, e => by cases e; exact ⟨rfl, fun x h => by simp at h⟩
  | _, t :: r, ns, .cons h hs, e => by
    cases t with
    | str x =>
      cases q : N1.strsOf r with
      | none => simp [N1.strsOf, q] at e
      | some ms =>
        simp [N1.strsOf, q] at e
        subst e
        cases h with
        | str _ ho =>
          obtain ⟨h1, h2⟩ := hs.strsOf q
          rw [h1]
          refine ⟨rfl, fun y hy => ?_⟩
          rcases List.mem_cons.mp hy with rfl | hy
          · exact ho
          · exact h2 y hy
    | _ => simp [N1.strsOf] at e
theorem VTs.ofStrs : ∀ {ys : List Str}, (∀ y ∈ ys, PyData.strOk y = true) → VTs K M H (ys.map V.str) (ys.map .str)
  | [], _ => .nil
  | y :: ys, h => .cons (.str y (h y List.mem_cons_self)) (VTs.ofStrs fun z hz => h z (List.mem_cons_of_mem _ hz))
end
theorem digitsOk {i : Int} (h : 0 ≤ i) : PyData.strOk (toString i) = true := by
  obtain ⟨m, rfl⟩ := Int.eq_ofNat_of_zero_le h
  unfold PyData.strOk
  rw [← Array.all_toList, PySem.W.KIN.signs_num m, List.all_map, List.all_eq_true]
  intro c _
  have hc : c.toNat < 0x110000 := by
    have := c.valid
    unfold UInt32.isValidChar Nat.isValidChar at this
    show c.val.toNat < _
    omega
  exact decide_eq_true hc
section
variable {X : Cx}
theorem cd_len : CallD X (.builtin "len") bLen := by
  intro pins s σ H xs us Q I rx ⟨O, io, α, τ, ρ, ts, k, n, c, q, fin⟩
  match ts, q with
  | [.tup ts], q =>
    obtain ⟨v, rfl, c1⟩ := c.one
    obtain ⟨a, vs, rfl, e, hs⟩ := c1.tup
    exact call_len_seq pins s σ H _ us Q I rx ⟨a, vs, rfl, .inr e, fin _ _ (.val n (.int _) (by rw [hs.length]; exact q))⟩
  | [.lst ts], q =>
    obtain ⟨v, rfl, c1⟩ := c.one
    obtain ⟨a, vs, rfl, e, hs⟩ := c1.lst
    exact call_len_seq pins s σ H _ us Q I rx ⟨a, vs, rfl, .inl (SqL.of e), fin _ _ (.val n (.int _) (by rw [hs.length]; exact q))⟩
  | [.lsk ts], q =>
    obtain ⟨v, rfl, c1⟩ := c.one
    obtain ⟨a, vs, rfl, e, hs⟩ := c1.lsk
    exact call_len_seq pins s σ H _ us Q I rx ⟨a, vs, rfl, .inl e, fin _ _ (.val n (.int _) (by rw [hs.length]; exact q))⟩
  | [.str z], q =>
    obtain ⟨v, rfl, c1⟩ := c.one
    obtain ⟨rfl, _⟩ := c1.str
    exact call_len_str pins s σ H _ us Q I rx ⟨z, rfl, q.1, fin _ _ (.val n (.int _) q.2)⟩
theorem cd_int : CallD X (.type "int") bInt := by
  intro pins s σ H xs us Q I rx ⟨O, io, α, τ, ρ, ts, k, n, c, q, fin⟩
  match ts, q with
  | [.int i], q =>
    obtain ⟨v, rfl, c1⟩ := c.one
    cases c1.int
    exact call_int1 pins s σ H _ us Q I rx (.inl ⟨i, rfl, fin _ _ (.val n (.int _) q)⟩)
  | [.bl b], q =>
    obtain ⟨v, rfl, c1⟩ := c.one
    cases c1.bl
    exact call_int1 pins s σ H _ us Q I rx (.inr ⟨b, rfl, fin _ _ (.val n (.int _) q)⟩)
theorem cd_str : CallD X (.type "str") bStr := by
  intro pins s σ H xs us Q I rx ⟨O, io, α, τ, ρ, ts, k, n, c, q, fin⟩
  match ts, q with
  | [.int i], q =>
    obtain ⟨v, rfl, c1⟩ := c.one
    cases c1.int
    exact call_str_int pins s σ H _ us Q I rx ⟨i, rfl, q.1.2, fin _ _ (.val n (.str _ (digitsOk q.1.1)) q.2)⟩
theorem cd_tuple : CallD X (.type "tuple") bTuple := by
  intro pins s σ H xs us Q I rx ⟨O, io, α, τ, ρ, ts, k, n, c, q, fin⟩
  match ts, q with
  | [.tup ts], q =>
    obtain ⟨v, rfl, c1⟩ := c.one
    obtain ⟨a, vs, rfl, e, hs⟩ := c1.tup
    exact call_tuple_of pins s σ H _ us Q I rx ⟨a, vs, rfl, .inr ⟨e, fin _ _ (.val n (.tup e hs) q)⟩⟩
  | [.lst ts], q =>
    obtain ⟨v, rfl, c1⟩ := c.one
    obtain ⟨a, vs, rfl, e, hs⟩ := c1.lst
    exact call_tuple_of pins s σ H _ us Q I rx ⟨a, vs, rfl, .inl ⟨SqL.of e, fun l hl => fin _ _ (ResQ.tup n hs q l hl)⟩⟩
  | [.lsk ts], q =>
    obtain ⟨v, rfl, c1⟩ := c.one
    obtain ⟨a, vs, rfl, e, hs⟩ := c1.lsk
    exact call_tuple_of pins s σ H _ us Q I rx ⟨a, vs, rfl, .inl ⟨e, fun l hl => fin _ _ (ResQ.tup n hs q l hl)⟩⟩
theorem cd_list : CallD X (.type "list") bList := by
  intro pins s σ H xs us Q I rx ⟨O, io, α, τ, ρ, ts, k, n, c, q, fin⟩
  match ts, q with
  | [.tup ts], q =>
    obtain ⟨v, rfl, c1⟩ := c.one
    obtain ⟨a, vs, rfl, e, hs⟩ := c1.tup
    exact call_list_of pins s σ H _ us Q I rx ⟨a, vs, rfl, .inr e, fun l hl => fin _ _ (ResQ.lst n hs q l hl)⟩
  | [.lst ts], q =>
    obtain ⟨v, rfl, c1⟩ := c.one
    obtain ⟨a, vs, rfl, e, hs⟩ := c1.lst
    exact call_list_of pins s σ H _ us Q I rx ⟨a, vs, rfl, .inl (SqL.of e), fun l hl => fin _ _ (ResQ.lst n hs q l hl)⟩
  | [.lsk ts], q =>
    obtain ⟨v, rfl, c1⟩ := c.one
    obtain ⟨a, vs, rfl, e, hs⟩ := c1.lsk
    exact call_list_of pins s σ H _ us Q I rx ⟨a, vs, rfl, .inl e, fun l hl => fin _ _ (ResQ.lst n hs q l hl)⟩
theorem cd_sum (hc : X.calm = true) : CallD X (.builtin "sum") bSum := by
  intro pins s σ H xs us Q I rx ⟨O, io, α, τ, ρ, ts, k, n, c, q, fin⟩
  match ts, q with
  | [.lst ts], q =>
    obtain ⟨v, rfl, c1⟩ := c.one
    obtain ⟨a, vs, rfl, e, hs⟩ := c1.lst
    obtain ⟨ns, en, q⟩ := withInts_ok q
    have ev := hs.intsOf en
    subst ev
    exact cr_sum hc pins s σ H _ us Q I rx ⟨a, ns, rfl, SqL.of e, fin _ _ (.val n (.int _) q)⟩
theorem cd_min (hc : X.calm = true) : CallD X (.builtin "min") bMin := by
  intro pins s σ H xs us Q I rx ⟨O, io, α, τ, ρ, ts, k, n, c, q, fin⟩
  match ts, q with
  | [.int i, .int j], q =>
    obtain ⟨v, w', rfl, c1, c2⟩ := c.two
    cases c1.int; cases c2.int
    exact call_min2 hc pins s σ H _ us Q I rx ⟨i, j, rfl, fin _ _ (.val n (.int _) q)⟩
  | [.lst ts], q =>
    obtain ⟨v, rfl, c1⟩ := c.one
    obtain ⟨a, vs, rfl, e, hs⟩ := c1.lst
    obtain ⟨ns, en, q⟩ := withInts_ok q
    have ev := hs.intsOf en
    subst ev
    exact cr_min hc pins s σ H _ us Q I rx ⟨a, ns, rfl, SqL.of e, q.1, fun m h1 h2 => fin _ _ (.val n (.int _) (q.2 m h1 h2))⟩
theorem cd_max (hc : X.calm = true) : CallD X (.builtin "max") bMax := by
  intro pins s σ H xs us Q I rx ⟨O, io, α, τ, ρ, ts, k, n, c, q, fin⟩
  match ts, q with
  | [.int i, .int j], q =>
    obtain ⟨v, w', rfl, c1, c2⟩ := c.two
    cases c1.int; cases c2.int
    exact call_max2 hc pins s σ H _ us Q I rx ⟨i, j, rfl, fin _ _ (.val n (.int _) q)⟩
  | [.lst ts], q =>
    obtain ⟨v, rfl, c1⟩ := c.one
    obtain ⟨a, vs, rfl, e, hs⟩ := c1.lst
    obtain ⟨ns, en, q⟩ := withInts_ok q
    have ev := hs.intsOf en
    subst ev
    exact cr_max hc pins s σ H _ us Q I rx ⟨a, ns, rfl, SqL.of e, q.1, fun m h1 h2 => fin _ _ (.val n (.int _) (q.2 m h1 h2))⟩
theorem cd_sortedS : CallD X (.builtin "sorted") bSortedS := by
  intro pins s σ H xs us Q I rx ⟨O, io, α, τ, ρ, ts, k, n, c, q, fin⟩
  match ts, q with
  | [.lst ts], q =>
    obtain ⟨v, rfl, c1⟩ := c.one
    obtain ⟨a, vs, rfl, e, hs⟩ := c1.lst
    obtain ⟨ns, en, q⟩ := withStrs_ok q
    obtain ⟨ev, ho⟩ := hs.strsOf en
    subst ev
    exact cr_sortedS pins s σ H _ us Q I rx ⟨a, ns, rfl, SqL.of e, q.1, fun ys p h1 h2 hp => fin _ _ (ResQ.lst n (VTs.ofStrs fun y hy => ho y (h1.mem_iff.mp hy)) (q.2 ys h1 h2) p hp)⟩
end
/-! methods of texts without arguments -/
def dM0 (r : Str → (Tok → Prop) → Prop) (to : DE) : DE := fun τ Q => to τ fun tk τ1 => use τ1 tk fun t => match t with
  | .str x => r x fun z => Q z τ1
  | _ => False
section
variable {X : Cx}
theorem qe_isdigit {o : Expr} {to : DE} {apos pos : Pos} (ho : QE X o to) (hbase : attributeBase o "isdigit" X.env (eval o X.env) = eval o X.env := by rfl) (hline : (apos.endLine == pos.line) = true := by rfl) :
    QE X (.Call (.Attribute o "isdigit" apos) [] [] pos) (dM0 (fun x k => k (.v (.bl (Txt.isdigit x)))) to) :=
  PEmono (pe_m0 PySem.F.slot_str_isdigit PySem.F.type_str_isdigit mt_isdigit ho hbase hline) fun σ H Q ⟨O, io, α, τ, R, n, h, fin⟩ => one n h fun v tk α1 τ1 H1 n1 k1 r1 c => by
    rw [← use_weak] at c
    obtain ⟨t, ct, c⟩ := use_ok n1 r1 c
    cases t with
    | str x =>
      obtain ⟨rfl, ho⟩ := ct.str
      exact ⟨⟨x, rfl⟩, x, rfl, rfl, trivial, fin _ (.v (.bl _)) none α1 τ1 H1 n1 k1 ⟨rfl, .bl _⟩ c⟩
    | _ => exact c.elim
/-! slices -/
abbrev DO := DSt → (Option Int → DSt → Prop) → Prop
def dNoPart : DO := fun τ Q => Q none τ
def dPart (te : DE) : DO := fun τ Q => te τ fun tk τ1 => use τ1 tk fun t => match t with
  | .int i => Q (some i) τ1
  | _ => False
def liftO (K : PySem.W.Frag) (t : DO) : TO := fun σ H Q => ∃ (O : Ms) (io : List Addr) (α : List (Option Addr)) (τ : DSt) (R : Option Int → DSt → Prop), Now K O io none α τ σ H ∧ t τ R ∧
  ∀ i α' τ' H', Now K O io none α' τ' σ H' → Kp O (Mu O α none) H (Mu O α' none) H' → R i τ' → Q i H'
abbrev QO (X : Cx) (e : Option Expr) (t : DO) : Prop := PO X e (liftO X.K t)
theorem POmono {e : Option Expr} {t t' : TO} (h : PO X e t) (m : ∀ σ H Q, t' σ H Q → t σ H Q) : PO X e t' := ⟨fun pins s σ H Q I q => h.run pins s σ H Q I (m σ H Q q)⟩
theorem qo_none : QO X none dNoPart := POmono po_none fun σ H Q ⟨O, io, α, τ, R, n, h, fin⟩ => fin none α τ H n .refl h
theorem qo_some {e : Expr} {te : DE} (h : QE X e te) : QO X (some e) (dPart te) := POmono (po_some h) fun σ H Q ⟨O, io, α, τ, R, n, h, fin⟩ => one n h fun v tk α1 τ1 H1 n1 k1 r1 c => by
  rw [← use_weak] at c
  obtain ⟨t, ct, c⟩ := use_ok n1 r1 c
  cases t with
  | int i => cases ct.int; exact ⟨i, rfl, fin _ α1 τ1 H1 n1 k1 c⟩
  | _ => exact c.elim
def opSl : T → Option Int → Option Int → (Tok → Prop) → Prop
  | .str x, lo, hi, k => x.length ≤ sizeLine ∧ k (.v (.str (cutS x lo hi)))
  | .lst ts, lo, hi, k => k (.fr ((ts.drop (HT.sIx ts.length 0 lo)).take (HT.sIx ts.length ts.length hi - HT.sIx ts.length 0 lo)))
  | .lsk ts, lo, hi, k => k (.fr ((ts.drop (HT.sIx ts.length 0 lo)).take (HT.sIx ts.length ts.length hi - HT.sIx ts.length 0 lo)))
  | .tup ts, lo, hi, k => k (.v (.tup ((ts.drop (HT.sIx ts.length 0 lo)).take (HT.sIx ts.length ts.length hi - HT.sIx ts.length 0 lo))))
  | _, _, _, _ => False
theorem cutOk {x : Str} {lo hi : Option Int} (h : PyData.strOk x = true) : PyData.strOk (cutS x lo hi) = true := by
  unfold PyData.strOk at h ⊢
  rw [← Array.all_toList, List.all_eq_true] at h ⊢
  intro c hc
  exact h c (List.mem_of_mem_drop (List.mem_of_mem_take (by simpa [cutS] using hc)))
def rSlD (K : PySem.W.Frag) : V → Option Int → Option Int → Hp → VK → Prop := fun x lo hi H Q => ∃ (O : Ms) (io : List Addr) (α : List (Option Addr)) (τ : DSt) (ρ : L2.St) (a : N1.T) (k : Tok → Prop),
  Now K O io none α τ ρ H ∧ VC K (Mu O α none) H x a ∧ opSl a lo hi k ∧ ∀ z H', ResQ K O io α τ ρ H k z H' → Q z H'
theorem sl_any : SlR X (rSlD X.K) := by
  intro pins s σ H x v vl vu lo hi sl Q I rx hs pl pu ⟨O, io, α, τ, ρ, a, k, n, c, q, fin⟩
  cases a with
  | str z =>
    obtain ⟨rfl, ho⟩ := c.str
    exact sl_str pins s σ H _ v vl vu lo hi sl Q I rx hs pl pu ⟨z, rfl, q.1, fin _ _ (.val n (.str _ (cutOk ho)) q.2)⟩
  | lst ts =>
    obtain ⟨a, vs, rfl, e, hv⟩ := c.lst
    refine sl_list pins s σ H _ v vl vu lo hi sl Q I rx hs pl pu ⟨a, vs, rfl, SqL.of e, fun p hp => fin _ _ (ResQ.lst n ?_ q p hp)⟩
    unfold cutV
    rw [hv.length]
    exact (hv.drop _).take _
  | lsk ts =>
    obtain ⟨a, vs, rfl, e, hv⟩ := c.lsk
    refine sl_list pins s σ H _ v vl vu lo hi sl Q I rx hs pl pu ⟨a, vs, rfl, e, fun p hp => fin _ _ (ResQ.lst n ?_ q p hp)⟩
    unfold cutV
    rw [hv.length]
    exact (hv.drop _).take _
  | tup ts =>
    obtain ⟨a, vs, rfl, e, hv⟩ := c.tup
    refine sl_tupA pins s σ H _ v vl vu lo hi sl Q I rx hs pl pu ⟨a, vs, rfl, e, fun h => fin _ _ (.val n (.tup e hv) ?_), fun _ p hp => fin _ _ (ResQ.tup n ?_ q p hp)⟩
    · obtain ⟨h1, h2⟩ := h
      rw [hv.length] at h1 h2
      have q' : k (.v (.tup ((ts.drop (HT.sIx ts.length 0 lo)).take (HT.sIx ts.length ts.length hi - HT.sIx ts.length 0 lo)))) := q
      rw [h1, h2, List.drop_zero, Nat.sub_zero, List.take_length] at q'
      exact q'
    · unfold cutV
      rw [hv.length]
      exact (hv.drop _).take _
  | _ => exact q.elim
def dSl (te : DE) (tl th : DO) : DE := fun τ Q => te τ fun tk τ1 => tl τ1 fun lo τ2 => th τ2 fun hi τ3 => use τ3 tk fun t => opSl t lo hi fun z => Q z τ3
theorem qe_slice {e : Expr} {te : DE} {lo hi : Option Expr} {tl th : DO} {p2 pos : Pos} (he : QE X e te) (hl : QO X lo tl) (hu : QO X hi th) : QE X (.Subscript e (.Slice lo hi none p2) pos) (dSl te tl th) :=
  PEmono (pe_slice sl_any he hl hu) fun σ H Q ⟨O, io, α, τ, R, n, h, fin⟩ => one n h fun v tk α1 τ1 H1 n1 k1 r1 c =>
    ⟨O, io, α1, τ1, _, n1, c, fun lo α2 τ2 H2 n2 k2 c => ⟨O, io, α2, τ2, _, n2, c, fun hi α3 τ3 H3 n3 k3 c => by
      rw [← use_weak] at c
      obtain ⟨t, ct, c⟩ := use_ok n3 ((r1.keep k2.toKp0).keep k3.toKp0) c
      exact ⟨O, io, α3, τ3, σ, t, _, n3, ct, c, fun z H' ⟨tk2, tmp, n4, k4, r4, q⟩ => fin z tk2 tmp α3 τ3 H' n4 (((k1.trans k2).trans k3).trans k4) r4 q⟩⟩⟩
end
end N1
namespace N1
open PySem PySem.Spec PyProof.Rows L2

/-! ### what a def means: from its arguments to its result and to the lists that were lent -/
inductive Arg where
  | v (t : T) | io (ts : List T)
abbrev DSp := List Arg → (Tok → List (List T) → Prop) → Prop
def Arg.lent : Arg → Bool
  | .v _ => false
  | .io _ => true
def Me (O : Ms) (ios : List Addr) (tmp : Option Addr) : Ms := fun a => O a ∨ a ∈ ios ∨ tmp = some a
inductive ArgsOk (K : PySem.W.Frag) (M : Ms) (H : Hp) : List V → List Arg → List Addr → Prop
  | nil : ArgsOk K M H [] [] []
  | v {x : V} {t : T} {xs : List V} {as : List Arg} {ios : List Addr} : VT K M H x t → ArgsOk K M H xs as ios → ArgsOk K M H (x :: xs) (.v t :: as) ios
  | io {a : Addr} {vs : List V} {ts : List T} {xs : List V} {as : List Arg} {ios : List Addr} : H a = some (.lst vs) → VTs K M H vs ts → ArgsOk K M H xs as ios → ArgsOk K M H (.ref a :: xs) (.io ts :: as) (a :: ios)
inductive OutsOk (K : PySem.W.Frag) (M : Ms) (H : Hp) : List Addr → List (List T) → Prop
  | nil : OutsOk K M H [] []
  | cons {a : Addr} {vs : List V} {ts : List T} {ios : List Addr} {os : List (List T)} : H a = some (.lst vs) → VTs K M H vs ts → OutsOk K M H ios os → OutsOk K M H (a :: ios) (ts :: os)
def ResR (K : PySem.W.Frag) (M : Ms) (tmp : Option Addr) (H : Hp) (v : V) : Tok → Prop
  | .v t => tmp = none ∧ VT K M H v t
  | .s _ => False
  | .fr ts => ∃ p vs, tmp = some p ∧ v = .ref p ∧ H p = some (.lst vs) ∧ VTs K M H vs ts
def liftSp (K : PySem.W.Frag) (n : Nat) (d : DSp) : Sp := fun vs H Q _ => vs.length = n ∧ ∃ (O : Ms) (ios : List Addr) (args : List Arg) (R : Tok → List (List T) → Prop),
  ArgsOk K (Me O ios none) H vs args ios ∧ ios.Nodup ∧ (∀ a ∈ ios, ¬ O a) ∧ (∀ a, O a → ∃ xs, H a = some (.lst xs)) ∧ d args R ∧
  ∀ v tk tmp outs H', Kp O (Me O ios none) H (Me O ios tmp) H' → OutsOk K (Me O ios tmp) H' ios outs → ResR K (Me O ios tmp) tmp H' v tk → (∀ p, tmp = some p → ¬ O p ∧ p ∉ ios) → R tk outs → Q v H'

/-! ### a def's body -/
def slotsFrom : Nat → List Arg → DSt
  | _, [] => []
  | k, .v t :: r => some (.val t) :: slotsFrom k r
  | k, .io ts :: r => some (.io k ts) :: slotsFrom (k + 1) r
def nones : Nat → DSt
  | 0 => []
  | n + 1 => none :: nones n
def startT (n : Nat) (args : List Arg) : DSt := slotsFrom 0 args ++ nones (n - args.length)
def pioFrom : Nat → List Bool → List Nat
  | _, [] => []
  | i, true :: r => i :: pioFrom (i + 1) r
  | i, false :: r => pioFrom (i + 1) r
def outsOf (τ : DSt) : List Nat → Nat → (List (List T) → Prop) → Prop
  | [], _, k => k []
  | i :: r, j, k => match slotAt τ i with
    | some (.io m ts) => m = j ∧ outsOf τ r (j + 1) fun os => k (ts :: os)
    | _ => False
def retK (pio : List Nat) (R : Tok → List (List T) → Prop) : DK := fun tk τ => outsOf τ pio 0 fun outs => match tk with
  | .v t => R (.v t) outs
  | .fr ts => R (.fr ts) outs
  | .s i => match slotAt τ i with
    | some (.val t) => R (.v t) outs
    | some (.own ts) => R (.fr ts) outs
    | _ => False
def dFn (n : Nat) (modes : List Bool) (rd : DS) : DSp := fun args R => args.map Arg.lent = modes ∧ rd { nx := fun τ => retK (pioFrom 0 modes) R (.v .non) τ, rt := retK (pioFrom 0 modes) R } (startT n args)
def alFrom : List Arg → List Addr → List (Option Addr)
  | .v _ :: r, ios => none :: alFrom r ios
  | .io _ :: r, a :: ios => some a :: alFrom r ios
  | _, _ => []
section
variable {K : PySem.W.Frag} {M M' : Ms} {H H' : Hp}
theorem ArgsOk.lens : ∀ {vs : List V} {as : List Arg} {ios : List Addr} (k : Nat), ArgsOk K M H vs as ios → vs.length = as.length ∧ (alFrom as ios).length = as.length ∧ (slotsFrom k as).length = as.length ∧ (pioFrom k (as.map Arg.lent)).length = ios.length
  | _, _, _, _, .nil => ⟨rfl, rfl, rfl, rfl⟩
  | _, _, _, k, .v _ h => by
    obtain ⟨h1, h2, h3, _⟩ := h.lens k
    obtain ⟨_, _, _, h4⟩ := h.lens (k + 1)
    exact ⟨congrArg (· + 1) h1, congrArg (· + 1) h2, congrArg (· + 1) h3, h4⟩
  | _, _, _, k, .io _ _ h => by
    obtain ⟨h1, h2, h3, h4⟩ := h.lens (k + 1)
    exact ⟨congrArg (· + 1) h1, congrArg (· + 1) h2, congrArg (· + 1) h3, congrArg (· + 1) h4⟩
theorem ArgsOk.al : ∀ {vs : List V} {as : List Arg} {ios : List Addr}, ArgsOk K M H vs as ios → ∀ a, a ∈ ios ↔ ∃ i : Nat, (alFrom as ios)[i]? = some (some a)
  | _, _, _, .nil, a => ⟨fun h => by simp at h, fun ⟨i, h⟩ => by simp [alFrom] at h⟩
  | _, _, _, .v _ h, a => by
    rw [h.al a]
    exact ⟨fun ⟨i, e⟩ => ⟨i + 1, by simpa [alFrom] using e⟩, fun ⟨i, e⟩ => by
      cases i with
      | zero => simp [alFrom] at e
      | succ i => exact ⟨i, by simpa [alFrom] using e⟩⟩
  | _, _, _, .io (a := b) _ _ h, a => by
    rw [List.mem_cons, h.al a]
    refine ⟨fun z => ?_, fun ⟨i, e⟩ => ?_⟩
    · rcases z with rfl | ⟨i, e⟩
      · exact ⟨0, rfl⟩
      · exact ⟨i + 1, by simpa [alFrom] using e⟩
    · cases i with
      | zero => exact .inl (by simpa [alFrom] using e.symm)
      | succ i => exact .inr ⟨i, by simpa [alFrom] using e⟩
theorem ArgsOk.nd : ∀ {vs : List V} {as : List Arg} {ios : List Addr}, ArgsOk K M H vs as ios → ios.Nodup → ∀ (i j : Nat) (a : Addr), (alFrom as ios)[i]? = some (some a) → (alFrom as ios)[j]? = some (some a) → i = j
  | _, _, _, .nil, _, i, _, a, h, _ => by simp [alFrom] at h
  | _, _, _, .v _ h, n, i, j, a, e1, e2 => by
    cases i with
    | zero => simp [alFrom] at e1
    | succ i => cases j with
      | zero => simp [alFrom] at e2
      | succ j => rw [h.nd n i j a (by simpa [alFrom] using e1) (by simpa [alFrom] using e2)]
  | _, _, _, .io (a := b) _ _ h, n, i, j, a, e1, e2 => by
    obtain ⟨n1, n2⟩ := List.nodup_cons.mp n
    cases i with
    | zero =>
      cases j with
      | zero => rfl
      | succ j =>
        have e1' : b = a := by simpa [alFrom] using e1
        subst e1'
        exact absurd ((h.al b).mpr ⟨j, by simpa [alFrom] using e2⟩) n1
    | succ i =>
      cases j with
      | zero =>
        have e2' : b = a := by simpa [alFrom] using e2
        subst e2'
        exact absurd ((h.al b).mpr ⟨i, by simpa [alFrom] using e1⟩) n1
      | succ j => rw [h.nd n2 i j a (by simpa [alFrom] using e1) (by simpa [alFrom] using e2)]
theorem ArgsOk.slots : ∀ {vs : List V} {as : List Arg} {ios : List Addr}, ArgsOk K M H vs as ios → ∀ (k : Nat) (pre : List Addr), pre.length = k → ∀ (i : Nat) (s : Slot), (slotsFrom k as)[i]? = some (some s) →
    match s with
    | .val t => ∃ v, vs[i]? = some v ∧ VT K M H v t
    | .own _ => False
    | .io m ts => ∃ a ws, (pre ++ ios)[m]? = some a ∧ (alFrom as ios)[i]? = some (some a) ∧ vs[i]? = some (.ref a) ∧ H a = some (.lst ws) ∧ VTs K M H ws ts
  | _, _, _, .nil, _, _, _, i, s, h => by simp [slotsFrom] at h
  | _, _, _, .v hv h, k, pre, hp, i, s, e => by
    cases i with
    | zero =>
      simp [slotsFrom] at e
      subst e
      exact ⟨_, rfl, hv⟩
    | succ i =>
      have := h.slots k pre hp i s (by simpa [slotsFrom] using e)
      cases s <;> simpa [alFrom] using this
  | _, _, _, .io (a := b) (ios := ios) he hv h, k, pre, hp, i, s, e => by
    cases i with
    | zero =>
      simp [slotsFrom] at e
      subst e
      exact ⟨b, _, by rw [List.getElem?_append_right (by omega), hp, Nat.sub_self]; rfl, rfl, rfl, he, hv⟩
    | succ i =>
      have := h.slots (k + 1) (pre ++ [b]) (by simp [hp]) i s (by simpa [slotsFrom] using e)
      cases s <;> simpa [alFrom] using this
end
theorem nones_at : ∀ (n i : Nat), (nones n)[i]? = if i < n then some none else none
  | 0, i => by simp [nones]
  | n + 1, 0 => by simp [nones]
  | n + 1, i + 1 => by simp [nones, nones_at n i]
theorem nones_len : ∀ n, (nones n).length = n
  | 0 => rfl
  | n + 1 => congrArg (· + 1) (nones_len n)
section
variable {K : PySem.W.Frag} {O : Ms} {ios : List Addr} {H : Hp} {vs : List V} {args : List Arg}
def startA (n : Nat) (args : List Arg) (ios : List Addr) : List (Option Addr) := alFrom args ios ++ List.replicate (n - args.length) none
theorem startA_iff {n : Nat} (h : ArgsOk K (Me O ios none) H vs args ios) (i : Nat) (a : Addr) : (startA n args ios)[i]? = some (some a) ↔ (alFrom args ios)[i]? = some (some a) := by
  obtain ⟨_, h2, _, _⟩ := h.lens 0
  unfold startA
  by_cases hi : i < args.length
  · rw [List.getElem?_append_left (by omega)]
  · rw [List.getElem?_append_right (by omega)]
    rw [List.getElem?_eq_none (by omega : (alFrom args ios).length ≤ i)]
    rw [List.getElem?_replicate]
    split <;> simp
theorem start_now {N : List Str} (h : ArgsOk K (Me O ios none) H vs args ios) (nd : ios.Nodup) (nO : ∀ a ∈ ios, ¬ O a) (tr : ∀ a, O a → ∃ xs, H a = some (.lst xs)) (hn : vs.length ≤ N.length) :
    Now K O ios none (startA N.length args ios) (startT N.length args) (L2.start N vs) H ∧ ∀ a, Mu O (startA N.length args ios) none a ↔ Me O ios none a := by
  obtain ⟨h1, h2, h3, _⟩ := h.lens 0
  have mu : ∀ a, Mu O (startA N.length args ios) none a ↔ Me O ios none a := fun a => by
    unfold Mu Me
    rw [h.al a]
    simp only [startA_iff h]
  refine ⟨⟨?_, ?_, fun i s e => ?_, fun i j a e1 e2 => h.nd nd i j a ((startA_iff h i a).mp e1) ((startA_iff h j a).mp e2), fun i a e => nO a ((h.al a).mpr ⟨i, (startA_iff h i a).mp e⟩), fun _ z => (by cases z), fun a ha => ?_⟩, mu⟩
  · simp only [startT, L2.start, List.length_append, List.length_map, List.length_replicate, h3, nones_len]
    omega
  · simp only [startA, L2.start, List.length_append, List.length_map, List.length_replicate, h2]
    omega
  · have hi : i < args.length := by
      refine Nat.lt_of_not_le fun hi => ?_
      unfold startT at e
      rw [List.getElem?_append_right (by omega), nones_at] at e
      split at e <;> cases e
    unfold startT at e
    rw [List.getElem?_append_left (by omega)] at e
    have eσ : ∀ v, vs[i]? = some v → (L2.start N vs)[i]? = some (some v) := fun v ev => by
      unfold L2.start
      rw [List.getElem?_append_left (by rw [List.length_map]; omega), List.getElem?_map, ev]
      rfl
    have q := h.slots 0 [] rfl i s e
    have k : Kp0 (Me O ios none) H (Mu O (startA N.length args ios) none) H := .of_anti fun a z => (mu a).mp z
    cases s with
    | val t => obtain ⟨v, e1, e2⟩ := q; exact ⟨v, eσ v e1, e2.keep k⟩
    | own ts => exact q.elim
    | io m ts =>
      obtain ⟨a, ws, e0, e1, e2, e3, e4⟩ := q
      exact ⟨a, ws, by simpa using e0, (startA_iff h i a).mpr e1, eσ _ e2, e3, e4.keep k⟩
  · rcases (mu a).mp ha with z | z | z
    · exact tr a z
    · have aux : ∀ {vs : List V} {args : List Arg} {ios : List Addr} {M : Ms}, ArgsOk K M H vs args ios → a ∈ ios → ∃ xs, H a = some (.lst xs) := by
        intro vs args ios M h
        induction h with
        | nil => intro z; simp at z
        | v _ _ ih => exact ih
        | io e _ _ ih =>
          intro z
          rcases List.mem_cons.mp z with rfl | z
          · exact ⟨_, e⟩
          · exact ih z
      exact aux h z
    · cases z
/-- the lists that were lent, at the end -/
theorem outs_ok {io : List Addr} {tmp : Option Addr} {α : List (Option Addr)} {τ : DSt} {σ : L2.St} (n : Now K O io tmp α τ σ H) : ∀ (pio : List Nat) (j : Nat) (k : List (List T) → Prop), outsOf τ pio j k → io.length ≤ pio.length + j →
    ∃ outs, (∀ M', (∀ a, M' a → Mu O α tmp a) → OutsOk K M' H (io.drop j) outs) ∧ k outs ∧ ∀ a ∈ io.drop j, ∃ (i m : Nat) (ts : List T), α[i]? = some (some a) ∧ slotAt τ i = some (.io m ts)
  | [], j, k, h, hl => ⟨[], fun M' _ => by rw [List.drop_eq_nil_of_le (by simpa using hl)]; exact .nil, h, fun a ha => by rw [List.drop_eq_nil_of_le (by simpa using hl)] at ha; simp at ha⟩
  | i :: r, j, k, h, hl => by
    unfold outsOf at h
    split at h
    · next m ts e =>
      obtain ⟨rfl, h⟩ := h
      obtain ⟨a, ws, e0, e1, e2, e3, e4⟩ := n.slot i _ (slotAt_iff.mp e)
      have hm : m < io.length := (List.getElem?_eq_some_iff.mp e0).1
      have ea : io[m] = a := by rw [List.getElem?_eq_getElem hm] at e0; exact Option.some.inj e0
      obtain ⟨outs, h1, h2, h3⟩ := outs_ok n r (m + 1) _ h (by simp at hl; omega)
      refine ⟨ts :: outs, fun M' hM => ?_, h2, fun b hb => ?_⟩
      · rw [List.drop_eq_getElem_cons hm, ea]
        exact .cons e3 (e4.keep (.of_anti hM)) (h1 M' hM)
      · rw [List.drop_eq_getElem_cons hm, ea] at hb
        rcases List.mem_cons.mp hb with rfl | hb
        · exact ⟨i, m, ts, e1, e⟩
        · exact h3 b hb
    · exact h.elim
theorem fn_end {α : List (Option Addr)} {tmp : Option Addr} {τ : DSt} {σ : L2.St} {H0 : Hp} {v : V} {tk : Tok} {pio : List Nat} {R : Tok → List (List T) → Prop} {Q : VK} (n : Now K O ios tmp α τ σ H) (k : Kp O (Me O ios none) H0 (Mu O α tmp) H) (r : Res K O α tmp σ H v tk) (h : retK pio R tk τ) (hl : ios.length ≤ pio.length)
    (fin : ∀ v tk tmp outs H', Kp O (Me O ios none) H0 (Me O ios tmp) H' → OutsOk K (Me O ios tmp) H' ios outs → ResR K (Me O ios tmp) tmp H' v tk → (∀ p, tmp = some p → ¬ O p ∧ p ∉ ios) → R tk outs → Q v H') : Q v H := by
  obtain ⟨outs, h1, h2, h3⟩ := outs_ok n pio 0 _ h (by simpa using hl)
  rw [List.drop_zero] at h1 h3
  have sub : ∀ tmp' : Option Addr, (∀ p, tmp' = some p → Mu O α tmp p) → ∀ a, Me O ios tmp' a → Mu O α tmp a := fun tmp' ht a ha => by
    rcases ha with z | z | z
    · exact .inl z
    · exact (let ⟨i, _, _, e, _⟩ := h3 a z; .inr (.inl ⟨i, e⟩))
    · exact ht a z
  cases tk with
  | v t =>
    obtain ⟨rfl, r⟩ := r
    have s0 := sub none fun _ z => (by cases z)
    exact fin v (.v t) none outs H (k.anti s0) (h1 _ s0) ⟨rfl, r.keep (.of_anti s0)⟩ (fun _ z => (by cases z)) h2
  | fr ts =>
    obtain ⟨p, ws, rfl, rfl, e, hv⟩ := r
    have s0 := sub (some p) fun q z => by cases z; exact .inr (.inr rfl)
    obtain ⟨t1, t2⟩ := n.tm p rfl
    exact fin _ (.fr ts) (some p) outs H (k.anti s0) (h1 _ s0) ⟨p, ws, rfl, rfl, e, hv.keep (.of_anti s0)⟩ (fun q z => by
      cases z
      exact ⟨t1, fun z => let ⟨i, _, _, e, _⟩ := h3 p z; t2 i e⟩) h2
  | s i =>
    obtain ⟨rfl, r⟩ := r
    dsimp only at h2
    split at h2
    · next t e =>
      obtain ⟨v', e2, q⟩ := n.slot i _ (slotAt_iff.mp e)
      rw [r] at e2
      cases e2
      have s0 := sub none fun _ z => (by cases z)
      exact fin v (.v t) none outs H (k.anti s0) (h1 _ s0) ⟨rfl, q.keep (.of_anti s0)⟩ (fun _ z => (by cases z)) h2
    · next ts e =>
      obtain ⟨a, ws, e1, e2, e3, q⟩ := n.slot i _ (slotAt_iff.mp e)
      rw [r] at e2
      cases e2
      have s0 := sub (some a) fun q z => by cases z; exact .inr (.inl ⟨i, e1⟩)
      refine fin _ (.fr ts) (some a) outs H (k.anti s0) (h1 _ s0) ⟨a, ws, rfl, rfl, e3, q.keep (.of_anti s0)⟩ (fun p z => ?_) h2
      cases z
      refine ⟨n.nO i a e1, fun z => ?_⟩
      obtain ⟨i2, m, us, e5, e6⟩ := h3 a z
      rw [n.nd i2 i a e5 e1, e] at e6
      cases e6
    · exact h2.elim
end
section
variable {P : Program} {w : World} {K : PySem.W.Frag} {mg : Str → Option Value} {base : Heap}
/-! the rule for a def -/
theorem fn_ok {x qual : Str} {st : Stmt} {f : Addr} {fd : FuncData} {N ps : List Str} {k : Nat} {modes : List Bool} {rd : DS} (F : Fun K x qual st f fd) (S : FnScope N ps (defScope st)) (hm : modes.length = ps.length)
    (hN : ps.length ≤ N.length) (hb : ∀ (cdv : Value) (A : Around) (outer : List Env) (s : Shared) (H : Hp) (E : XK), Room k (A.deeper (envOfC qual (defScope st) s.heap.objs.size f cdv)) →
      QSs (cxOf CX0 P w K mg base N qual (defScope st) f cdv A outer s H E).nox (defBody st) rd) : FnOk P w K mg base CX0 (k + 1) f fd ps (liftSp K ps.length (dFn N.length modes rd)) := by
  refine F.ok S (fun vs H Q E h => h.1) fun cdv A outer s H vs Q E hr ⟨hl, O, ios, args, R, ha, nd, nO, tr, ⟨hmo, hd⟩, fin⟩ => ⟨_, hb cdv A outer s H E hr, ?_⟩
  obtain ⟨n, mu⟩ := start_now (N := N) ha nd nO tr (by rw [hl]; exact hN)
  have hlen : ios.length ≤ (pioFrom 0 modes).length := by
    obtain ⟨_, _, _, h4⟩ := ha.lens 0
    rw [← h4, hmo]
    exact Nat.le_refl _
  have k0 : ∀ {H1 : Hp} {M : Ms}, Kp O (Mu O (startA N.length args ios) none) H M H1 → Kp O (Me O ios none) H M H1 := fun {H1 M} k => (Kp.of_anti fun a z => (mu a).mp z).trans k
  exact ⟨O, ios, _, _, _, n, hd, fun α' τ' σ' H' n' k e => fn_end n' (k0 k) (tk := .v .non) ⟨rfl, .non⟩ e hlen fin, fun v tk tmp α' τ' σ' H' n' k r e => fn_end n' (k0 k) r e hlen fin, fun _ _ _ _ _ _ h => h, fun _ _ _ _ _ _ h => h⟩
end

/-! ### a call of a def -/
/-- an argument: a value, the list of a slot, a list made for the call alone -/
inductive PArg where
  | v (t : T) | s (i : Nat) | fr (ts : List T)
def frozeArgs : DSt → List Bool → List Tok → (List PArg → DSt → Prop) → Prop
  | τ, [], [], k => k [] τ
  | _, false :: _, .fr _ :: _, _ => False
  | τ, false :: m, tk :: r, k => froze τ tk fun t τ1 => frozeArgs τ1 m r fun ps τ2 => k (.v t :: ps) τ2
  | τ, true :: m, .s i :: r, k => frozeArgs τ m r fun ps τ2 => k (.s i :: ps) τ2
  | τ, true :: m, .fr ts :: r, k => frozeArgs τ m r fun ps τ2 => k (.fr ts :: ps) τ2
  | _, _, _, _ => False
def ioArgs (τ : DSt) : List PArg → (List Arg → List (Option Nat) → Prop) → Prop
  | [], k => k [] []
  | .v t :: r, k => ioArgs τ r fun as is => k (.v t :: as) is
  | .fr ts :: r, k => ioArgs τ r fun as is => k (.io ts :: as) (none :: is)
  | .s i :: r, k => match ownOf (slotAt τ i) with
    | some (ts, _) => ioArgs τ r fun as is => k (.io ts :: as) (some i :: is)
    | none => False
def putAll : DSt → List (Option Nat) → List (List T) → (DSt → Prop) → Prop
  | τ, [], [], k => k τ
  | τ, none :: r, _ :: o, k => putAll τ r o k
  | τ, some i :: r, ts :: o, k => match ownOf (slotAt τ i) with
    | some (_, mk) => putAll (setSlot τ i (some (mk ts))) r o k
    | none => False
  | _, _, _, _ => False
/-- f(..): the arguments as modes say (true: a list that is lent), the defaults dts behind -/
def dCall (d : DSp) (modes : List Bool) (dts : List T) (ta : DA) : DE := fun τ Q => ta τ fun tks τ1 => frozeArgs τ1 modes tks fun ps τ2 => ioArgs τ2 ps fun as is => is.Nodup ∧ d (as ++ dts.map .v) fun tk outs => putAll τ2 is outs fun τ3 => Q tk τ3
/-- .. with one list that is made for the call -/
def dConsF (te : DE) (ta : DA) : DA := fun τ Q => te τ fun tk τ1 => match tk with
  | .fr ts => ta τ1 fun tks τ2 => Q (.fr ts :: tks) τ2
  | _ => False
def Ovo (O : Ms) (tp : Option Addr) : Ms := fun a => O a ∨ tp = some a
theorem Ovo.none (O : Ms) : Ovo O none = O := funext fun a => propext ⟨fun h => h.elim id fun z => (by cases z), .inl⟩
inductive ToksF (K : PySem.W.Frag) (M : Ms) (σ : L2.St) (H : Hp) (tp : Option Addr) : List V → List Tok → Prop
  | nil : ToksF K M σ H tp [] []
  | cons {v : V} {vs : List V} {t : Tok} {ts : List Tok} : TokOk K M σ H v t → ToksF K M σ H tp vs ts → ToksF K M σ H tp (v :: vs) (t :: ts)
  | fr {p : Addr} {ws : List V} {us : List T} {vs : List V} {ts : List Tok} : tp = some p → H p = some (.lst ws) → VTs K M H ws us → ToksF K M σ H tp vs ts → ToksF K M σ H tp (.ref p :: vs) (.fr us :: ts)
def liftF (K : PySem.W.Frag) (t : DA) : TA := fun σ H Q => ∃ (O : Ms) (io : List Addr) (α : List (Option Addr)) (τ : DSt) (R : List Tok → DSt → Prop), Now K O io none α τ σ H ∧ t τ R ∧
  ∀ vs tks tp α' τ' H', Now K (Ovo O tp) io none α' τ' σ H' → (∀ p, tp = some p → ¬ O p) → Kp O (Mu O α none) H (Mu (Ovo O tp) α' none) H' → ToksF K (Mu (Ovo O tp) α' none) σ H' tp vs tks → R tks τ' → Q vs H'
abbrev QF (X : Cx) (es : List Expr) (t : DA) : Prop := PA X es (liftF X.K t)
theorem ToksOk.toF {K : PySem.W.Frag} {M : Ms} {σ : L2.St} {H : Hp} {tp : Option Addr} {vs : List V} {tks : List Tok} (h : ToksOk K M σ H vs tks) : ToksF K M σ H tp vs tks := by
  induction h with
  | nil => exact .nil
  | cons h _ ih => exact .cons h ih
section
variable {X : Cx} {e : Expr} {es : List Expr} {te : DE} {ta : DA}
theorem qf_of (h : QA X es ta) : QF X es ta := PAmono h fun σ H Q ⟨O, io, α, τ, R, n, h, fin⟩ => ⟨O, io, α, τ, R, n, h, fun vs tks α' τ' H' n' k' r c =>
  fin vs tks none α' τ' H' (by rw [Ovo.none]; exact n') (fun _ z => (by cases z)) (by rw [Ovo.none]; exact k') (by rw [Ovo.none]; exact r.toF) c⟩
theorem Ovo.ov {O : Ms} {p : Addr} : Ov O p = Ovo O (some p) := funext fun a => propext ⟨fun h => h.imp id fun z => congrArg some z.symm, fun h => h.imp id fun z => (Option.some.inj z).symm⟩
theorem qf_here (he : QE X e te) (ha : QA X es ta) (hs : starEach (e :: es) X.env = (false, eval e X.env) :: starEach es X.env := by rfl) : QF X (e :: es) (dConsF te ta) :=
  PAmono (pa_cons he ha hs) fun σ H Q ⟨O, io, α, τ, R, n, h, fin⟩ => ⟨O, io, α, τ, _, n, h, fun v tk tmp α1 τ1 H1 n1 k1 r1 c1 => by
    cases tk with
    | fr us =>
      obtain ⟨p, ws, rfl, rfl, e1, hv⟩ := r1
      have nO := (n1.tm p rfl).1
      have n2 := n1.over e1
      have hv2 : VTs X.K (Mu (Ov O p) α1 none) H1 ws us := hv.keep (.of_anti Ov.into)
      refine ⟨Ov O p, io, α1, τ1, _, n2, c1, fun vs tks α2 τ2 H2 n3 k3 r3 c3 => ?_⟩
      have e2 : H2 p = some (.lst ws) := (k3.far p (.inr rfl)).trans e1
      have far : Kp O (Mu (Ov O p) α1 none) H1 (Mu (Ov O p) α2 none) H2 := ⟨k3.toKp0, fun a z => k3.far a (.inl z)⟩
      have kk := (k1.trans (Kp.of_anti (O := O) (H := H1) Ov.into)).trans far
      exact fin (.ref p :: vs) (.fr us :: tks) (some p) α2 τ2 H2 (by rw [← Ovo.ov]; exact n3) (fun q z => by cases z; exact nO) (by rw [← Ovo.ov]; exact kk) (by rw [← Ovo.ov]; exact .fr rfl e2 (hv2.keep k3.toKp0) r3.toF) c3
    | _ => exact c1.elim⟩
theorem qf_skip (he : QE X e te) (ha : QF X es ta) (hs : starEach (e :: es) X.env = (false, eval e X.env) :: starEach es X.env := by rfl) : QF X (e :: es) (dCons te ta) :=
  PAmono (pa_cons he ha hs) fun σ H Q ⟨O, io, α, τ, R, n, h, fin⟩ =>
    one n h fun v tk α1 τ1 H1 n1 k1 r1 c1 => ⟨O, io, α1, τ1, _, n1, c1, fun vs tks tp α2 τ2 H2 n2 hp k2 r2 c2 => fin (v :: vs) (weak tk :: tks) tp α2 τ2 H2 n2 hp (k1.trans k2) (.cons (r1.keep k2.toKp0) r2) c2⟩
end
inductive PArgsOk (K : PySem.W.Frag) (M : Ms) (σ : L2.St) (H : Hp) (tp : Option Addr) : List V → List PArg → Prop
  | nil : PArgsOk K M σ H tp [] []
  | v {x : V} {t : T} {xs : List V} {ps : List PArg} : VT K M H x t → PArgsOk K M σ H tp xs ps → PArgsOk K M σ H tp (x :: xs) (.v t :: ps)
  | s {x : V} {i : Nat} {xs : List V} {ps : List PArg} : σ[i]? = some (some x) → PArgsOk K M σ H tp xs ps → PArgsOk K M σ H tp (x :: xs) (.s i :: ps)
  | fr {p : Addr} {ws : List V} {us : List T} {xs : List V} {ps : List PArg} : tp = some p → H p = some (.lst ws) → VTs K M H ws us → PArgsOk K M σ H tp xs ps → PArgsOk K M σ H tp (.ref p :: xs) (.fr us :: ps)
section
variable {K : PySem.W.Frag} {O : Ms} {io : List Addr} {σ : L2.St} {H : Hp} {tp : Option Addr}
theorem ToksF.keep {M M' : Ms} {H' : Hp} {vs : List V} {tks : List Tok} (h : ToksF K M σ H tp vs tks) (k : Kp0 M H M' H') (w : ∀ p xs, tp = some p → H p = some (.lst xs) → H' p = some (.lst xs)) : ToksF K M' σ H' tp vs tks := by
  induction h with
  | nil => exact .nil
  | cons h _ ih => exact .cons (h.keep k) ih
  | fr e1 e2 h _ ih => exact .fr e1 (w _ _ e1 e2) (h.keep k) ih
theorem frozeArgs_ok : ∀ {vs : List V} {modes : List Bool} {tks : List Tok} {α : List (Option Addr)} {τ : DSt} {k : List PArg → DSt → Prop}, Now K O io none α τ σ H → ToksF K (Mu O α none) σ H tp vs tks → frozeArgs τ modes tks k →
    ∃ ps α' τ', Now K O io none α' τ' σ H ∧ (∀ a, Mu O α' none a → Mu O α none a) ∧ PArgsOk K (Mu O α' none) σ H tp vs ps ∧ vs.length = modes.length ∧ k ps τ'
  | _, [], [], α, τ, k, n, .nil, h => ⟨[], α, τ, n, fun _ z => z, .nil, rfl, h⟩
  | _, false :: m, .v u :: r, α, τ, k, n, .cons h1 hs, h => by
    obtain ⟨t, α1, τ1, n1, a1, q1, h⟩ := froze_ok (tk := .v u) n h1 h
    obtain ⟨ps, α2, τ2, n2, a2, q2, l2, h⟩ := frozeArgs_ok n1 (hs.keep (.of_anti a1) fun _ _ _ z => z) h
    exact ⟨_, α2, τ2, n2, fun a z => a1 a (a2 a z), .v (q1.keep (.of_anti a2)) q2, congrArg (· + 1) l2, h⟩
  | _, false :: m, .s i :: r, α, τ, k, n, .cons h1 hs, h => by
    obtain ⟨t, α1, τ1, n1, a1, q1, h⟩ := froze_ok (tk := .s i) n h1 h
    obtain ⟨ps, α2, τ2, n2, a2, q2, l2, h⟩ := frozeArgs_ok n1 (hs.keep (.of_anti a1) fun _ _ _ z => z) h
    exact ⟨_, α2, τ2, n2, fun a z => a1 a (a2 a z), .v (q1.keep (.of_anti a2)) q2, congrArg (· + 1) l2, h⟩
  | _, false :: m, .fr us :: r, α, τ, k, n, _, h => h.elim
  | _, true :: m, .s i :: r, α, τ, k, n, .cons h1 hs, h => by
    obtain ⟨ps, α2, τ2, n2, a2, q2, l2, h⟩ := frozeArgs_ok n hs h
    exact ⟨_, α2, τ2, n2, a2, .s h1 q2, congrArg (· + 1) l2, h⟩
  | _, true :: m, .fr us :: r, α, τ, k, n, .fr e1 e2 h1 hs, h => by
    obtain ⟨ps, α2, τ2, n2, a2, q2, l2, h⟩ := frozeArgs_ok n hs h
    exact ⟨_, α2, τ2, n2, a2, .fr e1 e2 (h1.keep (.of_anti a2)) q2, congrArg (· + 1) l2, h⟩
  | _, true :: m, .fr us :: r, α, τ, k, n, .cons h1 hs, h => h1.elim
  | _, true :: _, .v _ :: _, _, _, _, _, _, h => h.elim
  | _, [], _ :: _, _, _, _, _, _, h => h.elim
  | _, true :: _, [], _, _, _, _, _, h => h.elim
  | _, false :: _, [], _, _, _, _, _, h => h.elim
/-- the addresses of the slots is (none: of the list made for the call) -/
inductive AddrsOf (α : List (Option Addr)) (tp : Option Addr) : List (Option Nat) → List Addr → Prop
  | nil : AddrsOf α tp [] []
  | cons {i : Nat} {a : Addr} {is : List (Option Nat)} {as : List Addr} : α[i]? = some (some a) → AddrsOf α tp is as → AddrsOf α tp (some i :: is) (a :: as)
  | tmp {a : Addr} {is : List (Option Nat)} {as : List Addr} : tp = some a → AddrsOf α tp is as → AddrsOf α tp (none :: is) (a :: as)
theorem ioArgs_ok {α : List (Option Addr)} {τ : DSt} (n : Now K O io none α τ σ H) {M : Ms} (hM : ∀ a, M a → Mu O α none a) : ∀ {vs : List V} {ps : List PArg} {k : List Arg → List (Option Nat) → Prop}, PArgsOk K (Mu O α none) σ H tp vs ps → ioArgs τ ps k →
    ∃ as is ios, ArgsOk K M H vs as ios ∧ AddrsOf α tp is ios ∧ k as is
  | _, _, k, .nil, h => ⟨[], [], [], .nil, .nil, h⟩
  | _, _, k, .v h1 hs, h => by
    obtain ⟨as, is, ios, q1, q2, h⟩ := ioArgs_ok n hM hs h
    exact ⟨_, is, ios, .v (h1.keep (.of_anti hM)) q1, q2, h⟩
  | _, _, k, .fr e1 e2 hv hs, h => by
    obtain ⟨as, is, ios, q1, q2, h⟩ := ioArgs_ok n hM hs h
    exact ⟨_, _, _, .io e2 (hv.keep (.of_anti hM)) q1, .tmp e1 q2, h⟩
  | _, _, k, .s (i := i) h1 hs, h => by
    unfold ioArgs at h
    split at h
    · next ts mk e =>
      obtain ⟨a, ws, e1, e2, e3, hv, _⟩ := own_at n e
      rw [h1] at e2
      cases e2
      obtain ⟨as, is, ios, q1, q2, h⟩ := ioArgs_ok n hM hs h
      exact ⟨_, _, _, .io e3 (hv.keep (.of_anti hM)) q1, .cons e1 q2, h⟩
    · exact h.elim
theorem AddrsOf.mem {α : List (Option Addr)} : ∀ {is : List (Option Nat)} {as : List Addr}, AddrsOf α tp is as → ∀ a, a ∈ as → (∃ i, some i ∈ is ∧ α[i]? = some (some a)) ∨ (none ∈ is ∧ tp = some a)
  | _, _, .nil, a, h => by simp at h
  | _, _, .cons e h, a, z => by
    rcases List.mem_cons.mp z with rfl | z
    · exact .inl ⟨_, List.mem_cons_self, e⟩
    · rcases h.mem a z with ⟨i, h1, h2⟩ | ⟨h1, h2⟩
      · exact .inl ⟨i, List.mem_cons_of_mem _ h1, h2⟩
      · exact .inr ⟨List.mem_cons_of_mem _ h1, h2⟩
  | _, _, .tmp e h, a, z => by
    rcases List.mem_cons.mp z with rfl | z
    · exact .inr ⟨List.mem_cons_self, e⟩
    · rcases h.mem a z with ⟨i, h1, h2⟩ | ⟨h1, h2⟩
      · exact .inl ⟨i, List.mem_cons_of_mem _ h1, h2⟩
      · exact .inr ⟨List.mem_cons_of_mem _ h1, h2⟩
theorem AddrsOf.mem' {α : List (Option Addr)} : ∀ {is : List (Option Nat)} {as : List Addr}, AddrsOf α tp is as → ∀ i, some i ∈ is → ∃ a ∈ as, α[i]? = some (some a)
  | _, _, .nil, a, h => by simp at h
  | _, _, .cons e h, i, z => by
    rcases List.mem_cons.mp z with z | z
    · cases z; exact ⟨_, List.mem_cons_self, e⟩
    · obtain ⟨a, h1, h2⟩ := h.mem' i z
      exact ⟨a, List.mem_cons_of_mem _ h1, h2⟩
  | _, _, .tmp e h, i, z => by
    rcases List.mem_cons.mp z with z | z
    · cases z
    · obtain ⟨a, h1, h2⟩ := h.mem' i z
      exact ⟨a, List.mem_cons_of_mem _ h1, h2⟩
theorem AddrsOf.nodup {α : List (Option Addr)} (inj : ∀ (i j : Nat) (a : Addr), α[i]? = some (some a) → α[j]? = some (some a) → i = j) (hp : ∀ p (i : Nat), tp = some p → α[i]? ≠ some (some p)) : ∀ {is : List (Option Nat)} {as : List Addr}, AddrsOf α tp is as → is.Nodup → as.Nodup
  | _, _, .nil, _ => List.nodup_nil
  | _, _, .cons e h, n => by
    obtain ⟨n1, n2⟩ := List.nodup_cons.mp n
    refine List.nodup_cons.mpr ⟨fun z => ?_, h.nodup inj hp n2⟩
    rcases h.mem _ z with ⟨j, h1, h2⟩ | ⟨_, h2⟩
    · rw [inj _ _ _ e h2] at n1
      exact n1 h1
    · exact hp _ _ h2 e
  | _, _, .tmp e h, n => by
    obtain ⟨n1, n2⟩ := List.nodup_cons.mp n
    refine List.nodup_cons.mpr ⟨fun z => ?_, h.nodup inj hp n2⟩
    rcases h.mem _ z with ⟨j, h1, h2⟩ | ⟨h1, _⟩
    · exact hp _ _ e h2
    · exact n1 h1
theorem ownOf_mk {s : Option Slot} {ts : List T} {mk : List T → Slot} (h : ownOf s = some (ts, mk)) : ∀ us, ownOf (some (mk us)) = some (us, mk) := by
  unfold ownOf at h
  split at h <;> cases h <;> exact fun _ => rfl
theorem slotAt_set {τ : DSt} {i j : Nat} {y : Option Slot} (h : j ≠ i) : slotAt (setSlot τ i y) j = slotAt τ j := by
  cases e : slotAt τ j with
  | some s =>
    rw [slotAt_iff, setSlot_eq, set_off h]
    exact slotAt_iff.mp e
  | none =>
    cases e2 : slotAt (setSlot τ i y) j with
    | none => rfl
    | some s =>
      rw [slotAt_iff, setSlot_eq, set_off h, ← slotAt_iff, e] at e2
      cases e2
/-- the lists behind a call -/
theorem put_now {tmp : Option Addr} {α : List (Option Addr)} {H' : Hp} {M : Ms} (hM : ∀ a, Mu O α tmp a → M a) : ∀ {is : List (Option Nat)} {ios : List Addr} {outs : List (List T)} {τ : DSt} {k : DSt → Prop},
    AddrsOf α tp is ios → OutsOk K M H' ios outs → is.Nodup → putAll τ is outs k →
    (τ.length = σ.length) → (∀ i s, some i ∉ is → τ[i]? = some (some s) → SlotOk K (Mu O α tmp) io H' σ α i s) → (∀ i a, α[i]? = some (some a) → ∀ ts mk, ownOf (slotAt τ i) = some (ts, mk) → σ[i]? = some (some (.ref a)) ∧ ∀ m us, mk us = .io m us → io[m]? = some a) →
    ∃ τ', k τ' ∧ τ'.length = σ.length ∧ ∀ i s, τ'[i]? = some (some s) → SlotOk K (Mu O α tmp) io H' σ α i s
  | _, _, _, τ, k, .nil, .nil, _, h, hl, hs, _ => ⟨τ, h, hl, fun i s e => hs i s (by simp) e⟩
  | _, _, _, τ, k, .tmp _ hA, .cons _ _ hO, nd, h, hl, hs, ho => put_now hM hA hO (List.nodup_cons.mp nd).2 h hl (fun i s hi e => hs i s (fun z => (List.mem_cons.mp z).elim (fun z => by cases z) hi) e) ho
  | _, _, _, τ, k, .cons (i := i) (a := a) ea hA, .cons (vs := ws) (ts := ts) e hv hO, nd, h, hl, hs, ho => by
    obtain ⟨n1, n2⟩ := List.nodup_cons.mp nd
    unfold putAll at h
    split at h
    · next ts0 mk em =>
      obtain ⟨eσ, eio⟩ := ho i a ea _ _ em
      refine put_now hM hA hO n2 h (by rw [setSlot_eq, List.length_set]; exact hl) (fun j s hj es => ?_) fun j b eb us mk' em' => ?_
      · rw [setSlot_eq] at es
        by_cases hji : j = i
        · subst hji
          have hlt : j < (τ.set j (some (mk ts))).length := (List.getElem?_eq_some_iff.mp es).1
          rw [List.length_set] at hlt
          rw [set_at hlt] at es
          cases es
          have q := ownOf_mk em ts
          have hv' : VTs K (Mu O α tmp) H' ws ts := hv.keep (.of_anti hM)
          cases hmk : mk ts with
          | val t => rw [hmk] at q; cases q
          | own us =>
            rw [hmk] at q
            obtain ⟨q1, _⟩ := Prod.mk.inj (Option.some.inj q)
            rw [q1]
            exact ⟨a, ws, ea, eσ, e, hv'⟩
          | io m us =>
            rw [hmk] at q
            obtain ⟨q1, q2⟩ := Prod.mk.inj (Option.some.inj q)
            rw [q1]
            exact ⟨a, ws, eio m ts (by rw [← q2]), ea, eσ, e, hv'⟩
        · rw [set_off hji] at es
          exact hs j s (fun z => (List.mem_cons.mp z).elim (fun z => hji (Option.some.inj z)) hj) es
      · by_cases hji : j = i
        · subst hji
          have hsl : ownOf (slotAt (setSlot τ j (some (mk ts))) j) = some (ts, mk) := by
            have hlt : j < τ.length := by
              refine Nat.lt_of_not_le fun z => ?_
              have : slotAt τ j = none := by
                cases e2 : slotAt τ j with
                | none => rfl
                | some s =>
                  have := slotAt_iff.mp e2
                  rw [List.getElem?_eq_none z] at this
                  cases this
              rw [this] at em
              cases em
            have : slotAt (setSlot τ j (some (mk ts))) j = some (mk ts) := by rw [slotAt_iff, setSlot_eq, set_at hlt]
            rw [this]
            exact ownOf_mk em ts
          rw [hsl] at em'
          cases em'
          exact ho j b eb _ _ em
        · rw [slotAt_set hji] at em'
          exact ho j b eb _ _ em'
    · exact h.elim
end
section
variable {X : Cx} {k : Nat} {f : Addr} {fd : FuncData} {ps : List Str} {d : DSp} {dvs : List V} {ds : List Value} {x : Str} {p pos : Pos} {e : Expr} {es : List Expr} {ta : DA} {m : Nat} {modes : List Bool} {dts : List T}
theorem ArgsOk.app {K : PySem.W.Frag} {M : Ms} {H : Hp} : ∀ {vs : List V} {as : List Arg} {ios : List Addr} {ws : List V} {ts : List T}, ArgsOk K M H vs as ios → VTs K M H ws ts → ArgsOk K M H (vs ++ ws) (as ++ ts.map .v) ios
  | _, _, _, _, _, .nil, h => by
    have aux : ∀ {ws : List V} {ts : List T}, VTs K M H ws ts → ArgsOk K M H ws (ts.map .v) [] := by
      intro ws
      induction ws with
      | nil => intro ts h; cases h; exact .nil
      | cons w ws ih => intro ts h; cases h with
        | cons h hs => exact .v h (ih hs)
    exact aux h
  | _, _, _, _, _, .v h1 hs, h => .v h1 (hs.app h)
  | _, _, _, _, _, .io h1 h2 hs, h => .io h1 h2 (hs.app h)
theorem ArgsOk.anti {K : PySem.W.Frag} {M M' : Ms} {H : Hp} {vs : List V} {as : List Arg} {ios : List Addr} (s : ∀ a, M' a → M a) (h : ArgsOk K M H vs as ios) : ArgsOk K M' H vs as ios := by
  induction h with
  | nil => exact .nil
  | v h _ ih => exact .v (h.keep (.of_anti s)) ih
  | io e h _ ih => exact .io e (h.keep (.of_anti s)) ih
theorem OutsOk.at {K : PySem.W.Frag} {M : Ms} {H : Hp} {a : Addr} {ios : List Addr} {outs : List (List N1.T)} (h : OutsOk K M H ios outs) : a ∈ ios → ∃ xs, H a = some (.lst xs) := by
  induction h with
  | nil => intro z; simp at z
  | cons e _ _ ih =>
    intro z
    rcases List.mem_cons.mp z with rfl | z
    · exact ⟨_, e⟩
    · exact ih z
theorem call_lift (hd : ∀ M H, VTs X.K M H dvs dts) (hm : modes.length + dts.length = m) {σ : L2.St} {H : Hp} {Q : VK} {E : XK} (h : liftE X.K (dCall d modes dts ta) σ H Q) : tCall (liftSp X.K m d) dvs E (liftF X.K ta) σ H Q := by
  obtain ⟨O, io, α, τ, R, n, h, fin⟩ := h
  refine ⟨O, io, α, τ, _, n, h, fun vs tks tp α1 τ1 H1 n1 hp1 k1 r1 c => ?_⟩
  obtain ⟨pa, α2, τ2, n2, a2, q2, l2, c⟩ := frozeArgs_ok n1 r1 c
  obtain ⟨as, is, ios, q3, hA, nd, c⟩ := ioArgs_ok n2 (M := Mu (Ovo O tp) α2 none) (fun _ z => z) q2 c
  -- what the callee must not touch: all but what is lent
  have hO' : ∀ a, Me (fun a => O a ∨ (∃ i, α2[i]? = some (some a) ∧ some i ∉ is)) ios none a → Mu (Ovo O tp) α2 none a := by
    rintro a ((z | ⟨i, z, _⟩) | z | z)
    · exact .inl (.inl z)
    · exact .inr (.inl ⟨i, z⟩)
    · rcases hA.mem a z with ⟨i, _, z⟩ | ⟨_, z⟩
      · exact .inr (.inl ⟨i, z⟩)
      · exact .inl (.inr z)
    · cases z
  have hback : ∀ a, Mu O α2 none a → Me (fun a => O a ∨ (∃ i, α2[i]? = some (some a) ∧ some i ∉ is)) ios none a := by
    rintro a (z | ⟨i, z⟩ | z)
    · exact .inl (.inl z)
    · by_cases hi : some i ∈ is
      · obtain ⟨b, hb, e⟩ := hA.mem' i hi
        rw [z] at e
        cases e
        exact .inr (.inl hb)
      · exact .inl (.inr ⟨i, z, hi⟩)
    · cases z
  have q3' := q3.anti hO'
  have hlen : (vs ++ dvs).length = m := by
    rw [List.length_append, l2, (hd (fun _ => False) H1).length]
    exact hm
  have hpα : ∀ p (i : Nat), tp = some p → α2[i]? ≠ some (some p) := fun p i hp e => n2.nO i p e (.inr hp)
  have weakM : ∀ a, Mu O α2 none a → Mu (Ovo O tp) α2 none a := fun a z => by
    rcases z with z | z | z
    · exact .inl (.inl z)
    · exact .inr (.inl z)
    · cases z
  refine ⟨hlen, fun a => O a ∨ (∃ i, α2[i]? = some (some a) ∧ some i ∉ is), ios, as ++ dts.map .v, _, q3'.app (hd _ _), hA.nodup n2.nd hpα nd, ?_, ?_, c, ?_⟩
  · intro a ha z
    rcases hA.mem a ha with ⟨j, hj, e⟩ | ⟨_, e⟩
    · rcases z with z | ⟨i, z, hi⟩
      · exact n2.nO j a e (.inl z)
      · rw [n2.nd i j a z e] at hi
        exact hi hj
    · rcases z with z | ⟨i, z, hi⟩
      · exact hp1 a e z
      · exact hpα a i e z
  · rintro a (z | ⟨i, z, _⟩)
    · exact n2.tr a (.inl (.inl z))
    · exact n2.tr a (.inr (.inl ⟨i, z⟩))
  · intro v tk tmp outs H' k3 hO r3 ht hp
    have eT : ∀ a, Mu O α2 tmp a → Me (fun a => O a ∨ (∃ i, α2[i]? = some (some a) ∧ some i ∉ is)) ios tmp a := fun a z => by
      rcases z with z | z | z
      · exact .inl (.inl z)
      · rcases hback a (.inr (.inl z)) with z | z | z
        · exact .inl z
        · exact .inr (.inl z)
        · cases z
      · exact .inr (.inr z)
    have k4 : Kp O (Mu (Ovo O tp) α2 none) H1 (Mu O α2 tmp) H' := by
      have k5 : Kp0 (Mu (Ovo O tp) α2 none) H1 (Mu O α2 tmp) H' := (Kp0.of_anti hO').trans (k3.toKp0.anti eT)
      exact ⟨k5, fun a z => k3.far a (.inl z)⟩
    obtain ⟨τ3, c3, hl3, hs3⟩ := put_now (K := X.K) (O := O) (io := io) (σ := σ) (tmp := tmp) eT hA hO nd hp n2.lenT (fun i s hi es => (n2.slot i s es).keep k4.toKp0 fun a ws e1 e2 => (k3.far a (.inr ⟨i, e1, hi⟩)).trans e2) fun i a ea ts mk em => by
      obtain ⟨b, ws, e1, e2, e3, hv, _⟩ := own_at n2 em
      rw [ea] at e1
      cases e1
      refine ⟨e2, fun j us hm => ?_⟩
      cases es : slotAt τ2 i with
      | none => rw [es] at em; cases em
      | some s =>
        rw [es] at em
        cases s with
        | val t => cases em
        | own us' => cases em; cases hm
        | io j' us' =>
          cases em
          cases hm
          obtain ⟨b, ws, z0, z1, _⟩ := n2.slot i _ (slotAt_iff.mp es)
          rw [ea] at z1
          cases z1
          exact z0
    have nw : Now X.K O io tmp α2 τ3 σ H' := by
      refine ⟨hl3, n2.lenA, hs3, n2.nd, fun i a e z => n2.nO i a e (.inl z), fun p z => ?_, fun a ha => ?_⟩
      · obtain ⟨t1, t2⟩ := ht p z
        refine ⟨fun y => t1 (.inl y), fun i e => ?_⟩
        by_cases hi : some i ∈ is
        · obtain ⟨b, hb, e'⟩ := hA.mem' i hi
          rw [e] at e'
          cases e'
          exact t2 hb
        · exact t1 (.inr ⟨i, e, hi⟩)
      · rcases hback a ha with z | z | z
        · rw [k3.far a z]
          exact n2.tr a (weakM a ha)
        · exact hO.at z
        · cases z
    refine fin v tk tmp α2 τ3 H' nw ((k1.trans (.of_anti a2)).trans k4) ?_ c3
    cases tk with
    | v t =>
      obtain ⟨rfl, r3⟩ := r3
      exact ⟨rfl, r3.keep (.of_anti eT)⟩
    | s i => exact r3.elim
    | fr ts =>
      obtain ⟨p, ws, rfl, rfl, e, hv⟩ := r3
      exact ⟨p, ws, rfl, rfl, e, hv.keep (.of_anti eT)⟩
theorem qe_call (F : FnOk X.prog X.w X.K X.mg X.base CX0 k f fd ps (liftSp X.K m d)) (hr : Room k X.A) (hg : Gl X x) (hmg : X.mg x = some (.ref f)) (hk : PySem.W.keepIn X.K (.ref f) = true) (hb : Binds X.K fd ps ds) (hd : Vals dvs ds) (hdt : ∀ M H, VTs X.K M H dvs dts)
    (hm : modes.length + dts.length = m) (ha : QF X (e :: es) ta) (hdb : (x == ("__debug__" : Str)) = false := by decide) (he : starEach (e :: es) X.env = (false, eval e X.env) :: starEach es X.env := by rfl) (hpl : (backTo pos (starEach es X.env)).any (·.1) = false := by rfl) :
    QE X (.Call (.Name x p) (e :: es) [] pos) (dCall d modes dts ta) :=
  PEmono (pe_call F hr hg hmg hk hb hd (pass0 (X := X)) ha hdb he hpl) fun _ _ _ => call_lift hdt hm
theorem qe_call0 (F : FnOk X.prog X.w X.K X.mg X.base CX0 k f fd ps (liftSp X.K m d)) (hr : Room k X.A) (hg : Gl X x) (hmg : X.mg x = some (.ref f)) (hk : PySem.W.keepIn X.K (.ref f) = true) (hb : Binds X.K fd ps ds) (hd : Vals dvs ds) (hdt : ∀ M H, VTs X.K M H dvs dts)
    (hm : modes.length + dts.length = m) (hdb : (x == ("__debug__" : Str)) = false := by decide) : QE X (.Call (.Name x p) [] [] pos) (dCall d modes dts dNil) :=
  PEmono (pe_call0 F hr hg hmg hk hb hd (pass0 (X := X)) hdb) fun σ H Q h => by
    have z := call_lift (X := X) (E := E0) hdt hm h
    obtain ⟨O, io, α, τ, R, n, h, fin⟩ := z
    exact fin [] [] none α τ H (by rw [Ovo.none]; exact n) (fun _ z => (by cases z)) (by rw [Ovo.none]; exact .refl) .nil h
end
/-! names of the top: constants -/
section
variable {X : Cx}
theorem qe_glob {x : Str} {v : V} {u : Value} {t : T} {pos : Pos} (hg : Gl X x) (hm : X.mg x = some u) (r : RelV v u) (h : ∀ M H, VT X.K M H v t) (hd : (x == ("__debug__" : Str)) = false := by decide) : QE X (.Name x pos) (dC t) := qe_const (pe_glob hg hm r hd) h
theorem lc_asg {i : Nat} {K : PySem.W.Frag} {vs : List Nat} {d : DI} {g : DG} {tt : DT} {te : DE} {D : Ends} {σ : L2.St} {H : Hp} (h : liftS K (dAsg i (dLc vs d g tt te)) D σ H) : tAsg (tLc (liftI K d) (liftG K vs g) (liftT K tt) (liftE K te) vs) (gName i) D σ H := by
  obtain ⟨O, io, α, τ, E, n, h, l1, _, _, _⟩ := h
  exact lc_lift (Q := fun x H1 => gName i x σ H1 D.nx) ⟨O, io, α, τ, _, n, h, fun v tk tmp α' τ' H' n' k r c => asg_ok n' k r c l1⟩
theorem qs_setLc {i : Nat} {y : Str} {py : Pos} {elt tg iter : Expr} {ifs : List Expr} {scope : Scope} {own : List (Str × Nat)} {pos spos : Pos} {d : DI} {g : DG} {tt : DT} {te : DE} (hc : X.calm = true) (hN : X.N.Nodup) (hy : X.N[i]? = some y) (hyl : X.env.scope.names.lookup y = some .local)
    (hsw : swapsWith (.ListComp elt [⟨tg, iter, ifs, 0⟩] scope pos) (some (.Name y py)) spos.line X.env = pure true) (hi : QI X tg iter d) (ok : BlkOk X.N X.env.scope scope own)
    (hg : ∀ (s : Shared) (H : Hp) (C : Addr) (cl : List (Str × Addr)) (fp : List Addr), QG (X.blk s H scope (compEnvC scope cl C X.env) fp) (own.map (·.2)) tg g)
    (ht : ∀ (s : Shared) (H : Hp) (C : Addr) (cl : List (Str × Addr)) (fp : List Addr), QTs (X.blk s H scope (compEnvC scope cl C X.env) fp) ifs tt)
    (he : ∀ (s : Shared) (H : Hp) (C : Addr) (cl : List (Str × Addr)) (fp : List Addr), QE (X.blk s H scope (compEnvC scope cl C X.env) fp) elt te) (hs : ∀ x, foldedSetIterable iter X.env x = pure x := by intro _; rfl) :
    QS X (.Assign [.Name y py] (.ListComp elt [⟨tg, iter, ifs, 0⟩] scope pos) spos) (dAsg i (dLc (own.map (·.2)) d g tt te)) := PSmono (ps_setLc hc hN hy hyl hsw hi ok hg ht he hs) fun _ _ _ => lc_asg
end
/-! the law's promise -/
def spLaw (K : PySem.W.Frag) (d : DSp) : Sp := liftSp K 1 d
theorem law_ok {K : PySem.W.Frag} {d : DSp} {H : Hp} {a : Addr} {ns : List Int} (ho : Only H) (hs : SqL K H a (ns.map V.int)) (h : d [.v (.lsk (ns.map .int))] fun tk _ => tk = .v (.bl true)) : liftSp K 1 d [.ref a] H (fun v _ => v = .bl true) fun _ _ _ => False := by
  have hints : ∀ (ns : List Int) (M : Ms), VTs K M H (ns.map V.int) (ns.map T.int) := by
    intro ns M
    induction ns with
    | nil => exact .nil
    | cons n ns ih => exact .cons (.int n) ih
  have hk : RdK K H a (ns.map V.int) := by
    rcases hs with (hs | ⟨o, hs⟩) | hs
    · rcases ho a with z | ⟨o, xs, z⟩
      · rw [hs] at z; cases z
      · rw [hs] at z; cases z
    · exact .inl ⟨o, hs⟩
    · exact .inr hs
  refine ⟨rfl, fun _ => False, [], _, _, .v (.lsk hk (hints ns _)) .nil, List.nodup_nil, fun _ h => by simp at h, fun _ h => h.elim, h, fun v tk tmp outs H' _ _ r _ e => ?_⟩
  subst e
  exact VTbl r.2
end N1
namespace N1
open PySem PySem.Spec PyProof.Rows L2

/-! ### a call of a def with keywords: all arguments are values -/
section
variable {X : Cx} {K : PySem.W.Frag} {O : Ms} {io : List Addr} {α : List (Option Addr)} {τ : DSt} {σ : L2.St} {H : Hp} {d : DSp} {m : Nat}
theorem val_call {vs : List V} {ts : List T} {R : Tok → Prop} {Q : VK} {E : XK} (n : Now K O io none α τ σ H) (hv : VTs K (Mu O α none) H vs ts) (hl : vs.length = m) (h : d (ts.map .v) fun tk _ => R tk)
    (fin : ∀ v tk tmp H', Now K O io tmp α τ σ H' → Kp O (Mu O α none) H (Mu O α tmp) H' → Res K O α tmp σ H' v tk → R tk → Q v H') : liftSp K m d vs H Q E := by
  have eq : ∀ tmp a, Me (fun a => O a ∨ ∃ i : Nat, α[i]? = some (some a)) [] tmp a ↔ Mu O α tmp a := fun tmp a =>
    ⟨fun z => by
      rcases z with (z | z) | z | z
      · exact .inl z
      · exact .inr (.inl z)
      · simp at z
      · exact .inr (.inr z), fun z => by
      rcases z with z | z | z
      · exact .inl (.inl z)
      · exact .inl (.inr z)
      · exact .inr (.inr z)⟩
  have args : ∀ {vs : List V} {ts : List T} {M : Ms}, VTs K M H vs ts → ArgsOk K M H vs (ts.map .v) [] := by
    intro vs
    induction vs with
    | nil => intro ts M h; cases h; exact .nil
    | cons w ws ih => intro ts M h; cases h with
      | cons h hs => exact .v h (ih hs)
  refine ⟨hl, fun a => O a ∨ ∃ i : Nat, α[i]? = some (some a), [], ts.map .v, _, args (hv.keep (.of_anti fun a z => (eq none a).mp z)), List.nodup_nil, fun _ z => by simp at z, fun a z => n.tr a ((eq none a).mp (.inl z)), h, fun v tk tmp outs H' k _ r ht c => ?_⟩
  have kk : Kp O (Mu O α none) H (Mu O α tmp) H' := ⟨(Kp0.of_anti fun a z => (eq none a).mp z).trans (k.toKp0.anti fun a z => (eq tmp a).mpr z), fun a z => k.far a (.inl z)⟩
  have nw : Now K O io tmp α τ σ H' := by
    refine ⟨n.lenT, n.lenA, fun i s e => (n.slot i s e).keep kk.toKp0 fun a ws e1 e2 => (k.far a (.inr ⟨i, e1⟩)).trans e2, n.nd, n.nO, fun p z => ⟨fun y => (ht p z).1 (.inl y), fun i e => (ht p z).1 (.inr ⟨i, e⟩)⟩, fun a ha => ?_⟩
    rcases (eq none a).mpr ha with z | z | z
    · rw [k.far a z]; exact n.tr a ha
    · simp at z
    · cases z
  refine fin v tk tmp H' nw kk ?_ c
  cases tk with
  | v t => obtain ⟨rfl, r⟩ := r; exact ⟨rfl, r.keep (.of_anti fun a z => (eq none a).mpr z)⟩
  | s i => exact r.elim
  | fr ts =>
    obtain ⟨p, ws, rfl, rfl, e, hv⟩ := r
    exact ⟨p, ws, rfl, rfl, e, hv.keep (.of_anti fun a z => (eq (some p) a).mpr z)⟩
/-! the keywords' values -/
def liftK (K : PySem.W.Frag) (t : DA) : TA := liftA K t
abbrev QK (X : Cx) (kws : List Keyword) (t : DA) : Prop := PK X kws (liftA X.K t)
theorem PKmono {kws : List Keyword} {t t' : TA} (h : PK X kws t) (m : ∀ σ H Q, t' σ H Q → t σ H Q) : PK X kws t' := ⟨fun pos pins s σ H Q I q => h.run pos pins s σ H Q I (m σ H Q q)⟩
theorem qk_nil : QK X [] dNil := PKmono pk_nil fun σ H Q ⟨O, io, α, τ, R, n, h, fin⟩ => fin [] [] α τ H n .refl .nil h
theorem qk_cons {e : Expr} {nm : Option Str} {kpos : Pos} {kws : List Keyword} {te : DE} {ta : DA} (he : QE X e te) (ha : QK X kws ta) : QK X (⟨nm, e, kpos⟩ :: kws) (dCons te ta) :=
  PKmono (pk_cons he ha) fun σ H Q ⟨O, io, α, τ, R, n, h, fin⟩ =>
    one n h fun v tk α1 τ1 H1 n1 k1 r1 c1 => ⟨O, io, α1, τ1, _, n1, c1, fun vs tks α2 τ2 H2 n2 k2 r2 c2 => fin (v :: vs) (weak tk :: tks) α2 τ2 H2 n2 (k1.trans k2) (.cons (r1.keep k2.toKp0) r2) c2⟩
def dCallK (d : DSp) (m : Nat) (gT : List T → List T → List T) (ta tk : DA) : DE := fun τ Q => ta τ fun tks τ1 => tk τ1 fun zks τ2 => frozeAll τ2 tks fun ts τ3 => frozeAll τ3 zks fun us τ4 => (gT ts us).length = m ∧ d ((gT ts us).map .v) fun r _ => Q r τ4
variable {k : Nat} {f : Addr} {fd : FuncData} {ps ks : List Str} {x : Str} {p pos : Pos} {e : Expr} {es : List Expr} {kws : List Keyword} {ta tk : DA} {g : List Value → List Value → List Value} {gV : List V → List V → List V} {gT : List T → List T → List T}
theorem callk_lift (hg : ∀ {M : Ms} {H : Hp} {vs zs : List V} {ts us : List T}, VTs X.K M H vs ts → VTs X.K M H zs us → VTs X.K M H (gV vs zs) (gT ts us)) {σ : L2.St} {H : Hp} {Q : VK} {E : XK} (h : liftE X.K (dCallK d m gT ta tk) σ H Q) : tCallK (liftSp X.K m d) gV E (liftA X.K ta) (liftA X.K tk) σ H Q := by
  obtain ⟨O, io, α, τ, R, n, h, fin⟩ := h
  refine ⟨O, io, α, τ, _, n, h, fun vs tks α1 τ1 H1 n1 k1 r1 c => ⟨O, io, α1, τ1, _, n1, c, fun zs zks α2 τ2 H2 n2 k2 r2 c => ?_⟩⟩
  obtain ⟨ts, α3, τ3, n3, a3, q3, c⟩ := frozeAll_ok n2 (r1.keep k2.toKp0) c
  obtain ⟨us, α4, τ4, n4, a4, q4, hl, c⟩ := frozeAll_ok n3 (r2.keep (.of_anti a3)) c
  have hv := hg (q3.keep (.of_anti a4)) q4
  have kk : Kp O (Mu O α none) H (Mu O α4 none) H2 := (k1.trans k2).trans (.of_anti fun a z => a3 a (a4 a z))
  exact val_call n4 hv (by rw [hv.length]; exact hl) c fun v tk tmp H' n' k' r c => fin v tk tmp α4 τ4 H' n' (kk.trans k') r c
theorem pe_callK0 {CX : CXT} {sp : Sp} {E : XK} {tz : TA} (F : FnOk X.prog X.w X.K X.mg X.base CX k f fd ps sp) (hr : Room k X.A) (hg : Gl X x) (hm : X.mg x = some (.ref f)) (hk : PySem.W.keepIn X.K (.ref f) = true) (hb : KBinds X.K fd ps ks g gV) (hx : Passes CX X E)
    (hkw : PK X kws tz) (hall : (backToKw pos (keywordEach kws X.env)).all (·.1.isSome) = true := by rfl) (hks : (backToKw pos (keywordEach kws X.env)).filterMap (·.1) = ks := by rfl)
    (hdb : (x == ("__debug__" : Str)) = false := by decide) (hpl : ((backTo pos (starEach [] X.env)).any (·.1) || (backToKw pos (keywordEach kws X.env)).any (·.1.isNone)) = false := by rfl) :
    PE X (.Call (.Name x p) [] kws pos) (tCallK sp gV E tNil tz) := by
  refine ⟨fun pins s σ H Q I h => wpAny_Call_Name_kw (ld_glob I hg hm ?_ hdb)⟩
  refine PySem.W.callWith_KW0 (h₀ := X.base) I.ok.mod.kin hk hall (thn (hkw.run pos pins s σ H _ I h) fun ws s2 ⟨zs, H2, I2, rz, q2⟩ => ⟨I2.kIn, ?_⟩) hpl
  rw [hks]
  exact run_fnk (us := []) (vs := []) F hr hb hx I2 .nil rz q2
theorem qe_callK0 (F : FnOk X.prog X.w X.K X.mg X.base CX0 k f fd ps (liftSp X.K m d)) (hr : Room k X.A) (hg : Gl X x) (hm : X.mg x = some (.ref f)) (hk : PySem.W.keepIn X.K (.ref f) = true) (hb : KBinds X.K fd ps ks g gV)
    (hgt : ∀ {M : Ms} {H : Hp} {vs zs : List V} {ts us : List T}, VTs X.K M H vs ts → VTs X.K M H zs us → VTs X.K M H (gV vs zs) (gT ts us))
    (hkw : QK X kws tk) (hall : (backToKw pos (keywordEach kws X.env)).all (·.1.isSome) = true := by rfl) (hks : (backToKw pos (keywordEach kws X.env)).filterMap (·.1) = ks := by rfl)
    (hdb : (x == ("__debug__" : Str)) = false := by decide) (hpl : ((backTo pos (starEach [] X.env)).any (·.1) || (backToKw pos (keywordEach kws X.env)).any (·.1.isNone)) = false := by rfl) :
    QE X (.Call (.Name x p) [] kws pos) (dCallK d m gT dNil tk) :=
  PEmono (pe_callK0 F hr hg hm hk hb (pass0 (X := X)) hkw hall hks hdb hpl) fun σ H Q h => by
    obtain ⟨O, io, α, τ, R, n, h, fin⟩ := callk_lift (X := X) (E := E0) hgt h
    exact fin [] [] α τ H n .refl .nil h
theorem qe_callK (F : FnOk X.prog X.w X.K X.mg X.base CX0 k f fd ps (liftSp X.K m d)) (hr : Room k X.A) (hg : Gl X x) (hm : X.mg x = some (.ref f)) (hk : PySem.W.keepIn X.K (.ref f) = true) (hb : KBinds X.K fd ps ks g gV)
    (hgt : ∀ {M : Ms} {H : Hp} {vs zs : List V} {ts us : List T}, VTs X.K M H vs ts → VTs X.K M H zs us → VTs X.K M H (gV vs zs) (gT ts us))
    (ha : QA X (e :: es) ta) (hkw : QK X kws tk) (hall : (backToKw pos (keywordEach kws X.env)).all (·.1.isSome) = true := by rfl) (hks : (backToKw pos (keywordEach kws X.env)).filterMap (·.1) = ks := by rfl)
    (hdb : (x == ("__debug__" : Str)) = false := by decide) (he : starEach (e :: es) X.env = (false, eval e X.env) :: starEach es X.env := by rfl)
    (hpl : ((backTo pos (starEach (e :: es) X.env)).any (·.1) || (backToKw pos (keywordEach kws X.env)).any (·.1.isNone)) = false := by rfl) :
    QE X (.Call (.Name x p) (e :: es) kws pos) (dCallK d m gT ta tk) :=
  PEmono (pe_callK F hr hg hm hk hb (pass0 (X := X)) ha hkw hall hks hdb he hpl) fun σ H Q h => callk_lift (X := X) (E := E0) hgt h
end
/-! how the keywords bind -/
theorem kbinds_of {K : PySem.W.Frag} {x qual : Str} {st : Stmt} {f : Addr} {fd : FuncData} {ps ks : List Str} {g : List Value → List Value → List Value} {gV : List V → List V → List V} (F : Fun K x qual st f fd)
    (h : ∀ (kV doc pm : Value) (an : Option Addr) (cdv ct : Value) (us ws : List Value), (g us ws).length = ps.length → bindArgs (PySem.W.fnOf x qual (defArgs st) (defBody st) (defScope st) .none kV doc pm an cdv ct) ⟨us, ks.zip ws⟩ = pure (ps.zip (g us ws)))
    (r : ∀ {vs : List V} {us : List Value} {zs : List V} {ws : List Value}, Vals vs us → Vals zs ws → Vals (gV vs zs) (g us ws)) : KBinds K fd ps ks g gV := by
  obtain ⟨oc, od, kV, doc, pm, an, cdv, ct, osl, rfl, lk, hcd⟩ := F.ex
  exact ⟨fun s us ws _ hl => .of_eq (h kV doc pm an cdv ct us ws hl), r⟩
/-- the positional values as and the keywords' values bs in the parameters' order -/
def kgOf (np nk : Nat) (perm : List Nat) {β : Type} (as bs : List β) : List β := if as.length = np ∧ bs.length = nk then perm.filterMap fun j => (as ++ bs)[j]? else []
theorem kg_ts {K : PySem.W.Frag} {M : Ms} {H : Hp} {np nk : Nat} {perm : List Nat} {vs zs : List V} {ts us : List T} (h1 : VTs K M H vs ts) (h2 : VTs K M H zs us) : VTs K M H (kgOf np nk perm vs zs) (kgOf np nk perm ts us) := by
  unfold kgOf
  rw [h1.length, h2.length]
  split
  · induction perm with
    | nil => exact .nil
    | cons j r ih =>
      rw [List.filterMap_cons, List.filterMap_cons]
      cases e : (ts ++ us)[j]? with
      | none =>
        have : (vs ++ zs)[j]? = none := by
          rw [List.getElem?_eq_none_iff] at e ⊢
          rw [(h1.append h2).length]
          exact e
        rw [this]
        exact ih
      | some t =>
        obtain ⟨v, e2, hv⟩ := (h1.append h2).get e
        rw [e2]
        exact .cons hv ih
  · exact .nil
theorem kg_vals {np nk : Nat} {perm : List Nat} {vs : List V} {us : List Value} {zs : List V} {ws : List Value} (h1 : Vals vs us) (h2 : Vals zs ws) : Vals (kgOf np nk perm vs zs) (kgOf np nk perm us ws) := by
  unfold kgOf
  rw [h1.length, h2.length]
  split
  · induction perm with
    | nil => exact .nil
    | cons j r ih =>
      rw [List.filterMap_cons, List.filterMap_cons]
      cases e : (vs ++ zs)[j]? with
      | none =>
        rw [Vals.none_of (h1.append h2) e]
        exact ih
      | some v =>
        obtain ⟨u, e2, hv⟩ := (h1.append h2).get e
        rw [e2]
        exact .cons hv ih
  · exact .nil
end N1
namespace N1
open PySem (Str sizeLine)
/-! ## plain reasoning: little things -/
theorem Br.yes {c : Bool} {A B : Prop} (h : c = true) (a : A) : Br c A B := ⟨fun _ => a, fun z => (by rw [h] at z; cases z)⟩
theorem Br.no {c : Bool} {A B : Prop} (h : c = false) (b : B) : Br c A B := ⟨fun z => (by rw [h] at z; cases z), fun _ => b⟩
theorem Br.of {c : Prop} [Decidable c] {A B : Prop} (a : c → A) (b : ¬ c → B) : Br (decide c) A B := ⟨fun h => a (of_decide_eq_true h), fun h => b (of_decide_eq_false h)⟩
theorem Br.ofNot {c : Prop} [Decidable c] {A B : Prop} (a : ¬ c → A) (b : c → B) : Br (!decide c) A B := ⟨fun h => a (by simpa using h), fun h => b (by simpa using h)⟩
theorem Br.is {c : Prop} [Decidable c] {A B : Prop} (h : c) (a : A) : Br (decide c) A B := .yes (decide_eq_true h) a
theorem Br.isnt {c : Prop} [Decidable c] {A B : Prop} (h : ¬ c) (b : B) : Br (decide c) A B := .no (decide_eq_false h) b
theorem Br.notis {c : Prop} [Decidable c] {A B : Prop} (h : ¬ c) (a : A) : Br (!decide c) A B := .yes (by rw [decide_eq_false h]; rfl) a
theorem Br.notisnt {c : Prop} [Decidable c] {A B : Prop} (h : c) (b : B) : Br (!decide c) A B := .no (by rw [decide_eq_true h]; rfl) b
theorem atT_nat {β : Type} {ts : List β} {n : Nat} : atT ts (n : Int) = ts[n]? := rfl
theorem atT_map {β γ : Type} (f : β → γ) (ts : List β) (i : Int) : atT (ts.map f) i = (atT ts i).map f := by
  cases i with
  | ofNat n => exact List.getElem?_map
  | negSucc n =>
    show (if n < (ts.map f).length then (ts.map f)[(ts.map f).length - 1 - n]? else none) = Option.map f (if n < ts.length then ts[ts.length - 1 - n]? else none)
    rw [List.length_map]
    split
    · exact List.getElem?_map
    · rfl
theorem atT_in {β : Type} {ts : List β} {i : Int} (h0 : 0 ≤ i) (h1 : i < ts.length) : ∃ v, atT ts i = some v ∧ v ∈ ts := by
  obtain ⟨n, rfl⟩ := Int.eq_ofNat_of_zero_le h0
  have hn : n < ts.length := by omega
  exact ⟨ts[n], List.getElem?_eq_getElem hn, List.getElem_mem hn⟩
theorem atT_get {β : Type} {ts : List β} {n : Nat} (h : n < ts.length) : atT ts (n : Int) = some ts[n] := List.getElem?_eq_getElem h
theorem atT_last {β : Type} (ts : List β) (v : β) : atT (ts ++ [v]) (-1) = some v := by
  show (if 0 < (ts ++ [v]).length then (ts ++ [v])[(ts ++ [v]).length - 1 - 0]? else none) = some v
  rw [if_pos (by simp)]
  simp
theorem ints_len (ns : List Int) : ((ns.map T.int).length : Int) = ns.length := by rw [List.length_map]
theorem intsOf_map : ∀ ns : List Int, intsOf (ns.map .int) = some ns
  | [] => rfl
  | n :: ns => by
    show (intsOf (ns.map .int)).map (n :: ·) = _
    rw [intsOf_map ns]
    rfl
theorem strsOf_map : ∀ ns : List Str, strsOf (ns.map .str) = some ns
  | [] => rfl
  | n :: ns => by
    show (strsOf (ns.map .str)).map (n :: ·) = _
    rw [strsOf_map ns]
    rfl
theorem withInts.of {ns : List Int} {c : List Int → Prop} (h : c ns) : withInts (ns.map .int) c := by
  unfold withInts
  rw [intsOf_map]
  exact h
theorem withStrs.of {ns : List Str} {c : List Str → Prop} (h : c ns) : withStrs (ns.map .str) c := by
  unfold withStrs
  rw [strsOf_map]
  exact h
theorem cmul_l {i j : Int} (h1 : -(2 ^ 64) < i) (h2 : i < 2 ^ 64) : L2.CMul i j := .inl ⟨h1, h2⟩
theorem cmul_r {i j : Int} (h1 : -(2 ^ 64) < j) (h2 : j < 2 ^ 64) : L2.CMul i j := .inr ⟨h1, h2⟩
theorem sizeLine_is : (sizeLine : Nat) = 16777216 := sl_eq
/-! strings -/
theorem T.eq_str (x y : Str) : T.eq (.str x) (.str y) = decide (x = y) := by
  show (x == y) = _
  by_cases h : x = y
  · rw [decide_eq_true h, h]; exact beq_self_eq_true y
  · rw [decide_eq_false h]; exact beq_eq_false_iff_ne.mpr h
theorem T.has_strs (x : Str) (xs : List Str) : T.has (.str x) (xs.map .str) = decide (x ∈ xs) := by
  unfold T.has
  induction xs with
  | nil => simp
  | cons y ys ih =>
    rw [List.map_cons, List.any_cons, ih, T.eq_str]
    by_cases h : y = x
    · simp [h]
    · simp [h, Ne.symm h]
theorem fit_strs (n : Nat) (xs : List Str) : (xs.map T.str).all (T.fit n) = true := by
  induction xs with
  | nil => rfl
  | cons x xs ih =>
    rw [List.map_cons, List.all_cons, ih, Bool.and_true]
    cases n <;> rfl
theorem fit_ints (n : Nat) (xs : List Int) : (xs.map T.int).all (T.fit n) = true := by
  induction xs with
  | nil => rfl
  | cons x xs ih =>
    rw [List.map_cons, List.all_cons, ih, Bool.and_true]
    cases n <;> rfl
end N1
namespace N1
open PySem (Str sizeLine)
/-! ## loops and comprehensions over mapped lists -/
theorem lc_pure {β : Type} {i : Nat} {te : DE} {Q : DK} {τ : DSt} (e f : β → T) (hw : ∀ s, wipeT (setSlot τ i s) [i] = τ) : ∀ (xs : List β) (acc : List T),
    (∀ x ∈ xs, ∀ K : DK, K (.v (f x)) (setSlot τ i (some (.val (e x)))) → te (setSlot τ i (some (.val (e x)))) K) → Q (.fr (acc ++ xs.map f)) τ → lcL [i] (dgName i) dYes te Q (xs.map e) acc τ
  | [], acc, _, h => by
    rw [List.map_nil, List.append_nil] at h
    exact h
  | x :: xs, acc, hx, h => by
    refine .yes rfl (hx x List.mem_cons_self _ ?_)
    show lcL [i] (dgName i) dYes te Q (xs.map e) (acc ++ [f x]) (wipeT (setSlot τ i (some (.val (e x)))) [i])
    rw [hw]
    refine lc_pure e f hw xs _ (fun y hy => hx y (List.mem_cons_of_mem _ hy)) ?_
    rw [List.append_assoc]
    exact h
theorem lc_if {β : Type} {i : Nat} {tt : DT} {te : DE} {Q : DK} {τ : DSt} (e f : β → T) (p : β → Bool) (hw : ∀ s, wipeT (setSlot τ i s) [i] = τ) : ∀ (xs : List β) (acc : List T),
    (∀ x ∈ xs, ∀ K : Bool → DSt → Prop, K (p x) (setSlot τ i (some (.val (e x)))) → tt (setSlot τ i (some (.val (e x)))) K) →
    (∀ x ∈ xs, p x = true → ∀ K : DK, K (.v (f x)) (setSlot τ i (some (.val (e x)))) → te (setSlot τ i (some (.val (e x)))) K) → Q (.fr (acc ++ (xs.filter p).map f)) τ → lcL [i] (dgName i) tt te Q (xs.map e) acc τ
  | [], acc, _, _, h => by
    simp only [List.filter_nil, List.map_nil, List.append_nil] at h
    exact h
  | x :: xs, acc, ht, hx, h => by
    have rest : ∀ acc', Q (.fr (acc' ++ (xs.filter p).map f)) τ → lcL [i] (dgName i) tt te Q (xs.map e) acc' τ := fun acc' q =>
      lc_if e f p hw xs acc' (fun y hy => ht y (List.mem_cons_of_mem _ hy)) (fun y hy => hx y (List.mem_cons_of_mem _ hy)) q
    refine ht x List.mem_cons_self _ ?_
    cases hp : p x with
    | true =>
      refine .yes rfl (hx x List.mem_cons_self hp _ ?_)
      show lcL [i] (dgName i) tt te Q (xs.map e) (acc ++ [f x]) (wipeT (setSlot τ i (some (.val (e x)))) [i])
      rw [hw]
      refine rest _ ?_
      rw [List.filter_cons_of_pos hp, List.map_cons] at h
      rw [List.append_assoc]
      exact h
    | false =>
      refine .no rfl ?_
      show lcL [i] (dgName i) tt te Q (xs.map e) acc (wipeT (setSlot τ i (some (.val (e x)))) [i])
      rw [hw]
      refine rest _ ?_
      rw [List.filter_cons_of_neg (by rw [hp]; decide)] at h
      exact h
/-- a loop by its invariant: I of what is done and of the state -/
theorem for_inv {β : Type} {e : β → T} {g : DG} {tb : DS} {D : DEnds} (I : List β → DSt → Prop) (xs : List β)
    (hs : ∀ pre x post, xs = pre ++ x :: post → ∀ τ, I pre τ → ∀ K : DSt → Prop, (∀ τ', I (pre ++ [x]) τ' → K τ') → g (e x) τ fun τ1 => tb { D with nx := K, ct := K, bk := D.nx } τ1)
    (hd : ∀ τ, I xs τ → D.nx τ) : ∀ τ, I [] τ → forL g tb D (xs.map e) τ := by
  have key : ∀ (post pre : List β), xs = pre ++ post → ∀ τ, I pre τ → forL g tb D (post.map e) τ := by
    intro post
    induction post with
    | nil =>
      intro pre h τ hi
      rw [List.append_nil] at h
      subst h
      exact hd τ hi
    | cons x post ih =>
      intro pre h τ hi
      exact hs pre x post h τ hi _ fun τ' hi' => ih (pre ++ [x]) (by rw [List.append_assoc]; exact h) τ' hi'
  exact fun τ hi => key xs [] rfl τ hi
theorem intsFrom_map : ∀ (n : Nat) (lo : Int), intsFrom lo n = (List.range n).map fun i => .int (lo + (i : Nat))
  | 0, _ => rfl
  | n + 1, lo => by
    rw [intsFrom, intsFrom_map n (lo + 1), List.range_succ_eq_map, List.map_cons, List.map_map]
    congr 1
    · congr 1; omega
    · apply List.map_congr_left
      intro i _
      show T.int (lo + 1 + (i : Int)) = T.int (lo + ((i + 1 : Nat) : Int))
      congr 1
      omega
/-- over a range: I of the turn and of the state -/
theorem range_inv {g : DG} {tb : DS} {D : DEnds} (I : Nat → DSt → Prop) (n : Nat) (lo : Int)
    (hs : ∀ i, i < n → ∀ τ, I i τ → ∀ K : DSt → Prop, (∀ τ', I (i + 1) τ' → K τ') → g (.int (lo + (i : Nat))) τ fun τ1 => tb { D with nx := K, ct := K, bk := D.nx } τ1)
    (hd : ∀ τ, I n τ → D.nx τ) (τ : DSt) (h0 : I 0 τ) : forL g tb D (intsFrom lo n) τ := by
  have key : ∀ (m i : Nat), i + m = n → ∀ τ, I i τ → forL g tb D (intsFrom (lo + (i : Nat)) m) τ := by
    intro m
    induction m with
    | zero =>
      intro i h τ hi
      rw [Nat.add_zero] at h
      subst h
      exact hd τ hi
    | succ m ih =>
      intro i h τ hi
      refine hs i (by omega) τ hi _ fun τ' hi' => ?_
      have e : lo + (i : Int) + 1 = lo + ((i + 1 : Nat) : Int) := by omega
      show forL g tb D (intsFrom (lo + (i : Int) + 1) m) τ'
      rw [e]
      exact ih (i + 1) (by omega) τ' hi'
  have e : lo = lo + ((0 : Nat) : Int) := by omega
  rw [e]
  exact key n 0 (by omega) τ h0

/-! ## texts in order -/
def ltS (x y : Str) : Bool := PySem.Spec.ltCps x.cps.toList y.cps.toList
theorem ltCps_irr : ∀ a : List Nat, PySem.Spec.ltCps a a = false
  | [] => rfl
  | x :: r => by simp [PySem.Spec.ltCps, ltCps_irr r]
theorem ltCps_tr : ∀ a b c : List Nat, PySem.Spec.ltCps a b = true → PySem.Spec.ltCps b c = true → PySem.Spec.ltCps a c = true
  | [], [], _, h, _ => by simp [PySem.Spec.ltCps] at h
  | [], _ :: _, [], _, h => by simp [PySem.Spec.ltCps] at h
  | [], _ :: _, _ :: _, _, _ => rfl
  | _ :: _, [], _, h, _ => by simp [PySem.Spec.ltCps] at h
  | _ :: _, _ :: _, [], _, h => by simp [PySem.Spec.ltCps] at h
  | x :: a, y :: b, z :: c, h1, h2 => by
    simp only [PySem.Spec.ltCps, Bool.or_eq_true, Bool.and_eq_true, decide_eq_true_eq, beq_iff_eq] at h1 h2 ⊢
    rcases h1 with h1 | ⟨rfl, h1⟩ <;> rcases h2 with h2 | ⟨rfl, h2⟩
    · exact .inl (by omega)
    · exact .inl h1
    · exact .inl h2
    · exact .inr ⟨rfl, ltCps_tr a b c h1 h2⟩
theorem ltCps_tri : ∀ a b : List Nat, PySem.Spec.ltCps a b = false → PySem.Spec.ltCps b a = false → a = b
  | [], [], _, _ => rfl
  | [], _ :: _, h, _ => by simp [PySem.Spec.ltCps] at h
  | _ :: _, [], _, h => by simp [PySem.Spec.ltCps] at h
  | x :: a, y :: b, h1, h2 => by
    simp only [PySem.Spec.ltCps, Bool.or_eq_false_iff, Bool.and_eq_false_iff, decide_eq_false_iff_not, beq_eq_false_iff_ne] at h1 h2
    obtain ⟨p1, q1⟩ := h1
    obtain ⟨p2, q2⟩ := h2
    have e : x = y := by omega
    subst e
    rw [ltCps_tri a b (q1.resolve_left fun z => z rfl) (q2.resolve_left fun z => z rfl)]
theorem Str_ext {x y : Str} (h : x.cps.toList = y.cps.toList) : x = y := by
  cases x; cases y
  congr
  exact Array.toList_inj.mp h
theorem ltS_irr (x : Str) : ltS x x = false := ltCps_irr _
theorem ltS_tr {x y z : Str} (h : ltS x y = true) (g : ltS y z = true) : ltS x z = true := ltCps_tr _ _ _ h g
theorem ltS_tri {x y : Str} (h : ltS x y = false) (g : ltS y x = false) : x = y := Str_ext (ltCps_tri _ _ h g)
/-- ascending, without doubles -/
def Asc (xs : List Str) : Prop := xs.Pairwise fun x y => ltS x y = true
theorem Asc.nodup {xs : List Str} (h : Asc xs) : xs.Nodup := h.imp fun {x y} z e => by
  subst e
  rw [ltS_irr] at z
  cases z
theorem Asc.ext : ∀ {xs ys : List Str}, Asc xs → Asc ys → (∀ x, x ∈ xs ↔ x ∈ ys) → xs = ys
  | [], [], _, _, _ => rfl
  | [], y :: ys, _, _, h => absurd ((h y).mpr List.mem_cons_self) (by simp)
  | x :: xs, [], _, _, h => absurd ((h x).mp List.mem_cons_self) (by simp)
  | x :: xs, y :: ys, h1, h2, h => by
    obtain ⟨a1, b1⟩ := List.pairwise_cons.mp h1
    obtain ⟨a2, b2⟩ := List.pairwise_cons.mp h2
    have e : x = y := by
      rcases List.mem_cons.mp ((h x).mp List.mem_cons_self) with e | m1
      · exact e
      · rcases List.mem_cons.mp ((h y).mpr List.mem_cons_self) with e | m2
        · exact e.symm
        · have := ltS_tr (a1 y m2) (a2 x m1)
          rw [ltS_irr] at this
          cases this
    subst e
    have nx : x ∉ xs := (List.nodup_cons.mp h1.nodup).1
    have ny : x ∉ ys := (List.nodup_cons.mp h2.nodup).1
    rw [Asc.ext b1 b2 fun z => ⟨fun m => ((List.mem_cons.mp ((h z).mp (List.mem_cons_of_mem _ m))).resolve_left fun e => nx (e ▸ m)), fun m => ((List.mem_cons.mp ((h z).mpr (List.mem_cons_of_mem _ m))).resolve_left fun e => ny (e ▸ m))⟩]
/-- the loop that leaves out what equals the last one -/
def dedup : List Str → List Str → List Str
  | acc, [] => acc
  | acc, x :: xs => if acc.getLast? = some x then dedup acc xs else dedup (acc ++ [x]) xs
theorem risingS_le : ∀ (l : List Str) (p : Str), PyProof.Rows.risingS p l = true → ∀ x ∈ l, ltS x p = false
  | [], _, _, x, h => by simp at h
  | y :: l, p, h, x, hx => by
    unfold PyProof.Rows.risingS at h
    rw [Bool.and_eq_true, Bool.not_eq_true'] at h
    rcases List.mem_cons.mp hx with rfl | hx
    · exact h.1
    · have h2 := risingS_le l y h.2 x hx
      cases q : ltS x p with
      | false => rfl
      | true =>
        cases q2 : ltS p y with
        | true => have := ltS_tr q q2; rw [h2] at this; cases this
        | false =>
          have e := ltS_tri q2 h.1
          subst e
          rw [q] at h2
          cases h2
theorem dedup_asc : ∀ (xs acc : List Str), Asc acc → (∀ p, acc.getLast? = some p → PyProof.Rows.risingS p xs = true) → (acc = [] → PyProof.Rows.sortedS xs = true) → Asc (dedup acc xs) ∧ ∀ x, x ∈ dedup acc xs ↔ x ∈ acc ∨ x ∈ xs
  | [], acc, h, _, _ => ⟨h, fun x => by simp [dedup]⟩
  | x :: xs, acc, h, hl, h0 => by
    have hr : PyProof.Rows.risingS x xs = true := by
      cases e : acc.getLast? with
      | none =>
        have := h0 (List.getLast?_eq_none_iff.mp e)
        exact this
      | some p =>
        have := hl p e
        unfold PyProof.Rows.risingS at this
        rw [Bool.and_eq_true] at this
        exact this.2
    unfold dedup
    split
    · next e =>
      obtain ⟨h1, h2⟩ := dedup_asc xs acc h (fun p hp => by rw [e] at hp; cases hp; exact hr) (fun z => by subst z; cases e)
      refine ⟨h1, fun y => ?_⟩
      rw [h2, List.mem_cons]
      constructor
      · rintro (z | z)
        · exact .inl z
        · exact .inr (.inr z)
      · rintro (z | rfl | z)
        · exact .inl z
        · exact .inl (List.mem_of_getLast? e)
        · exact .inr z
    · next e =>
      have ha : Asc (acc ++ [x]) := by
        refine List.pairwise_append.mpr ⟨h, List.pairwise_singleton _ _, fun a ha b hb => ?_⟩
        have eb := List.mem_singleton.mp hb
        subst eb
        cases e2 : acc.getLast? with
        | none => rw [List.getLast?_eq_none_iff.mp e2] at ha; simp at ha
        | some p =>
          have hp := hl p e2
          unfold PyProof.Rows.risingS at hp
          rw [Bool.and_eq_true, Bool.not_eq_true'] at hp
          have pb : ltS p b = true := by
            cases q : ltS p b with
            | true => rfl
            | false =>
              rw [ltS_tri q hp.1] at e2
              exact absurd e2 e
          by_cases eap : a = p
          · rw [eap]; exact pb
          · obtain ⟨ys, rfl⟩ := List.getLast?_eq_some_iff.mp e2
            rcases List.mem_append.mp ha with z | z
            · exact ltS_tr ((List.pairwise_append.mp h).2.2 a z p (by simp)) pb
            · exact absurd (List.mem_singleton.mp z) eap
      obtain ⟨h1, h2⟩ := dedup_asc xs (acc ++ [x]) ha (fun p hp => by simp at hp; subst hp; exact hr) (fun z => by simp at z)
      refine ⟨h1, fun y => ?_⟩
      rw [h2, List.mem_append, List.mem_singleton, List.mem_cons, or_assoc]
/-- what ascending does -/
def ascOf (ys : List Str) : List Str := dedup [] ys
theorem ascOf_ok {xs ys : List Str} (hp : ys.Perm xs) (hs : PyProof.Rows.sortedS ys = true) : Asc (ascOf ys) ∧ ∀ x, x ∈ ascOf ys ↔ x ∈ xs := by
  obtain ⟨h1, h2⟩ := dedup_asc ys [] List.Pairwise.nil (fun p h => by cases h) fun _ => hs
  refine ⟨h1, fun x => ?_⟩
  rw [ascOf, h2]
  simp only [List.not_mem_nil, false_or]
  exact hp.mem_iff

/-! ## formulas -/
inductive Fm where
  | at (x : Str) | no (m : Fm) | nd (b : Bool) (ms : List Fm)
def kd : Bool → Str
  | true => Str.ofString "all"
  | false => Str.ofString "some"
mutual
def Fm.enc : Fm → T
  | .at x => .tup [.str (Str.ofString "atom"), .str x]
  | .no m => .tup [.str (Str.ofString "not"), Fm.enc m]
  | .nd b ms => .tup [.str (kd b), .tup (Fm.encs ms)]
def Fm.encs : List Fm → List T
  | [] => []
  | m :: ms => Fm.enc m :: Fm.encs ms
end
theorem Fm.encs_eq : ∀ ms : List Fm, Fm.encs ms = ms.map Fm.enc
  | [] => rfl
  | m :: ms => by rw [Fm.encs, Fm.encs_eq ms]; rfl
mutual
/-- levels of a walk -/
def Fm.nest : Fm → Nat
  | .at _ => 0
  | .no m => Fm.nest m + 1
  | .nd _ ms => Fm.nests ms + 1
def Fm.nests : List Fm → Nat
  | [] => 0
  | m :: ms => max (Fm.nest m) (Fm.nests ms)
end
mutual
def Fm.sz : Fm → Nat
  | .at _ => 1
  | .no m => 1 + Fm.sz m
  | .nd _ ms => 1 + Fm.szs ms
def Fm.szs : List Fm → Nat
  | [] => 0
  | m :: ms => Fm.sz m + Fm.szs ms
end
mutual
/-- all its atoms are among the names -/
def Fm.of (names : List Str) : Fm → Prop
  | .at x => x ∈ names
  | .no m => Fm.of names m
  | .nd _ ms => Fm.ofs names ms
def Fm.ofs (names : List Str) : List Fm → Prop
  | [] => True
  | m :: ms => Fm.of names m ∧ Fm.ofs names ms
end
theorem Fm.nest_le {ms : List Fm} {m : Fm} (h : m ∈ ms) : Fm.nest m ≤ Fm.nests ms := by
  induction ms with
  | nil => simp at h
  | cons x ms ih =>
    show _ ≤ max _ _
    rcases List.mem_cons.mp h with rfl | h
    · exact Nat.le_max_left _ _
    · exact Nat.le_trans (ih h) (Nat.le_max_right _ _)
theorem Fm.ofs_mem {names : List Str} {ms : List Fm} {m : Fm} (h : Fm.ofs names ms) (hm : m ∈ ms) : Fm.of names m := by
  induction ms with
  | nil => simp at hm
  | cons x ms ih =>
    rcases List.mem_cons.mp hm with rfl | hm
    · exact h.1
    · exact ih h.2 hm
theorem Fm.ofs_app {names : List Str} {ms ns : List Fm} (h : Fm.ofs names ms) (g : Fm.ofs names ns) : Fm.ofs names (ms ++ ns) := by
  induction ms with
  | nil => exact g
  | cons x ms ih => exact ⟨h.1, ih h.2⟩
theorem Fm.nests_app (ms ns : List Fm) : Fm.nests (ms ++ ns) = max (Fm.nests ms) (Fm.nests ns) := by
  induction ms with
  | nil => show Fm.nests ns = max 0 (Fm.nests ns); omega
  | cons x ms ih => show max _ (Fm.nests (ms ++ ns)) = max (max _ _) _; rw [ih]; omega
theorem Fm.szs_app (ms ns : List Fm) : Fm.szs (ms ++ ns) = Fm.szs ms + Fm.szs ns := by
  induction ms with
  | nil => show Fm.szs ns = 0 + Fm.szs ns; omega
  | cons x ms ih => show _ + Fm.szs (ms ++ ns) = _; rw [ih]; show _ = _ + _ + _; omega
/-- induction over the members too -/
theorem Fm.ind {P : Fm → Prop} (h1 : ∀ x, P (.at x)) (h2 : ∀ m, P m → P (.no m)) (h3 : ∀ b ms, (∀ m ∈ ms, P m) → P (.nd b ms)) : ∀ m, P m := by
  have key : ∀ n m, Fm.sz m ≤ n → P m := by
    intro n
    induction n with
    | zero => intro m h; cases m <;> (unfold Fm.sz at h; omega)
    | succ n ih =>
      intro m h
      cases m with
      | «at» x => exact h1 x
      | no m => exact h2 m (ih m (by unfold Fm.sz at h; omega))
      | nd b ms =>
        refine h3 b ms fun m hm => ih m ?_
        have : Fm.sz m ≤ Fm.szs ms := by
          clear h ih
          induction ms with
          | nil => simp at hm
          | cons x ms ih =>
            show _ ≤ _ + _
            rcases List.mem_cons.mp hm with rfl | hm
            · omega
            · have := ih hm; omega
        unfold Fm.sz at h
        omega
  exact fun m => key _ m (Nat.le_refl _)
theorem k_not_atom : ¬ Str.ofString "not" = Str.ofString "atom" := by decide +kernel
theorem k_kd_atom (b : Bool) : ¬ kd b = Str.ofString "atom" := by cases b <;> decide +kernel
theorem k_kd_not (b : Bool) : ¬ kd b = Str.ofString "not" := by cases b <;> decide +kernel
theorem k_atom_not : ¬ Str.ofString "atom" = Str.ofString "not" := by decide +kernel
theorem k_kd_all (b : Bool) : decide (kd b = Str.ofString "all") = b := by cases b <;> decide +kernel
theorem k_kd_some (b : Bool) : decide (kd b = Str.ofString "some") = !b := by cases b <;> decide +kernel
end N1
namespace N1
open PySem (Str sizeLine)
/-- a loop by its invariant; the row is given with a reason -/
theorem for_in {β : Type} {ts : List T} (xs : List β) {e : β → T} {g : DG} {tb : DS} {D : DEnds} {τ : DSt} (I : List β → DSt → Prop) (et : ts = xs.map e) (h0 : I [] τ)
    (hs : ∀ pre x post, xs = pre ++ x :: post → ∀ τ, I pre τ → ∀ K : DSt → Prop, (∀ τ', I (pre ++ [x]) τ' → K τ') → g (e x) τ fun τ1 => tb { D with nx := K, ct := K, bk := D.nx } τ1)
    (hd : ∀ τ, I xs τ → D.nx τ) : forL g tb D ts τ := by
  rw [et]
  exact for_inv I xs hs hd τ h0
theorem range_in {g : DG} {tb : DS} {D : DEnds} {m : Nat} {lo : Int} {τ : DSt} (n : Nat) (I : Nat → DSt → Prop) (em : m = n) (h0 : I 0 τ)
    (hs : ∀ i, i < n → ∀ τ, I i τ → ∀ K : DSt → Prop, (∀ τ', I (i + 1) τ' → K τ') → g (.int (lo + (i : Nat))) τ fun τ1 => tb { D with nx := K, ct := K, bk := D.nx } τ1)
    (hd : ∀ τ, I n τ → D.nx τ) : forL g tb D (intsFrom lo m) τ := by
  rw [em]
  exact range_inv I n lo hs hd τ h0
/-! ## what formulas say -/
mutual
def Fm.on (p : Str → Bool) : Fm → Bool
  | .at x => p x
  | .no m => !Fm.on p m
  | .nd b ms => Fm.ons p b ms
def Fm.ons (p : Str → Bool) : Bool → List Fm → Bool
  | b, [] => b
  | b, m :: ms => if Fm.on p m = b then Fm.ons p b ms else !b
end
mutual
/-- the formula and its members, in order -/
def Fm.wit : Fm → List Fm
  | .at x => [.at x]
  | .no m => .no m :: Fm.wit m
  | .nd b ms => .nd b ms :: Fm.wits ms
def Fm.wits : List Fm → List Fm
  | [] => []
  | m :: ms => Fm.wit m ++ Fm.wits ms
end
theorem Fm.wits_app (a b : List Fm) : Fm.wits (a ++ b) = Fm.wits a ++ Fm.wits b := by
  induction a with
  | nil => rfl
  | cons x a ih => show Fm.wit x ++ Fm.wits (a ++ b) = Fm.wit x ++ Fm.wits a ++ Fm.wits b; rw [ih, List.append_assoc]
theorem Fm.ons_skip (p : Str → Bool) (b : Bool) : ∀ (pre post : List Fm), (∀ m ∈ pre, Fm.on p m = b) → Fm.ons p b (pre ++ post) = Fm.ons p b post
  | [], _, _ => rfl
  | m :: pre, post, h => by
    show (if Fm.on p m = b then Fm.ons p b (pre ++ post) else !b) = _
    rw [if_pos (h m List.mem_cons_self), Fm.ons_skip p b pre post fun x hx => h x (List.mem_cons_of_mem _ hx)]
theorem Fm.nests_le {ms : List Fm} {n : Nat} (h : ∀ m ∈ ms, Fm.nest m ≤ n) : Fm.nests ms ≤ n := by
  induction ms with
  | nil => exact Nat.zero_le _
  | cons x ms ih => exact Nat.max_le.mpr ⟨h x List.mem_cons_self, ih fun m hm => h m (List.mem_cons_of_mem _ hm)⟩
theorem Fm.wit_self (m : Fm) : m ∈ Fm.wit m := by cases m <;> exact List.mem_cons_self
mutual
theorem Fm.wit_nest : ∀ (m x : Fm), x ∈ Fm.wit m → Fm.nest x ≤ Fm.nest m
  | .at y, x, h => by
    rw [List.mem_singleton.mp h]
    exact Nat.le_refl _
  | .no m, x, h => by
    rcases List.mem_cons.mp h with rfl | h
    · exact Nat.le_refl _
    · exact Nat.le_succ_of_le (Fm.wit_nest m x h)
  | .nd b ms, x, h => by
    rcases List.mem_cons.mp h with rfl | h
    · exact Nat.le_refl _
    · exact Nat.le_succ_of_le (Fm.wits_nest ms x h)
theorem Fm.wits_nest : ∀ (ms : List Fm) (x : Fm), x ∈ Fm.wits ms → Fm.nest x ≤ Fm.nests ms
  | [], x, h => by cases h
  | m :: ms, x, h => by
    show _ ≤ max _ _
    rcases List.mem_append.mp h with h | h
    · have := Fm.wit_nest m x h
      omega
    · have := Fm.wits_nest ms x h
      omega
end
mutual
theorem Fm.wit_len : ∀ m : Fm, (Fm.wit m).length = Fm.sz m
  | .at _ => rfl
  | .no m => by
    show (Fm.wit m).length + 1 = 1 + _
    rw [Fm.wit_len m]; omega
  | .nd b ms => by
    show (Fm.wits ms).length + 1 = 1 + Fm.szs ms
    rw [Fm.wits_len ms]; omega
theorem Fm.wits_len : ∀ ms : List Fm, (Fm.wits ms).length = Fm.szs ms
  | [] => rfl
  | m :: ms => by
    show (Fm.wit m ++ Fm.wits ms).length = _ + _
    rw [List.length_append, Fm.wit_len m, Fm.wits_len ms]
end
theorem Fm.sz_pos (m : Fm) : 0 < Fm.sz m := by cases m <;> (unfold Fm.sz; omega)
end N1
namespace N1
theorem lc_over {β : Type} {ts : List T} {i : Nat} {te : DE} {Q : DK} {τ : DSt} (e f : β → T) (xs : List β) (et : ts = xs.map e) (hw : ∀ s, wipeT (setSlot τ i s) [i] = τ)
    (hx : ∀ x ∈ xs, ∀ K : DK, K (.v (f x)) (setSlot τ i (some (.val (e x)))) → te (setSlot τ i (some (.val (e x)))) K) (h : Q (.fr (xs.map f)) τ) : lcL [i] (dgName i) dYes te Q ts [] τ := by
  rw [et]
  exact lc_pure e f hw xs [] hx h
end N1
namespace N1
theorem withInts.by {ts : List T} (ns : List Int) {c : List Int → Prop} (e : ts = ns.map .int) (h : c ns) : withInts ts c := by
  rw [e]; exact withInts.of h
theorem withStrs.by {ts : List T} (ns : List PySem.Str) {c : List PySem.Str → Prop} (e : ts = ns.map .str) (h : c ns) : withStrs ts c := by
  rw [e]; exact withStrs.of h
theorem Fm.sum_sz : ∀ ms : List Fm, (ms.map fun m => (Fm.sz m : Int)).sum = (Fm.szs ms : Nat)
  | [] => rfl
  | m :: ms => by
    rw [List.map_cons, List.sum_cons, Fm.sum_sz ms]
    show (Fm.sz m : Int) + (Fm.szs ms : Nat) = ((Fm.sz m + Fm.szs ms : Nat) : Int)
    omega
theorem Fm.sz_no (m : Fm) : (Fm.sz (.no m) : Int) = 1 + Fm.sz m := by
  show ((1 + Fm.sz m : Nat) : Int) = _
  omega
theorem Fm.sz_nd (b : Bool) (ms : List Fm) : (Fm.sz (.nd b ms) : Int) = 1 + Fm.szs ms := by
  show ((1 + Fm.szs ms : Nat) : Int) = _
  omega
end N1
namespace N1
theorem k_sa : ¬ kd false = PySem.Str.ofString "all" := by decide +kernel
theorem k_as : ¬ kd true = PySem.Str.ofString "some" := by decide +kernel
end N1
namespace N1
theorem dedup_len : ∀ (acc xs : List PySem.Str), (dedup acc xs).length ≤ acc.length + xs.length
  | acc, [] => Nat.le_refl _
  | acc, x :: xs => by
    unfold dedup
    split
    · have := dedup_len acc xs
      rw [List.length_cons]; omega
    · have := dedup_len (acc ++ [x]) xs
      rw [List.length_append, List.length_singleton] at this
      rw [List.length_cons]; omega
theorem len_app (x y : PySem.Str) : (x ++ y).length = x.length + y.length := Array.size_append
theorem len_one (c : Nat) : (⟨#[c]⟩ : PySem.Str).length = 1 := rfl
end N1
namespace N1
theorem tbl (ws : List Int) {i : Int} (h0 : 0 ≤ i) (h1 : i < ws.length) : ∃ w, atT (ws.map T.int) i = some (.int w) ∧ w ∈ ws := by
  obtain ⟨w, e, m⟩ := atT_in h0 h1
  exact ⟨w, by rw [atT_map, e]; rfl, m⟩
end N1
namespace N1
open PySem (Str)
theorem pickName {names : List Str} (h : 0 < names.length) (v : Int) : ∃ x, atT (names.map T.str) (v % ((names.map T.str).length : Nat)) = some (.str x) ∧ x ∈ names := by
  obtain ⟨x, e, m⟩ := atT_in (ts := names) (i := v % ((names.map T.str).length : Nat)) (Int.emod_nonneg _ (by rw [List.length_map]; omega)) (by rw [List.length_map]; exact Int.emod_lt_of_pos _ (by omega))
  exact ⟨x, by rw [atT_map, e]; rfl, m⟩
theorem pickKd {v : Int} (h0 : 0 ≤ v) (h1 : v < 2) : ∃ b, atT [T.str (Str.ofString "all"), T.str (Str.ofString "some")] v = some (.str (kd b)) := by
  have : v = 0 ∨ v = 1 := by omega
  rcases this with rfl | rfl
  · exact ⟨true, rfl⟩
  · exact ⟨false, rfl⟩
end N1
namespace N1
theorem Fm.enc_nd (b : Bool) (ms : List Fm) : Fm.enc (.nd b ms) = .tup [.str (kd b), .tup (ms.map Fm.enc)] := by
  rw [← Fm.encs_eq]; rfl
end N1
namespace N1
theorem Br.or {c d : Bool} {A B : Prop} (a : A) (b : B) : Br c (Br true A B) (Br d A B) := ⟨fun _ => .yes rfl a, fun _ => ⟨fun _ => a, fun _ => b⟩⟩
end N1
namespace K17
open PySem PySem.Spec PyProof.Rows L2 N1
/-! the text -/
def topS (i : Nat) : Stmt := PySem.Challenge.pw_nevernot_k17_surely.main.body.getD i (.Pass ⟨0, 0, 0, 0⟩)
inductive Fn where
  | law
  | law_digits
  | law_cell
  | law_fresh_viv
  | law_take_viv
  | law_member_viv
  | law_within
  | law_ascending
  | law_answers
  | law_holds_later
  | surely
  | law_on
  | law_spine_vivvv
  | law_sized_vivvvv
  | law_sure
  | law_completions
  | law_size
abbrev Cal := Fn → DSp
abbrev s_law : Stmt := topS 18
theorem sc_law : FnScope ["script", "head", "at", "names", "on", "off", "later", "name", "place", "body", "member", "found", "pairs", "k", "told"] ["script"] (defScope s_law) := ⟨rfl, rfl, rfl, by decide +kernel, rfl, by decide +kernel, by decide +kernel⟩
abbrev s_law_digits : Stmt := topS 4
theorem sc_law_digits : FnScope ["cell", "sizes", "row", "rest", "size", "seed", "k", "twice"] ["cell", "sizes"] (defScope s_law_digits) := ⟨rfl, rfl, rfl, by decide +kernel, rfl, by decide +kernel, by decide +kernel⟩
abbrev s_law_cell : Stmt := topS 3
theorem sc_law_cell : FnScope ["script", "k", "seed", "cell"] ["script", "k"] (defScope s_law_cell) := ⟨rfl, rfl, rfl, by decide +kernel, rfl, by decide +kernel, by decide +kernel⟩
abbrev s_law_fresh : Stmt := topS 8
theorem sc_law_fresh : FnScope ["row", "at", "many", "letters", "found", "k", "name", "j"] ["row", "at", "many"] (defScope s_law_fresh) := ⟨rfl, rfl, rfl, by decide +kernel, rfl, by decide +kernel, by decide +kernel⟩
abbrev s_law_take : Stmt := topS 5
theorem sc_law_take : FnScope ["row", "at", "size", "value"] ["row", "at", "size"] (defScope s_law_take) := ⟨rfl, rfl, rfl, by decide +kernel, rfl, by decide +kernel, by decide +kernel⟩
abbrev s_law_member : Stmt := topS 17
theorem sc_law_member : FnScope ["row", "at", "names", "marked", "shape", "member", "deep"] ["row", "at", "names"] (defScope s_law_member) := ⟨rfl, rfl, rfl, by decide +kernel, rfl, by decide +kernel, by decide +kernel⟩
abbrev s_law_within : Stmt := topS 12
theorem sc_law_within : FnScope ["member", "found", "part"] ["member"] (defScope s_law_within) := ⟨rfl, rfl, rfl, by decide +kernel, rfl, by decide +kernel, by decide +kernel⟩
abbrev s_law_ascending : Stmt := topS 7
theorem sc_law_ascending : FnScope ["items", "rows", "item"] ["items"] (defScope s_law_ascending) := ⟨rfl, rfl, rfl, by decide +kernel, rfl, by decide +kernel, by decide +kernel⟩
abbrev s_law_answers : Stmt := topS 14
theorem sc_law_answers : FnScope ["found", "on", "off", "member", "due", "told"] ["found", "on", "off"] (defScope s_law_answers) := ⟨rfl, rfl, rfl, by decide +kernel, rfl, by decide +kernel, by decide +kernel⟩
abbrev s_law_holds_later : Stmt := topS 16
theorem sc_law_holds_later : FnScope ["member", "names", "on", "off", "due", "world"] ["member", "names", "on", "off"] (defScope s_law_holds_later) := ⟨rfl, rfl, rfl, by decide +kernel, rfl, by decide +kernel, by decide +kernel⟩
abbrev s_surely : Stmt := topS 1
theorem sc_surely : FnScope ["member", "on", "off", "kind", "value", "values", "part"] ["member", "on", "off"] (defScope s_surely) := ⟨rfl, rfl, rfl, by decide +kernel, rfl, by decide +kernel, by decide +kernel⟩
abbrev s_law_on : Stmt := topS 6
theorem sc_law_on : FnScope ["member", "world", "part"] ["member", "world"] (defScope s_law_on) := ⟨rfl, rfl, rfl, by decide +kernel, rfl, by decide +kernel, by decide +kernel⟩
abbrev s_law_spine : Stmt := topS 11
theorem sc_law_spine : FnScope ["row", "at", "names", "deep", "marked", "now", "k", "parts", "j", "beside"] ["row", "at", "names", "deep", "marked"] (defScope s_law_spine) := ⟨rfl, rfl, rfl, by decide +kernel, rfl, by decide +kernel, by decide +kernel⟩
abbrev s_law_sized : Stmt := topS 10
theorem sc_law_sized : FnScope ["row", "at", "names", "deep", "room", "marked", "count", "rest", "parts", "k", "share", "mark", "inner"] ["row", "at", "names", "deep", "room", "marked"] (defScope s_law_sized) := ⟨rfl, rfl, rfl, by decide +kernel, rfl, by decide +kernel, by decide +kernel⟩
abbrev s_law_sure : Stmt := topS 13
theorem sc_law_sure : FnScope ["member", "on", "off", "least", "part", "greatest"] ["member", "on", "off"] (defScope s_law_sure) := ⟨rfl, rfl, rfl, by decide +kernel, rfl, by decide +kernel, by decide +kernel⟩
abbrev s_law_completions : Stmt := topS 15
theorem sc_law_completions : FnScope ["names", "on", "off", "found", "name", "fresh", "world"] ["names", "on", "off"] (defScope s_law_completions) := ⟨rfl, rfl, rfl, by decide +kernel, rfl, by decide +kernel, by decide +kernel⟩
abbrev s_law_size : Stmt := topS 9
theorem sc_law_size : FnScope ["member", "part"] ["member"] (defScope s_law_size) := ⟨rfl, rfl, rfl, by decide +kernel, rfl, by decide +kernel, by decide +kernel⟩
/-! the readings -/
abbrev kg0 {β : Type} : List β → List β → List β := kgOf 0 3 [2, 1, 0]
def rd_law_L0 (C : Cal) : DS :=
  (dSeq (dAsg 8 (dCall (C .law_take_viv) [false, true, false] [] (dCons (dVar 1) (dCons (dVar 2) (dCons (dC (.int 6)) dNil)))))
  (dIf (dTest (dOp opLt (dVar 8) (dC (.int 2)))) (dAppend 4 (dVar 7)) (dIf (dTest (dOp opLt (dVar 8) (dC (.int 4)))) (dAppend 5 (dVar 7)) (dAppend 6 (dVar 7)))))
def rd_law_L1 (C : Cal) : DS :=
  (dIf (dTest (dOp opEq (dCall (C .law_take_viv) [false, true, false] [] (dCons (dVar 1) (dCons (dVar 2) (dCons (dC (.int 2)) dNil)))) (dC (.int 0)))) (dAppend 12 (dTup 2 (dCons (dCall (C .law_ascending) [false] [] (dCons (dOp opAdd (dCallB bList (dCons (dOp opIx (dOp opIx (dVar 12) (dNeg (dC (.int 1)))) (dC (.int 0))) dNil)) (dLst 1 (dCons (dVar 7) dNil))) dNil)) (dCons (dOp opIx (dOp opIx (dVar 12) (dNeg (dC (.int 1)))) (dC (.int 1))) dNil)))) (dAppend 12 (dTup 2 (dCons (dOp opIx (dOp opIx (dVar 12) (dNeg (dC (.int 1)))) (dC (.int 0))) (dCons (dCall (C .law_ascending) [false] [] (dCons (dOp opAdd (dCallB bList (dCons (dOp opIx (dOp opIx (dVar 12) (dNeg (dC (.int 1)))) (dC (.int 1))) dNil)) (dLst 1 (dCons (dVar 7) dNil))) dNil)) dNil)))))
def rd_law_L2 (C : Cal) : DS :=
  (dIf (dOr (dTest (dOp opLt (dVar 13) (dC (.int 2)))) (dTest (dOp opEq (dVar 13) (dOp opSub (dCallB bLen (dCons (dVar 12) dNil)) (dC (.int 1)))))) (dSeq (dIf (dNot (dTruth (dCall (C .law_answers) [false, false, false] [] (dCons (dVar 11) (dCons (dOp opIx (dOp opIx (dVar 12) (dVar 13)) (dC (.int 0))) (dCons (dOp opIx (dOp opIx (dVar 12) (dVar 13)) (dC (.int 1))) dNil)))))) (dRet (dC (.bl false))) dNext)
  (dIf (dNot (dTruth (dCall (C .law_holds_later) [false, false, false, false] [] (dCons (dVar 10) (dCons (dVar 3) (dCons (dOp opIx (dOp opIx (dVar 12) (dVar 13)) (dC (.int 0))) (dCons (dOp opIx (dOp opIx (dVar 12) (dVar 13)) (dC (.int 1))) dNil))))))) (dRet (dC (.bl false))) dNext)) dNext)
def rd_law_J0 (C : Cal) : DS :=
  (dSeq (dAsg 12 (dLst 1 (dCons (dTup 2 (dCons (dCallB bTuple (dCons (dVar 4) dNil)) (dCons (dCallB bTuple (dCons (dVar 5) dNil)) dNil))) dNil)))
  (dSeq (dFor (diAny (dVar 6)) (dgName 7) (rd_law_L1 C))
  (dSeq (dFor (diRange1 (dCallB bLen (dCons (dVar 12) dNil))) (dgName 13) (rd_law_L2 C))
  (dSeq (dAsg 14 (dCallK (C .surely) 3 kg0 dNil (dCons (dOp opIx (dOp opIx (dVar 12) (dNeg (dC (.int 1)))) (dC (.int 1))) (dCons (dOp opIx (dOp opIx (dVar 12) (dNeg (dC (.int 1)))) (dC (.int 0))) (dCons (dVar 10) dNil)))))
  (dSeq (dIf (dAnd (dTruth (dCall (C .law_on) [false, false] [] (dCons (dVar 10) (dCons (dOp opIx (dOp opIx (dVar 12) (dNeg (dC (.int 1)))) (dC (.int 0))) dNil)))) (dTest (dOp opIsNot (dVar 14) (dC (.bl true))))) (dRet (dC (.bl false))) dNext)
  (dSeq (dIf (dAnd (dNot (dTruth (dCall (C .law_on) [false, false] [] (dCons (dVar 10) (dCons (dOp opIx (dOp opIx (dVar 12) (dNeg (dC (.int 1)))) (dC (.int 0))) dNil))))) (dTest (dOp opIsNot (dVar 14) (dC (.bl false))))) (dRet (dC (.bl false))) dNext)
  (dRet (dCall (C .law_answers) [false, false, false] [] (dCons (dLst 1 (dCons (dVar 10) dNil)) (dCons (dOp opIx (dOp opIx (dVar 12) (dC (.int 0))) (dC (.int 0))) (dCons (dOp opIx (dOp opIx (dVar 12) (dC (.int 0))) (dC (.int 1))) dNil)))))))))))
def rd_law (C : Cal) : DS :=
  (dSeq (dAsg 1 (dCall (C .law_digits) [false, false] [] (dCons (dCall (C .law_cell) [false, false] [] (dCons (dVar 0) (dCons (dC (.int 0)) dNil))) (dCons (dOp opMul (dLst 1 (dCons (dC (.int 60)) dNil)) (dC (.int 90))) dNil))))
  (dSeq (dAsg 2 (dLst 1 (dCons (dC (.int 0)) dNil)))
  (dSeq (dAsg 3 (dCall (C .law_fresh_viv) [false, true, false] [] (dCons (dVar 1) (dCons (dVar 2) (dCons (dOp opIx (dLst 6 (dCons (dC (.int 3)) (dCons (dC (.int 2)) (dCons (dC (.int 4)) (dCons (dC (.int 1)) (dCons (dC (.int 5)) (dCons (dC (.int 9)) dNil))))))) (dCall (C .law_take_viv) [false, true, false] [] (dCons (dVar 1) (dCons (dVar 2) (dCons (dC (.int 6)) dNil))))) dNil)))))
  (dSeq (dAsg 4 (dLst 0 dNil))
  (dSeq (dAsg 5 (dLst 0 dNil))
  (dSeq (dAsg 6 (dLst 0 dNil))
  (dSeq (dFor (diAny (dVar 3)) (dgName 7) (rd_law_L0 C))
  (dSeq (dAsg 9 (dCall (C .law_digits) [false, false] [] (dCons (dCall (C .law_cell) [false, false] [] (dCons (dVar 0) (dCons (dC (.int 1)) dNil))) (dCons (dOp opMul (dLst 1 (dCons (dC (.int 60)) dNil)) (dC (.int 240))) dNil))))
  (dSeq (dAsg 10 (dCall (C .law_member_viv) [false, true, false] [] (dCons (dVar 9) (dConsF (dLst 1 (dCons (dC (.int 0)) dNil)) (dCons (dVar 3) dNil)))))
  (dSeq (dAsg 11 (dCall (C .law_within) [false] [] (dCons (dVar 10) dNil)))
  (dSeq (dIf (dTest (dOp opNe (dOp opIx (dVar 10) (dC (.int 0))) (dC (.str (Str.ofString "not"))))) (dAppend 11 (dTup 2 (dCons (dC (.str (Str.ofString "not"))) (dCons (dVar 10) dNil)))) dNext)
  (rd_law_J0 C))))))))))))
def rd_law_digits_L0 (C : Cal) : DS :=
  (dSeq (dAppend 2 (dOp opMod (dCallB bInt (dCons (dVar 3) dNil)) (dVar 4)))
  (dAsg 3 (dOp opFdiv (dCallB bInt (dCons (dVar 3) dNil)) (dVar 4))))
def rd_law_digits_L1 (C : Cal) : DS :=
  (dSeq (dAsg 5 (dOp opMod (dCallB bInt (dCons (dOp opAdd (dOp opAdd (dOp opMul (dVar 5) (dC (.int 48271))) (dOp opMul (dC (.int 974711)) (dVar 6))) (dC (.int 12345))) dNil)) (dC (.int 2147483647))))
  (dSeq (dAsg 7 (dOp opMod (dCallB bInt (dCons (dOp opMul (dVar 5) (dOp opAdd (dOp opFdiv (dVar 5) (dC (.int 65537))) (dC (.int 3)))) dNil)) (dC (.int 2147483629))))
  (dAppend 2 (dOp opMod (dOp opFdiv (dVar 7) (dC (.int 19))) (dOp opIx (dVar 1) (dVar 6))))))
def rd_law_digits (C : Cal) : DS :=
  (dSeq (dAsg 2 (dLst 0 dNil))
  (dSeq (dAsg 3 (dCallB bInt (dCons (dVar 0) dNil)))
  (dSeq (dIf (dTest (dOp opGe (dVar 3) (dOp opPow (dC (.int 10)) (dC (.int 18))))) (dSeq (dAsg 3 (dOp opSub (dVar 3) (dOp opPow (dC (.int 10)) (dC (.int 18)))))
  (dSeq (dFor (diAny (dVar 1)) (dgName 4) (rd_law_digits_L0 C))
  (dRet (dVar 2)))) dNext)
  (dSeq (dAsg 5 (dOp opMod (dCallB bInt (dCons (dVar 3) dNil)) (dC (.int 2147483629))))
  (dSeq (dFor (diRange1 (dCallB bLen (dCons (dVar 1) dNil))) (dgName 6) (rd_law_digits_L1 C))
  (dRet (dVar 2)))))))
def rd_law_cell_L0 (C : Cal) : DS :=
  (dAsg 2 (dOp opMod (dCallB bInt (dCons (dOp opAdd (dOp opMul (dVar 2) (dC (.int 31))) (dOp opMod (dCallB bInt (dCons (dVar 3) dNil)) (dC (.int 1000003)))) dNil)) (dC (.int 1000003))))
def rd_law_cell (C : Cal) : DS :=
  (dSeq (dIf (dTest (dOp opLt (dVar 1) (dCallB bLen (dCons (dVar 0) dNil)))) (dRet (dOp opIx (dVar 0) (dVar 1))) dNext)
  (dSeq (dAsg 2 (dC (.int 17)))
  (dSeq (dFor (diAny (dVar 0)) (dgName 3) (rd_law_cell_L0 C))
  (dRet (dOp opMod (dCallB bInt (dCons (dOp opMul (dOp opMul (dOp opAdd (dVar 2) (dC (.int 7))) (dOp opAdd (dVar 1) (dC (.int 3)))) (dC (.int 69621))) dNil)) (dC (.int 2147483647)))))))
def rd_law_fresh_viv_L0 (C : Cal) : DS :=
  (dAsg 6 (dOp opAdd (dVar 6) (dOp opIx (dVar 3) (dOp opMod (dCallB bInt (dCons (dCall (C .law_take_viv) [false, true, false] [] (dCons (dVar 0) (dCons (dVar 1) (dCons (dC (.int 60)) dNil)))) dNil)) (dC (.int 36))))))
def rd_law_fresh_viv_J0 (C : Cal) : DS :=
  (dAppend 4 (dVar 6))
def rd_law_fresh_viv_J1 (C : Cal) : DS :=
  (dSeq (dIf (dOr (dTest (dOp opIn (dVar 6) (dVar 4))) (dOr (dTest (dOp opIn (dVar 6) (dLst 4 (dCons (dC (.str (Str.ofString "all"))) (dCons (dC (.str (Str.ofString "some"))) (dCons (dC (.str (Str.ofString "not"))) (dCons (dC (.str (Str.ofString "gives"))) dNil))))))) (dAnd (dTest (dOp opEq (dSl (dVar 6) dNoPart (dPart (dC (.int 2)))) (dC (.str (Str.ofString "no"))))) (dTruth (dM0 (fun x k => k (.v (.bl (Txt.isdigit x)))) (dSl (dVar 6) (dPart (dC (.int 2))) dNoPart)))))) (dAsg 6 (dOp opAdd (dC (.str (Str.ofString "w"))) (dCallB bStr (dCons (dVar 5) dNil)))) dNext)
  (rd_law_fresh_viv_J0 C))
def rd_law_fresh_viv_L1 (C : Cal) : DS :=
  (dSeq (dAsg 6 (dOp opIx (dVar 3) (dOp opMod (dCallB bInt (dCons (dCall (C .law_take_viv) [false, true, false] [] (dCons (dVar 0) (dCons (dVar 1) (dCons (dC (.int 60)) dNil)))) dNil)) (dC (.int 26)))))
  (dSeq (dIf (dAnd (dTest (dOp opGt (dVar 5) (dC (.int 0)))) (dAnd (dTest (dOp opLt (dCallB bLen (dCons (dOp opIx (dVar 4) (dNeg (dC (.int 1)))) dNil)) (dC (.int 8)))) (dTest (dOp opEq (dCall (C .law_take_viv) [false, true, false] [] (dCons (dVar 0) (dCons (dVar 1) (dCons (dC (.int 3)) dNil)))) (dC (.int 0)))))) (dAsg 6 (dOp opAdd (dOp opIx (dVar 4) (dNeg (dC (.int 1)))) (dOp opIx (dVar 3) (dOp opMod (dCallB bInt (dCons (dCall (C .law_take_viv) [false, true, false] [] (dCons (dVar 0) (dCons (dVar 1) (dCons (dC (.int 60)) dNil)))) dNil)) (dC (.int 36)))))) (dFor (diRange1 (dOp opIx (dLst 6 (dCons (dC (.int 0)) (dCons (dC (.int 0)) (dCons (dC (.int 1)) (dCons (dC (.int 2)) (dCons (dC (.int 4)) (dCons (dC (.int 7)) dNil))))))) (dCall (C .law_take_viv) [false, true, false] [] (dCons (dVar 0) (dCons (dVar 1) (dCons (dC (.int 6)) dNil)))))) (dgName 7) (rd_law_fresh_viv_L0 C)))
  (rd_law_fresh_viv_J1 C)))
def rd_law_fresh_viv (C : Cal) : DS :=
  (dSeq (dAsg 3 (dC (.str (Str.ofString "abcdefghijklmnopqrstuvwxyz0123456789"))))
  (dSeq (dAsg 4 (dLst 0 dNil))
  (dSeq (dFor (diRange1 (dVar 2)) (dgName 5) (rd_law_fresh_viv_L1 C))
  (dRet (dCall (C .law_ascending) [false] [] (dCons (dVar 4) dNil))))))
def rd_law_take_viv (C : Cal) : DS :=
  (dSeq (dAsg 3 (dOp opMod (dCallB bInt (dCons (dOp opIx (dVar 0) (dOp opMod (dOp opIx (dVar 1) (dC (.int 0))) (dCallB bLen (dCons (dVar 0) dNil)))) dNil)) (dVar 2)))
  (dSeq (dSetIx 1 (dC (.int 0)) (dOp opAdd (dOp opIx (dVar 1) (dC (.int 0))) (dC (.int 1))))
  (dRet (dVar 3))))
def rd_law_member_viv_J0 (C : Cal) : DS :=
  (dSeq (dIf (dAnd (dTruth (dVar 3)) (dTest (dOp opEq (dCall (C .law_take_viv) [false, true, false] [] (dCons (dVar 0) (dCons (dVar 1) (dCons (dC (.int 5)) dNil)))) (dC (.int 0))))) (dRet (dTup 2 (dCons (dC (.str (Str.ofString "not"))) (dCons (dVar 5) dNil)))) dNext)
  (dRet (dVar 5)))
def rd_law_member_viv (C : Cal) : DS :=
  (dSeq (dAsg 3 (dOp opGt (dCall (C .law_take_viv) [false, true, false] [] (dCons (dVar 0) (dCons (dVar 1) (dCons (dC (.int 4)) dNil)))) (dC (.int 0))))
  (dSeq (dAsg 4 (dCall (C .law_take_viv) [false, true, false] [] (dCons (dVar 0) (dCons (dVar 1) (dCons (dC (.int 6)) dNil)))))
  (dSeq (dIf (dTest (dOp opEq (dVar 4) (dC (.int 0)))) (dAsg 5 (dCall (C .law_spine_vivvv) [false, true, false, false, false] [] (dCons (dVar 0) (dCons (dVar 1) (dCons (dVar 2) (dCons (dOp opIx (dLst 10 (dCons (dC (.int 8)) (dCons (dC (.int 3)) (dCons (dC (.int 5)) (dCons (dC (.int 2)) (dCons (dC (.int 6)) (dCons (dC (.int 4)) (dCons (dC (.int 7)) (dCons (dC (.int 1)) (dCons (dC (.int 8)) (dCons (dC (.int 3)) dNil))))))))))) (dCall (C .law_take_viv) [false, true, false] [] (dCons (dVar 0) (dCons (dVar 1) (dCons (dC (.int 10)) dNil))))) (dCons (dVar 3) dNil))))))) (dSeq (dAsg 6 (dOp opIx (dLst 5 (dCons (dC (.int 8)) (dCons (dC (.int 3)) (dCons (dC (.int 2)) (dCons (dC (.int 4)) (dCons (dC (.int 3)) dNil)))))) (dOp opSub (dVar 4) (dC (.int 1)))))
  (dAsg 5 (dCall (C .law_sized_vivvvv) [false, true, false, false, false, false] [] (dCons (dVar 0) (dCons (dVar 1) (dCons (dVar 2) (dCons (dVar 6) (dCons (dOp opIx (dLst 5 (dCons (dC (.int 59)) (dCons (dC (.int 12)) (dCons (dC (.int 8)) (dCons (dC (.int 24)) (dCons (dC (.int 16)) dNil)))))) (dOp opSub (dVar 4) (dC (.int 1)))) (dCons (dVar 3) dNil))))))))))
  (rd_law_member_viv_J0 C))))
def rd_law_within_L0 (C : Cal) : DS :=
  (dAsg 1 (dOp opAdd (dVar 1) (dCall (C .law_within) [false] [] (dCons (dVar 2) dNil))))
def rd_law_within_J0 (C : Cal) : DS :=
  (dRet (dVar 1))
def rd_law_within (C : Cal) : DS :=
  (dSeq (dAsg 1 (dLst 1 (dCons (dVar 0) dNil)))
  (dSeq (dIf (dTest (dOp opEq (dOp opIx (dVar 0) (dC (.int 0))) (dC (.str (Str.ofString "not"))))) (dRet (dOp opAdd (dVar 1) (dCall (C .law_within) [false] [] (dCons (dOp opIx (dVar 0) (dC (.int 1))) dNil)))) dNext)
  (dSeq (dIf (dTest (dOp opNe (dOp opIx (dVar 0) (dC (.int 0))) (dC (.str (Str.ofString "atom"))))) (dFor (diAny (dOp opIx (dVar 0) (dC (.int 1)))) (dgName 2) (rd_law_within_L0 C)) dNext)
  (rd_law_within_J0 C))))
def rd_law_ascending_L0 (C : Cal) : DS :=
  (dIf (dOr (dTest (dOp opEq (dCallB bLen (dCons (dVar 1) dNil)) (dC (.int 0)))) (dTest (dOp opNe (dOp opIx (dVar 1) (dNeg (dC (.int 1)))) (dVar 2)))) (dAppend 1 (dVar 2)) dNext)
def rd_law_ascending (C : Cal) : DS :=
  (dSeq (dAsg 1 (dLst 0 dNil))
  (dSeq (dFor (diAny (dCallB bSortedS (dCons (dVar 0) dNil))) (dgName 2) (rd_law_ascending_L0 C))
  (dRet (dCallB bTuple (dCons (dVar 1) dNil)))))
def rd_law_answers_L0 (C : Cal) : DS :=
  (dSeq (dAsg 4 (dCall (C .law_sure) [false, false, false] [] (dCons (dVar 3) (dCons (dVar 1) (dCons (dVar 2) dNil)))))
  (dSeq (dAsg 5 (dCall (C .surely) [false, false, false] [] (dCons (dVar 3) (dCons (dVar 1) (dCons (dVar 2) dNil)))))
  (dSeq (dIf (dAnd (dTest (dOp opEq (dVar 4) (dC (.int 0)))) (dTest (dOp opIsNot (dVar 5) (dC .non)))) (dRet (dC (.bl false))) dNext)
  (dSeq (dIf (dAnd (dTest (dOp opGt (dVar 4) (dC (.int 0)))) (dTest (dOp opIsNot (dVar 5) (dC (.bl true))))) (dRet (dC (.bl false))) dNext)
  (dIf (dAnd (dTest (dOp opLt (dVar 4) (dC (.int 0)))) (dTest (dOp opIsNot (dVar 5) (dC (.bl false))))) (dRet (dC (.bl false))) dNext)))))
def rd_law_answers (C : Cal) : DS :=
  (dSeq (dFor (diAny (dVar 0)) (dgName 3) (rd_law_answers_L0 C))
  (dRet (dC (.bl true))))
def rd_law_holds_later_L0 (C : Cal) : DS :=
  (dSeq (dIf (dAnd (dTest (dOp opGt (dVar 4) (dC (.int 0)))) (dNot (dTruth (dCall (C .law_on) [false, false] [] (dCons (dVar 0) (dCons (dVar 5) dNil)))))) (dRet (dC (.bl false))) dNext)
  (dIf (dAnd (dTest (dOp opLt (dVar 4) (dC (.int 0)))) (dTruth (dCall (C .law_on) [false, false] [] (dCons (dVar 0) (dCons (dVar 5) dNil))))) (dRet (dC (.bl false))) dNext))
def rd_law_holds_later (C : Cal) : DS :=
  (dSeq (dAsg 4 (dCall (C .law_sure) [false, false, false] [] (dCons (dVar 0) (dCons (dVar 2) (dCons (dVar 3) dNil)))))
  (dSeq (dFor (diAny (dCall (C .law_completions) [false, false, false] [] (dCons (dVar 1) (dCons (dVar 2) (dCons (dVar 3) dNil))))) (dgName 5) (rd_law_holds_later_L0 C))
  (dRet (dC (.bl true)))))
def rd_surely (C : Cal) : DS :=
  (dSeq (dAsg 3 (dOp opIx (dVar 0) (dC (.int 0))))
  (dSeq (dIf (dTest (dOp opEq (dVar 3) (dC (.str (Str.ofString "atom"))))) (dSeq (dIf (dTest (dOp opIn (dOp opIx (dVar 0) (dC (.int 1))) (dVar 1))) (dRet (dC (.bl true))) dNext)
  (dSeq (dIf (dTest (dOp opIn (dOp opIx (dVar 0) (dC (.int 1))) (dVar 2))) (dRet (dC (.bl false))) dNext)
  (dRet (dC .non)))) dNext)
  (dSeq (dIf (dTest (dOp opEq (dVar 3) (dC (.str (Str.ofString "not"))))) (dSeq (dAsg 4 (dCall (C .surely) [false, false, false] [] (dCons (dOp opIx (dVar 0) (dC (.int 1))) (dCons (dVar 1) (dCons (dVar 2) dNil)))))
  (dSeq (dIf (dTest (dOp opIs (dVar 4) (dC .non))) (dRet (dC .non)) dNext)
  (dRet (dNotV (dVar 4))))) dNext)
  (dSeq (dAsg 5 (dLc [6] (diAny (dOp opIx (dVar 0) (dC (.int 1)))) (dgName 6) dYes (dCall (C .surely) [false, false, false] [] (dCons (dVar 6) (dCons (dVar 1) (dCons (dVar 2) dNil))))))
  (dSeq (dIf (dAnd (dTest (dOp opEq (dVar 3) (dC (.str (Str.ofString "all"))))) (dTest (dOp opIn (dC (.bl false)) (dVar 5)))) (dRet (dC (.bl false))) dNext)
  (dSeq (dIf (dAnd (dTest (dOp opEq (dVar 3) (dC (.str (Str.ofString "some"))))) (dTest (dOp opIn (dC (.bl true)) (dVar 5)))) (dRet (dC (.bl true))) dNext)
  (dSeq (dIf (dTest (dOp opIn (dC .non) (dVar 5))) (dRet (dC .non)) dNext)
  (dRet (dOp opEq (dVar 3) (dC (.str (Str.ofString "all"))))))))))))
def rd_law_on_L0 (C : Cal) : DS :=
  (dIf (dTest (dOp opNe (dCall (C .law_on) [false, false] [] (dCons (dVar 2) (dCons (dVar 1) dNil))) (dOp opEq (dOp opIx (dVar 0) (dC (.int 0))) (dC (.str (Str.ofString "all")))))) (dRet (dOp opNe (dOp opIx (dVar 0) (dC (.int 0))) (dC (.str (Str.ofString "all"))))) dNext)
def rd_law_on (C : Cal) : DS :=
  (dSeq (dIf (dTest (dOp opEq (dOp opIx (dVar 0) (dC (.int 0))) (dC (.str (Str.ofString "atom"))))) (dRet (dOp opIn (dOp opIx (dVar 0) (dC (.int 1))) (dVar 1))) dNext)
  (dSeq (dIf (dTest (dOp opEq (dOp opIx (dVar 0) (dC (.int 0))) (dC (.str (Str.ofString "not"))))) (dRet (dNotV (dCall (C .law_on) [false, false] [] (dCons (dOp opIx (dVar 0) (dC (.int 1))) (dCons (dVar 1) dNil))))) dNext)
  (dSeq (dFor (diAny (dOp opIx (dVar 0) (dC (.int 1)))) (dgName 2) (rd_law_on_L0 C))
  (dRet (dOp opEq (dOp opIx (dVar 0) (dC (.int 0))) (dC (.str (Str.ofString "all"))))))))
def rd_law_spine_vivvv_J0 (C : Cal) : DS :=
  (dAsg 7 (dOp opIx (dLst 2 (dCons (dOp opAdd (dVar 7) (dLst 1 (dCons (dVar 9) dNil))) (dCons (dOp opAdd (dLst 1 (dCons (dVar 9) dNil)) (dVar 7)) dNil))) (dCall (C .law_take_viv) [false, true, false] [] (dCons (dVar 0) (dCons (dVar 1) (dCons (dC (.int 2)) dNil))))))
def rd_law_spine_vivvv_L0 (C : Cal) : DS :=
  (dSeq (dAsg 9 (dTup 2 (dCons (dC (.str (Str.ofString "atom"))) (dCons (dOp opIx (dVar 2) (dOp opMod (dCallB bInt (dCons (dCall (C .law_take_viv) [false, true, false] [] (dCons (dVar 0) (dCons (dVar 1) (dCons (dC (.int 60)) dNil)))) dNil)) (dCallB bLen (dCons (dVar 2) dNil)))) dNil))))
  (dSeq (dIf (dAnd (dTruth (dVar 4)) (dTest (dOp opEq (dCall (C .law_take_viv) [false, true, false] [] (dCons (dVar 0) (dCons (dVar 1) (dCons (dC (.int 4)) dNil)))) (dC (.int 0))))) (dAsg 9 (dTup 2 (dCons (dC (.str (Str.ofString "not"))) (dCons (dVar 9) dNil)))) dNext)
  (rd_law_spine_vivvv_J0 C)))
def rd_law_spine_vivvv_J1 (C : Cal) : DS :=
  (dSeq (dFor (diRange1 (dCall (C .law_take_viv) [false, true, false] [] (dCons (dVar 0) (dCons (dVar 1) (dCons (dC (.int 3)) dNil))))) (dgName 8) (rd_law_spine_vivvv_L0 C))
  (dAsg 5 (dTup 2 (dCons (dOp opIx (dLst 2 (dCons (dC (.str (Str.ofString "all"))) (dCons (dC (.str (Str.ofString "some"))) dNil))) (dCall (C .law_take_viv) [false, true, false] [] (dCons (dVar 0) (dCons (dVar 1) (dCons (dC (.int 2)) dNil))))) (dCons (dCallB bTuple (dCons (dVar 7) dNil)) dNil)))))
def rd_law_spine_vivvv_L1 (C : Cal) : DS :=
  (dSeq (dAsg 7 (dLst 1 (dCons (dVar 5) dNil)))
  (dSeq (dIf (dAnd (dTruth (dVar 4)) (dTest (dOp opEq (dCall (C .law_take_viv) [false, true, false] [] (dCons (dVar 0) (dCons (dVar 1) (dCons (dC (.int 3)) dNil)))) (dC (.int 0))))) (dAsg 7 (dLst 1 (dCons (dTup 2 (dCons (dC (.str (Str.ofString "not"))) (dCons (dVar 5) dNil))) dNil))) dNext)
  (rd_law_spine_vivvv_J1 C)))
def rd_law_spine_vivvv (C : Cal) : DS :=
  (dSeq (dAsg 5 (dTup 2 (dCons (dC (.str (Str.ofString "atom"))) (dCons (dOp opIx (dVar 2) (dOp opMod (dCallB bInt (dCons (dCall (C .law_take_viv) [false, true, false] [] (dCons (dVar 0) (dCons (dVar 1) (dCons (dC (.int 60)) dNil)))) dNil)) (dCallB bLen (dCons (dVar 2) dNil)))) dNil))))
  (dSeq (dFor (diRange1 (dVar 3)) (dgName 6) (rd_law_spine_vivvv_L1 C))
  (dRet (dVar 5))))
def rd_law_sized_vivvvv_J0 (C : Cal) : DS :=
  (dIf (dTest (dOp opGt (dVar 10) (dC (.int 0)))) (dSeq (dAsg 12 (dCall (C .law_sized_vivvvv) [false, true, false, false, false, false] [] (dCons (dVar 0) (dCons (dVar 1) (dCons (dVar 2) (dCons (dOp opSub (dVar 3) (dC (.int 1))) (dCons (dOp opSub (dVar 10) (dVar 11)) (dCons (dVar 5) dNil))))))))
  (dSeq (dAsg 7 (dOp opSub (dOp opSub (dVar 7) (dVar 11)) (dCall (C .law_size) [false] [] (dCons (dVar 12) dNil))))
  (dAppend 8 (dOp opIx (dLst 2 (dCons (dVar 12) (dCons (dTup 2 (dCons (dC (.str (Str.ofString "not"))) (dCons (dVar 12) dNil))) dNil))) (dVar 11))))) dNext)
def rd_law_sized_vivvvv_L0 (C : Cal) : DS :=
  (dSeq (dAsg 10 (dOp opFdiv (dVar 7) (dOp opSub (dVar 6) (dVar 9))))
  (dSeq (dAsg 11 (dCallB bInt (dCons (dAndV (dVar 5) (dAndV (dOp opGt (dVar 10) (dC (.int 1))) (dOp opLt (dCall (C .law_take_viv) [false, true, false] [] (dCons (dVar 0) (dCons (dVar 1) (dCons (dC (.int 5)) dNil)))) (dC (.int 2))))) dNil)))
  (rd_law_sized_vivvvv_J0 C)))
def rd_law_sized_vivvvv (C : Cal) : DS :=
  (dSeq (dIf (dOr (dTest (dOp opEq (dVar 3) (dC (.int 0)))) (dOr (dTest (dOp opLt (dVar 4) (dC (.int 2)))) (dTest (dOp opLt (dCall (C .law_take_viv) [false, true, false] [] (dCons (dVar 0) (dCons (dVar 1) (dCons (dC (.int 10)) dNil)))) (dC (.int 2)))))) (dRet (dTup 2 (dCons (dC (.str (Str.ofString "atom"))) (dCons (dOp opIx (dVar 2) (dOp opMod (dCallB bInt (dCons (dCall (C .law_take_viv) [false, true, false] [] (dCons (dVar 0) (dCons (dVar 1) (dCons (dC (.int 60)) dNil)))) dNil)) (dCallB bLen (dCons (dVar 2) dNil)))) dNil)))) dNext)
  (dSeq (dAsg 6 (dOp opIx (dLst 12 (dCons (dC (.int 2)) (dCons (dC (.int 2)) (dCons (dC (.int 3)) (dCons (dC (.int 1)) (dCons (dC (.int 2)) (dCons (dC (.int 3)) (dCons (dC (.int 2)) (dCons (dC (.int 2)) (dCons (dC (.int 4)) (dCons (dC (.int 0)) (dCons (dC (.int 2)) (dCons (dC (.int 5)) dNil))))))))))))) (dCall (C .law_take_viv) [false, true, false] [] (dCons (dVar 0) (dCons (dVar 1) (dCons (dC (.int 12)) dNil))))))
  (dSeq (dAsg 7 (dOp opSub (dVar 4) (dC (.int 1))))
  (dSeq (dAsg 8 (dLst 0 dNil))
  (dSeq (dFor (diRange1 (dVar 6)) (dgName 9) (rd_law_sized_vivvvv_L0 C))
  (dRet (dTup 2 (dCons (dOp opIx (dLst 2 (dCons (dC (.str (Str.ofString "all"))) (dCons (dC (.str (Str.ofString "some"))) dNil))) (dCall (C .law_take_viv) [false, true, false] [] (dCons (dVar 0) (dCons (dVar 1) (dCons (dC (.int 2)) dNil))))) (dCons (dCallB bTuple (dCons (dVar 8) dNil)) dNil)))))))))
def rd_law_sure_L0 (C : Cal) : DS :=
  (dAsg 3 (dCallB bMin (dCons (dVar 3) (dCons (dCall (C .law_sure) [false, false, false] [] (dCons (dVar 4) (dCons (dVar 1) (dCons (dVar 2) dNil)))) dNil))))
def rd_law_sure_L1 (C : Cal) : DS :=
  (dAsg 5 (dCallB bMax (dCons (dVar 5) (dCons (dCall (C .law_sure) [false, false, false] [] (dCons (dVar 4) (dCons (dVar 1) (dCons (dVar 2) dNil)))) dNil))))
def rd_law_sure (C : Cal) : DS :=
  (dSeq (dIf (dTest (dOp opEq (dOp opIx (dVar 0) (dC (.int 0))) (dC (.str (Str.ofString "atom"))))) (dRet (dOp opSub (dCallB bInt (dCons (dOp opIn (dOp opIx (dVar 0) (dC (.int 1))) (dVar 1)) dNil)) (dCallB bInt (dCons (dOp opIn (dOp opIx (dVar 0) (dC (.int 1))) (dVar 2)) dNil)))) dNext)
  (dSeq (dIf (dTest (dOp opEq (dOp opIx (dVar 0) (dC (.int 0))) (dC (.str (Str.ofString "not"))))) (dRet (dOp opSub (dC (.int 0)) (dCall (C .law_sure) [false, false, false] [] (dCons (dOp opIx (dVar 0) (dC (.int 1))) (dCons (dVar 1) (dCons (dVar 2) dNil)))))) dNext)
  (dSeq (dIf (dTest (dOp opEq (dOp opIx (dVar 0) (dC (.int 0))) (dC (.str (Str.ofString "all"))))) (dSeq (dAsg 3 (dC (.int 1)))
  (dSeq (dFor (diAny (dOp opIx (dVar 0) (dC (.int 1)))) (dgName 4) (rd_law_sure_L0 C))
  (dRet (dVar 3)))) dNext)
  (dSeq (dAsg 5 (dOp opSub (dC (.int 0)) (dC (.int 1))))
  (dSeq (dFor (diAny (dOp opIx (dVar 0) (dC (.int 1)))) (dgName 4) (rd_law_sure_L1 C))
  (dRet (dVar 5)))))))
def rd_law_completions_J0 (C : Cal) : DS :=
  (dIf (dTest (dOp opNotIn (dVar 4) (dVar 2))) (dAppend 5 (dOp opAdd (dVar 6) (dTup 1 (dCons (dVar 4) dNil)))) dNext)
def rd_law_completions_L0 (C : Cal) : DS :=
  (dSeq (dIf (dTest (dOp opNotIn (dVar 4) (dVar 1))) (dAppend 5 (dVar 6)) dNext)
  (rd_law_completions_J0 C))
def rd_law_completions_L1 (C : Cal) : DS :=
  (dSeq (dAsg 5 (dLst 0 dNil))
  (dSeq (dFor (diAny (dVar 3)) (dgName 6) (rd_law_completions_L0 C))
  (dAsg 3 (dVar 5))))
def rd_law_completions (C : Cal) : DS :=
  (dSeq (dAsg 3 (dLst 1 (dCons (dTup 0 dNil) dNil)))
  (dSeq (dFor (diAny (dVar 0)) (dgName 4) (rd_law_completions_L1 C))
  (dRet (dVar 3))))
def rd_law_size (C : Cal) : DS :=
  (dSeq (dIf (dTest (dOp opEq (dOp opIx (dVar 0) (dC (.int 0))) (dC (.str (Str.ofString "atom"))))) (dRet (dC (.int 1))) dNext)
  (dSeq (dIf (dTest (dOp opEq (dOp opIx (dVar 0) (dC (.int 0))) (dC (.str (Str.ofString "not"))))) (dRet (dOp opAdd (dC (.int 1)) (dCall (C .law_size) [false] [] (dCons (dOp opIx (dVar 0) (dC (.int 1))) dNil)))) dNext)
  (dRet (dOp opAdd (dC (.int 1)) (dCallB bSum (dCons (dLc [1] (diAny (dOp opIx (dVar 0) (dC (.int 1)))) (dgName 1) dYes (dCall (C .law_size) [false] [] (dCons (dVar 1) dNil))) dNil))))))
def sem : Nat → Fn → DSp
  | 0, _ => fun _ _ => False
  | n + 1, .law => dFn 15 [false] (rd_law (sem n))
  | n + 1, .law_digits => dFn 8 [false, false] (rd_law_digits (sem n))
  | n + 1, .law_cell => dFn 4 [false, false] (rd_law_cell (sem n))
  | n + 1, .law_fresh_viv => dFn 8 [false, true, false] (rd_law_fresh_viv (sem n))
  | n + 1, .law_take_viv => dFn 4 [false, true, false] (rd_law_take_viv (sem n))
  | n + 1, .law_member_viv => dFn 7 [false, true, false] (rd_law_member_viv (sem n))
  | n + 1, .law_within => dFn 3 [false] (rd_law_within (sem n))
  | n + 1, .law_ascending => dFn 3 [false] (rd_law_ascending (sem n))
  | n + 1, .law_answers => dFn 6 [false, false, false] (rd_law_answers (sem n))
  | n + 1, .law_holds_later => dFn 6 [false, false, false, false] (rd_law_holds_later (sem n))
  | n + 1, .surely => dFn 7 [false, false, false] (rd_surely (sem n))
  | n + 1, .law_on => dFn 3 [false, false] (rd_law_on (sem n))
  | n + 1, .law_spine_vivvv => dFn 10 [false, true, false, false, false] (rd_law_spine_vivvv (sem n))
  | n + 1, .law_sized_vivvvv => dFn 13 [false, true, false, false, false, false] (rd_law_sized_vivvvv (sem n))
  | n + 1, .law_sure => dFn 6 [false, false, false] (rd_law_sure (sem n))
  | n + 1, .law_completions => dFn 7 [false, false, false] (rd_law_completions (sem n))
  | n + 1, .law_size => dFn 2 [false] (rd_law_size (sem n))
def psOf : Fn → List Str
  | .law => ["script"]
  | .law_digits => ["cell", "sizes"]
  | .law_cell => ["script", "k"]
  | .law_fresh_viv => ["row", "at", "many"]
  | .law_take_viv => ["row", "at", "size"]
  | .law_member_viv => ["row", "at", "names"]
  | .law_within => ["member"]
  | .law_ascending => ["items"]
  | .law_answers => ["found", "on", "off"]
  | .law_holds_later => ["member", "names", "on", "off"]
  | .surely => ["member", "on", "off"]
  | .law_on => ["member", "world"]
  | .law_spine_vivvv => ["row", "at", "names", "deep", "marked"]
  | .law_sized_vivvvv => ["row", "at", "names", "deep", "room", "marked"]
  | .law_sure => ["member", "on", "off"]
  | .law_completions => ["names", "on", "off"]
  | .law_size => ["member"]
end K17
namespace K17
open N1
open PySem (Str sizeLine)
local macro_rules
  | `(tactic| and_intros) => `(tactic| repeat (first
    | refine And.intro (by first | rfl | decide | exact ⟨by omega, by omega⟩ | exact cmul_l (by omega) (by omega) | exact cmul_r (by omega) (by omega) | assumption | omega | exact fit_strs _ _ | exact fit_ints _ _ | (simp only [List.length_map, List.length_append, List.length_cons, List.length_nil, sizeLine_is]; omega)) ?_
    | refine Br.yes rfl ?_
    | refine Br.no rfl ?_
    | refine Br.is (by first | rfl | assumption | omega) ?_
    | refine Br.isnt (by first | assumption | exact k_not_atom | exact k_kd_atom _ | exact k_kd_not _ | exact k_atom_not | exact k_sa | exact k_as | omega) ?_
    | refine Br.notis (by first | assumption | exact k_not_atom | exact k_kd_atom _ | exact k_kd_not _ | exact k_atom_not | exact k_sa | exact k_as | omega) ?_
    | refine Br.notisnt (by first | rfl | assumption | omega) ?_))
theorem take_ok (N : Nat) (hN : 0 < N) {ns : List Int} {k size : Int} {R : Tok → List (List T) → Prop} (h0 : 0 < ns.length) (hs : 0 < size) (h : ∀ v, 0 ≤ v → v < size → R (.v (.int v)) [[.int (k + 1)]]) :
    sem N .law_take_viv [.v (.lst (ns.map .int)), .io [.int k], .v (.int size)] R := by
  obtain ⟨n, rfl⟩ : ∃ M, N = M + 1 := ⟨N - 1, by omega⟩
  refine ⟨rfl, ?_⟩
  have hl : (0 : Int) < ((ns.map T.int).length : Nat) := by rw [List.length_map]; omega
  obtain ⟨v, e, _⟩ := atT_in (ts := ns) (i := k % ((ns.map T.int).length : Nat)) (Int.emod_nonneg _ (by omega)) (by rw [List.length_map]; exact Int.emod_lt_of_pos _ (by omega))
  refine ⟨hl, ifSome.of (t := .int v) (by rw [atT_map, e]; rfl) ⟨hs, rfl, ?_⟩⟩
  exact ⟨rfl, h _ (Int.emod_nonneg _ (by omega)) (Int.emod_lt_of_pos _ hs)⟩
theorem cell_ok (N : Nat) (hN : 0 < N) {ns : List Int} {k : Nat} {R : Tok → List (List T) → Prop} (hn : ns.length ≤ 63) (hk : k ≤ 63) (h : ∀ v : Int, R (.v (.int v)) []) :
    sem N .law_cell [.v (.lsk (ns.map .int)), .v (.int k)] R := by
  obtain ⟨n, rfl⟩ : ∃ M, N = M + 1 := ⟨N - 1, by omega⟩
  refine ⟨rfl, ?_⟩
  refine Br.of (fun hlt => ?_) (fun hge => ?_)
  · rw [List.length_map] at hlt
    have hlt' : k < ns.length := by omega
    refine ifSome.of (t := .int ns[k]) ?_ (h _)
    rw [atT_map, atT_get hlt']
    rfl
  · refine for_inv (e := T.int) (fun _ τ => ∃ s x, 0 ≤ s ∧ s < 1000003 ∧ τ = [some (.val (.lsk (ns.map .int))), some (.val (.int k)), some (.val (.int s)), x]) ns (fun pre x post e τ hi K hK => ?_) (fun τ hi => ?_) _ ⟨17, none, by decide, by decide, rfl⟩
    · obtain ⟨s, y, s0, s1, rfl⟩ := hi
      refine ⟨cmul_l (by omega) (by omega), by decide, by decide, hK _ ⟨_, _, Int.emod_nonneg _ (by decide), Int.emod_lt_of_pos _ (by decide), rfl⟩⟩
    · obtain ⟨s, y, s0, s1, rfl⟩ := hi
      refine ⟨cmul_l (by omega) (by omega), cmul_r (by decide) (by decide), by decide, h _⟩
theorem digits_ok (N : Nat) (hN : 0 < N) {c : Int} {ts : List T} {R : Tok → List (List T) → Prop} (sz : List Int) (et : ts = sz.map .int) (hz : ∀ z ∈ sz, 0 < z ∧ z < 1000000) (hl : sz.length ≤ 1000) (h : ∀ ns : List Int, ns.length = sz.length → R (.fr (ns.map .int)) []) :
    sem N .law_digits [.v (.int c), .v (.lst ts)] R := by
  obtain ⟨n, rfl⟩ : ∃ M, N = M + 1 := ⟨N - 1, by omega⟩
  subst et
  refine ⟨rfl, ?_⟩
  refine ⟨rfl, ⟨by decide, by decide, by decide⟩, Br.of (fun hlt => ?_) (fun hge => ?_)⟩
  · refine ⟨⟨by decide, by decide, by decide⟩, ?_⟩
    refine for_in sz (e := T.int) (fun pre τ => ∃ (ts : List T) (r : Int) (x1 x2 x3 x4 : Option Slot), τ = [some (.val (.int c)), some (.val (.lst (sz.map .int))), some (.own ts), some (.val (.int r)), x1, x2, x3, x4] ∧ ∃ ns : List Int, ts = ns.map .int ∧ ns.length = pre.length) rfl ⟨_, _, _, _, _, _, rfl, [], rfl, rfl⟩ (fun pre x post e τ hi K hK => ?_) (fun τ hi => ?_)
    · obtain ⟨ts, r, x1, x2, x3, x4, rfl, ns, rfl, e1⟩ := hi
      have hx := hz x (by rw [e]; simp)
      have hp : pre.length ≤ sz.length := by rw [e]; simp
      refine ⟨rfl, hx.1, ?_, ⟨hx.1, by omega⟩, hK _ ⟨_, _, _, _, _, _, rfl, ns ++ [r % x], by simp, by simp [e1]⟩⟩
      rw [List.length_map, sizeLine_is]
      omega
    · obtain ⟨ts, r, x1, x2, x3, x4, rfl, ns, rfl, e1⟩ := hi
      exact h ns e1
  · refine ⟨by decide, ?_, ?_⟩
    · rw [List.length_map]; omega
    refine range_in sz.length (fun i τ => ∃ (ts : List T) (r s : Int) (x1 x2 x3 : Option Slot), τ = [some (.val (.int c)), some (.val (.lst (sz.map .int))), some (.own ts), some (.val (.int r)), x1, some (.val (.int s)), x2, x3] ∧ (0 ≤ s ∧ s < 2147483647) ∧ ∃ ns : List Int, ts = ns.map .int ∧ ns.length = i) (by simp) ⟨_, _, _, _, _, _, rfl, ⟨Int.emod_nonneg _ (by decide), Int.lt_trans (Int.emod_lt_of_pos _ (by decide)) (by decide)⟩, [], rfl, rfl⟩ (fun i hi τ hI K hK => ?_) (fun τ hI => ?_)
    · obtain ⟨ts, r, s, x1, x2, x3, rfl, ⟨s0, s1⟩, ns, rfl, e1⟩ := hI
      have hx := hz _ (List.getElem_mem hi)
      have e0 : (0 : Int) + (i : Nat) = (i : Nat) := by omega
      have hu : ∀ u : Int, 0 ≤ u → u < 2147483647 → L2.CMul u (u / 65537 + 3) := fun u h0 h1 => cmul_l (by omega) (by omega)
      refine ⟨cmul_l (by omega) (by omega), cmul_l (by decide) (by decide), by decide, ⟨by decide, by decide⟩, hu _ (Int.emod_nonneg _ (by decide)) (Int.emod_lt_of_pos _ (by decide)), by decide, rfl, ⟨by decide, by decide⟩, ifSome.of (t := .int sz[i]) ?_ ⟨hx.1, ?_, hK _ ⟨_, _, _, _, _, _, rfl, ⟨Int.emod_nonneg _ (by decide), Int.emod_lt_of_pos _ (by decide)⟩, ns ++ [_], by rw [List.map_append]; rfl, by simp [e1]⟩⟩⟩
      · rw [e0, atT_map, atT_get hi]
        rfl
      · rw [List.length_map, sizeLine_is]
        omega
    · obtain ⟨ts, r, s, x1, x2, x3, rfl, _, ns, rfl, e1⟩ := hI
      exact h ns e1
theorem ascending_ok (N : Nat) (hN : 0 < N) {ts : List T} {R : Tok → List (List T) → Prop} (xs : List Str) (et : ts = xs.map .str) (hl : xs.length < 64) (h : ∀ ys : List Str, Asc ys → ys.length ≤ xs.length → (∀ x, x ∈ ys ↔ x ∈ xs) → R (.v (.tup (ys.map .str))) []) :
    sem N .law_ascending [.v (.lst ts)] R := by
  obtain ⟨n, rfl⟩ : ∃ M, N = M + 1 := ⟨N - 1, by omega⟩
  subst et
  refine ⟨rfl, rfl, withStrs.of ⟨hl, fun ys hp hs => ?_⟩⟩
  obtain ⟨q1, q2⟩ := ascOf_ok hp hs
  have hly : ys.length < 64 := by rw [hp.length_eq]; exact hl
  refine for_in ys (e := T.str) (fun pre τ => ∃ (ts : List T) (x0 x2 : Option Slot), τ = [x0, some (.own ts), x2] ∧ ∃ acc : List Str, ts = acc.map .str ∧ acc.length ≤ pre.length ∧ ∀ post, ys = pre ++ post → dedup acc post = ascOf ys) rfl ⟨_, _, _, rfl, [], rfl, Nat.le_refl _, fun post e => by rw [e]; rfl⟩ (fun pre x post e τ hi K hK => ?_) (fun τ hi => ?_)
  · obtain ⟨ts, x0, x2, rfl, acc, rfl, hle, hd⟩ := hi
    have hd' := hd (x :: post) e
    have hlp : pre.length < 64 := by
      have : pre.length ≤ ys.length := by rw [e]; simp
      omega
    have uni : ∀ post2, ys = pre ++ [x] ++ post2 → post2 = post := fun post2 e2 => by
      rw [e, List.append_assoc] at e2
      have := List.append_cancel_left e2
      simpa using this.symm
    have put : acc.getLast? ≠ some x → K [x0, some (.own (acc.map .str ++ [.str x])), some (.val (.str x))] := fun en => hK _ ⟨_, _, _, rfl, acc ++ [x], by simp, by simp; omega, fun post2 e2 => by
      rw [uni post2 e2]
      unfold dedup at hd'
      rw [if_neg en] at hd'
      exact hd'⟩
    refine Br.of (fun h0 => Br.yes rfl ⟨rfl, ?_, put ?_⟩) (fun h0 => ?_)
    · rw [List.length_map, sizeLine_is]; omega
    · rw [List.length_map] at h0
      have : acc = [] := List.length_eq_zero_iff.mp (by omega)
      subst this
      simp
    · rw [List.length_map] at h0
      have hne : acc ≠ [] := fun z => by subst z; exact h0 rfl
      obtain ⟨bs, b, rfl⟩ : ∃ bs b, acc = bs ++ [b] := ⟨acc.dropLast, acc.getLast hne, (List.dropLast_concat_getLast hne).symm⟩
      refine ifSome.of (t := .str b) (by rw [List.map_append]; exact atT_last _ _) ?_
      refine Br.ofNot (fun hb => ⟨rfl, ?_, put ?_⟩) (fun hb => ?_)
      · rw [List.length_map, sizeLine_is]; omega
      · simp; exact hb
      · subst hb
        refine hK _ ⟨_, _, _, rfl, bs ++ [b], rfl, by simp at hle ⊢; omega, fun post2 e2 => ?_⟩
        rw [uni post2 e2]
        unfold dedup at hd'
        rw [if_pos (by simp)] at hd'
        exact hd'
  · obtain ⟨ts, x0, x2, rfl, acc, rfl, hle, hd⟩ := hi
    have e := hd [] (by simp)
    unfold dedup at e
    subst e
    exact h _ q1 (by rw [← hp.length_eq]; exact Nat.le_trans (dedup_len _ _) (by simp)) q2
theorem on_ok (ws : List Str) (m : Fm) : ∀ (N : Nat) (hN : Fm.nest m < N) {R : Tok → List (List T) → Prop} (h : R (.v (.bl (Fm.on (fun x => decide (x ∈ ws)) m))) []),
    sem N .law_on [.v (Fm.enc m), .v (.tup (ws.map .str))] R := by
  revert m
  refine Fm.ind (fun x => ?_) (fun m ih => ?_) (fun b ms ih => ?_)
  · intro N hN R h
    obtain ⟨N, rfl⟩ : ∃ M, N = M + 1 := ⟨N - 1, by omega⟩
    refine ⟨rfl, ?_⟩
    and_intros
    rw [T.has_strs]
    exact h
  · intro N hN R h
    obtain ⟨N, rfl⟩ : ∃ M, N = M + 1 := ⟨N - 1, by omega⟩
    replace hN : Fm.nest m + 1 < N + 1 := hN
    refine ⟨rfl, ?_⟩
    and_intros
    exact ih N (by omega) h
  · intro N hN R h
    obtain ⟨N, rfl⟩ : ∃ M, N = M + 1 := ⟨N - 1, by omega⟩
    replace hN : Fm.nests ms + 1 < N + 1 := hN
    refine ⟨rfl, ?_⟩
    and_intros
    refine for_in ms (e := Fm.enc) (fun pre τ => (∃ x, τ = [some (.val (Fm.enc (.nd b ms))), some (.val (.tup (ws.map .str))), x]) ∧ ∀ m ∈ pre, Fm.on (fun x => decide (x ∈ ws)) m = b) (Fm.encs_eq ms) ⟨⟨_, rfl⟩, fun m h => by cases h⟩ (fun pre x post e τ hi K hK => ?_) (fun τ hi => ?_)
    · obtain ⟨⟨y, rfl⟩, hp⟩ := hi
      and_intros
      refine ih x (by rw [e]; simp) N (by have := Fm.nest_le (m := x) (ms := ms) (by rw [e]; simp); omega) ?_
      refine Br.ofNot (fun hne => ?_) (fun he => ?_)
      · and_intros
        have hb : Fm.on (fun x => decide (x ∈ ws)) (.nd b ms) = !b := by
          show Fm.ons _ b ms = _
          rw [e, Fm.ons_skip _ b pre _ hp]
          refine if_neg ?_
          rw [k_kd_all] at hne
          exact hne
        rw [hb, ← k_kd_all b] at h
        exact h
      · rw [k_kd_all] at he
        refine hK _ ⟨⟨_, rfl⟩, fun m hm => ?_⟩
        rcases List.mem_append.mp hm with hm | hm
        · exact hp m hm
        · rw [List.mem_singleton.mp hm]; exact he
    · obtain ⟨⟨y, rfl⟩, hp⟩ := hi
      and_intros
      have : Fm.on (fun x => decide (x ∈ ws)) (.nd b ms) = b := by
        have := Fm.ons_skip (fun x => decide (x ∈ ws)) b ms [] hp
        rw [List.append_nil] at this
        exact this
      rw [this, ← k_kd_all b] at h
      exact h
theorem size_ok (m : Fm) : ∀ (N : Nat) (hN : Fm.nest m < N) {R : Tok → List (List T) → Prop} (h : R (.v (.int (Fm.sz m))) []),
    sem N .law_size [.v (Fm.enc m)] R := by
  revert m
  refine Fm.ind (fun x => ?_) (fun m ih => ?_) (fun b ms ih => ?_)
  · intro N hN R h
    obtain ⟨N, rfl⟩ : ∃ M, N = M + 1 := ⟨N - 1, by omega⟩
    refine ⟨rfl, ?_⟩
    and_intros
    exact h
  · intro N hN R h
    obtain ⟨N, rfl⟩ : ∃ M, N = M + 1 := ⟨N - 1, by omega⟩
    replace hN : Fm.nest m + 1 < N + 1 := hN
    refine ⟨rfl, ?_⟩
    and_intros
    refine ih N (by omega) ?_
    rw [Fm.sz_no] at h
    exact h
  · intro N hN R h
    obtain ⟨N, rfl⟩ : ∃ M, N = M + 1 := ⟨N - 1, by omega⟩
    replace hN : Fm.nests ms + 1 < N + 1 := hN
    refine ⟨rfl, ?_⟩
    and_intros
    refine lc_over Fm.enc (fun m => T.int (Fm.sz m)) ms (Fm.encs_eq ms) (fun s => rfl) (fun x hx K hK => ?_) ?_
    · and_intros
      refine ih x hx N (by have := Fm.nest_le hx; omega) ?_
      exact hK
    · refine withInts.by (ms.map fun m => (Fm.sz m : Int)) (by rw [List.map_map]; rfl) ?_
      rw [Fm.sz_nd, ← Fm.sum_sz] at h
      exact h
end K17
namespace K17
open N1
open PySem (Str sizeLine)
local macro_rules
  | `(tactic| and_intros) => `(tactic| repeat (first
    | refine And.intro (by first | rfl | decide | exact ⟨by omega, by omega⟩ | exact cmul_l (by omega) (by omega) | exact cmul_r (by omega) (by omega) | assumption | omega | exact fit_strs _ _ | exact fit_ints _ _ | (simp only [List.length_map, List.length_append, List.length_cons, List.length_nil, sizeLine_is]; omega)) ?_
    | refine Br.yes rfl ?_
    | refine Br.no rfl ?_
    | refine Br.is (by first | rfl | assumption | omega) ?_
    | refine Br.isnt (by first | assumption | exact k_not_atom | exact k_kd_atom _ | exact k_kd_not _ | exact k_atom_not | exact k_sa | exact k_as | omega) ?_
    | refine Br.notis (by first | assumption | exact k_not_atom | exact k_kd_atom _ | exact k_kd_not _ | exact k_atom_not | exact k_sa | exact k_as | omega) ?_
    | refine Br.notisnt (by first | rfl | assumption | omega) ?_))
theorem within_ok (m : Fm) : ∀ (N : Nat) (hN : Fm.nest m < N) (hz : Fm.sz m ≤ 100000) {R : Tok → List (List T) → Prop} (h : R (.fr ((Fm.wit m).map Fm.enc)) []),
    sem N .law_within [.v (Fm.enc m)] R := by
  revert m
  refine Fm.ind (fun x => ?_) (fun m ih => ?_) (fun b ms ih => ?_)
  · intro N hN hz R h
    obtain ⟨N, rfl⟩ : ∃ M, N = M + 1 := ⟨N - 1, by omega⟩
    refine ⟨rfl, ?_⟩
    and_intros
    exact h
  · intro N hN hz R h
    obtain ⟨N, rfl⟩ : ∃ M, N = M + 1 := ⟨N - 1, by omega⟩
    replace hN : Fm.nest m + 1 < N + 1 := hN
    replace hz : 1 + Fm.sz m ≤ 100000 := hz
    refine ⟨rfl, ?_⟩
    and_intros
    refine ih N (by omega) (by omega) ?_
    have := Fm.wit_len m
    and_intros
    exact h
  · intro N hN hz R h
    obtain ⟨N, rfl⟩ : ∃ M, N = M + 1 := ⟨N - 1, by omega⟩
    replace hN : Fm.nests ms + 1 < N + 1 := hN
    replace hz : 1 + Fm.szs ms ≤ 100000 := hz
    refine ⟨rfl, ?_⟩
    and_intros
    refine for_in ms (e := Fm.enc) (fun pre τ => ∃ ts x, τ = [some (.val (Fm.enc (.nd b ms))), some (.own ts), x] ∧ ts = (Fm.nd b ms :: Fm.wits pre).map Fm.enc) (Fm.encs_eq ms) ⟨_, _, rfl, rfl⟩ (fun pre x post e τ hi K hK => ?_) (fun τ hi => ?_)
    · obtain ⟨ts, y, rfl, rfl⟩ := hi
      have hx : x ∈ ms := by rw [e]; simp
      have h1 := Fm.nest_le hx
      have h2 : Fm.szs ms = Fm.szs pre + (Fm.sz x + Fm.szs post) := by rw [e, Fm.szs_app]; rfl
      have h3 := Fm.wit_len x
      have h4 := Fm.wits_len pre
      and_intros
      refine ih x hx N (by omega) (by omega) ?_
      and_intros
      refine hK _ ⟨_, _, rfl, ?_⟩
      rw [Fm.wits_app]
      show _ = (Fm.nd b ms :: (Fm.wits pre ++ (Fm.wit x ++ []))).map Fm.enc
      rw [List.append_nil]
      simp
    · obtain ⟨ts, y, rfl, rfl⟩ := hi
      exact h
/-! ## what is sure -/
def vI : Option Bool → Int
  | none => 0
  | some true => 1
  | some false => -1
def vT : Option Bool → T
  | none => .non
  | some b => .bl b
def and3 (b : Bool) (x y : Option Bool) : Option Bool := if x = some (!b) ∨ y = some (!b) then some (!b) else if x = none ∨ y = none then none else some b
mutual
def sv (p q : Str → Bool) : Fm → Option Bool
  | .at x => if p x then some true else if q x then some false else none
  | .no m => (sv p q m).map (!·)
  | .nd b ms => svs p q b ms
def svs (p q : Str → Bool) : Bool → List Fm → Option Bool
  | b, [] => some b
  | b, m :: ms => and3 b (sv p q m) (svs p q b ms)
end
theorem and3_assoc : ∀ b x y z, and3 b (and3 b x y) z = and3 b x (and3 b y z) := by
  intro b x y z
  cases b <;> rcases x with _ | (_ | _) <;> rcases y with _ | (_ | _) <;> rcases z with _ | (_ | _) <;> rfl
theorem and3_unit : ∀ b x, and3 b x (some b) = x := by
  intro b x
  cases b <;> rcases x with _ | (_ | _) <;> rfl
theorem and3_unit' : ∀ b x, and3 b (some b) x = x := by
  intro b x
  cases b <;> rcases x with _ | (_ | _) <;> rfl
theorem and3_min : ∀ x y, (if vI y < vI x then vI y else vI x) = vI (and3 true x y) := by
  intro x y
  rcases x with _ | (_ | _) <;> rcases y with _ | (_ | _) <;> rfl
theorem and3_max : ∀ x y, (if vI y > vI x then vI y else vI x) = vI (and3 false x y) := by
  intro x y
  rcases x with _ | (_ | _) <;> rcases y with _ | (_ | _) <;> rfl
theorem vI_not : ∀ x : Option Bool, 0 - vI x = vI (x.map (!·)) := by
  intro x
  rcases x with _ | (_ | _) <;> rfl
theorem svs_snoc (p q : Str → Bool) (b : Bool) (m : Fm) : ∀ ms, svs p q b (ms ++ [m]) = and3 b (svs p q b ms) (sv p q m)
  | [] => by
    show and3 b (sv p q m) (some b) = and3 b (some b) (sv p q m)
    rw [and3_unit, and3_unit']
  | x :: ms => by
    show and3 b (sv p q x) (svs p q b (ms ++ [m])) = and3 b (and3 b (sv p q x) (svs p q b ms)) (sv p q m)
    rw [svs_snoc p q b m ms, and3_assoc]
abbrev inn (xs : List Str) : Str → Bool := fun x => decide (x ∈ xs)
theorem sure_ok (on off : List Str) (hd : ∀ x ∈ on, x ∉ off) (m : Fm) : ∀ (N : Nat) (hN : Fm.nest m < N) {R : Tok → List (List T) → Prop} (h : R (.v (.int (vI (sv (inn on) (inn off) m)))) []),
    sem N .law_sure [.v (Fm.enc m), .v (.tup (on.map .str)), .v (.tup (off.map .str))] R := by
  revert m
  refine Fm.ind (fun x => ?_) (fun m ih => ?_) (fun b ms ih => ?_)
  · intro N hN R h
    obtain ⟨N, rfl⟩ : ∃ M, N = M + 1 := ⟨N - 1, by omega⟩
    refine ⟨rfl, ?_⟩
    and_intros
    rw [T.has_strs, T.has_strs]
    have e : (if decide (x ∈ on) then (1 : Int) else 0) - (if decide (x ∈ off) then 1 else 0) = vI (sv (inn on) (inn off) (.at x)) := by
      show _ = vI (if decide (x ∈ on) then some true else if decide (x ∈ off) then some false else none)
      by_cases h1 : x ∈ on
      · simp [h1, hd x h1, vI]
      · by_cases h2 : x ∈ off <;> simp [h1, h2, vI]
    rw [← e] at h
    exact h
  · intro N hN R h
    obtain ⟨N, rfl⟩ : ∃ M, N = M + 1 := ⟨N - 1, by omega⟩
    replace hN : Fm.nest m + 1 < N + 1 := hN
    refine ⟨rfl, ?_⟩
    and_intros
    refine ih N (by omega) ?_
    have e := vI_not (sv (inn on) (inn off) m)
    rw [show sv (inn on) (inn off) (.no m) = (sv (inn on) (inn off) m).map (!·) from rfl, ← e] at h
    exact h
  · intro N hN R h
    obtain ⟨N, rfl⟩ : ∃ M, N = M + 1 := ⟨N - 1, by omega⟩
    replace hN : Fm.nests ms + 1 < N + 1 := hN
    refine ⟨rfl, ?_⟩
    and_intros
    cases b with
    | true =>
      and_intros
      refine for_in ms (e := Fm.enc) (fun pre τ => ∃ i x y, τ = [some (.val (Fm.enc (.nd true ms))), some (.val (.tup (on.map .str))), some (.val (.tup (off.map .str))), some (.val (.int i)), x, y] ∧ i = vI (svs (inn on) (inn off) true pre)) (Fm.encs_eq ms) ⟨_, _, _, rfl, rfl⟩ (fun pre x post e τ hi K hK => ?_) (fun τ hi => ?_)
      · obtain ⟨i, y, z, rfl, rfl⟩ := hi
        have hx : x ∈ ms := by rw [e]; simp
        have h1 := Fm.nest_le hx
        and_intros
        refine ih x hx N (by omega) ?_
        refine hK _ ⟨_, _, _, rfl, ?_⟩
        rw [svs_snoc, and3_min]
      · obtain ⟨i, y, z, rfl, rfl⟩ := hi
        exact h
    | false =>
      and_intros
      refine for_in ms (e := Fm.enc) (fun pre τ => ∃ i x y, τ = [some (.val (Fm.enc (.nd false ms))), some (.val (.tup (on.map .str))), some (.val (.tup (off.map .str))), x, y, some (.val (.int i))] ∧ i = vI (svs (inn on) (inn off) false pre)) (Fm.encs_eq ms) ⟨_, _, _, rfl, rfl⟩ (fun pre x post e τ hi K hK => ?_) (fun τ hi => ?_)
      · obtain ⟨i, y, z, rfl, rfl⟩ := hi
        have hx : x ∈ ms := by rw [e]; simp
        have h1 := Fm.nest_le hx
        and_intros
        refine ih x hx N (by omega) ?_
        refine hK _ ⟨_, _, _, rfl, ?_⟩
        rw [svs_snoc, and3_max]
      · obtain ⟨i, y, z, rfl, rfl⟩ := hi
        exact h
theorem svs_eq (p q : Str → Bool) (b : Bool) : ∀ ms, svs p q b ms = if ms.any (fun m => sv p q m == some (!b)) then some (!b) else if ms.any (fun m => sv p q m == none) then none else some b
  | [] => rfl
  | m :: ms => by
    show and3 b (sv p q m) (svs p q b ms) = _
    rw [svs_eq p q b ms, List.any_cons, List.any_cons]
    cases ms.any (fun m => sv p q m == some (!b)) <;> cases ms.any (fun m => sv p q m == none) <;> cases b <;> rcases sv p q m with _ | (_ | _) <;> rfl
theorem has_vT (x y : Option Bool) : T.eq (vT x) (vT y) = (x == y) := by
  rcases x with _ | (_ | _) <;> rcases y with _ | (_ | _) <;> rfl
theorem has_vTs (x : Option Bool) (f : Fm → Option Bool) (ms : List Fm) : T.has (vT x) (ms.map fun m => vT (f m)) = ms.any fun m => f m == x := by
  unfold T.has
  rw [List.any_map]
  congr 1
  funext m
  exact has_vT _ _
theorem fit_vTs (f : Fm → Option Bool) (ms : List Fm) : (ms.map fun m => vT (f m)).all (T.fit 60) = true := by
  rw [List.all_map, List.all_eq_true]
  intro m _
  show T.fit 60 (vT (f m)) = true
  rcases f m with _ | (_ | _) <;> rfl
theorem surely_ok (on off : List Str) (m : Fm) : ∀ (N : Nat) (hN : Fm.nest m < N) {R : Tok → List (List T) → Prop} (h : R (.v (vT (sv (inn on) (inn off) m))) []),
    sem N .surely [.v (Fm.enc m), .v (.tup (on.map .str)), .v (.tup (off.map .str))] R := by
  revert m
  refine Fm.ind (fun x => ?_) (fun m ih => ?_) (fun b ms ih => ?_)
  · intro N hN R h
    obtain ⟨N, rfl⟩ : ∃ M, N = M + 1 := ⟨N - 1, by omega⟩
    replace h : R (.v (vT (if decide (x ∈ on) then some true else if decide (x ∈ off) then some false else none))) [] := h
    refine ⟨rfl, ?_⟩
    and_intros
    rw [T.has_strs]
    refine Br.of (fun h1 => ?_) (fun h1 => ?_)
    · rw [if_pos (decide_eq_true h1)] at h
      exact h
    · rw [if_neg (by simpa using h1)] at h
      and_intros
      rw [T.has_strs]
      refine Br.of (fun h2 => ?_) (fun h2 => ?_)
      · rw [if_pos (decide_eq_true h2)] at h
        exact h
      · rw [if_neg (by simpa using h2)] at h
        exact h
  · intro N hN R h
    obtain ⟨N, rfl⟩ : ∃ M, N = M + 1 := ⟨N - 1, by omega⟩
    replace hN : Fm.nest m + 1 < N + 1 := hN
    replace h : R (.v (vT ((sv (inn on) (inn off) m).map (!·)))) [] := h
    refine ⟨rfl, ?_⟩
    and_intros
    refine ih N (by omega) ?_
    generalize sv (inn on) (inn off) m = o at h
    rcases o with _ | c
    · and_intros
      exact h
    · and_intros
      exact h
  · intro N hN R h
    obtain ⟨N, rfl⟩ : ∃ M, N = M + 1 := ⟨N - 1, by omega⟩
    replace hN : Fm.nests ms + 1 < N + 1 := hN
    replace h : R (.v (vT (svs (inn on) (inn off) b ms))) [] := h
    rw [svs_eq] at h
    refine ⟨rfl, ?_⟩
    and_intros
    refine lc_over Fm.enc (fun m => vT (sv (inn on) (inn off) m)) ms (Fm.encs_eq ms) (fun s => rfl) (fun x hx K hK => ?_) ?_
    · and_intros
      refine ih x hx N (by have := Fm.nest_le hx; omega) ?_
      exact hK
    have e1 := fun c => has_vTs (some c) (sv (inn on) (inn off)) ms
    have e2 := has_vTs none (sv (inn on) (inn off)) ms
    have f1 := fit_vTs (sv (inn on) (inn off)) ms
    cases b with
    | true =>
      and_intros
      refine Br.mk (fun hc => ?_) (fun hc => ?_)
      · rw [show (!true) = false from rfl, if_pos ((e1 false).symm.trans hc)] at h
        and_intros
        exact h
      · rw [show (!true) = false from rfl, if_neg (by rw [← e1 false]; exact fun z => Bool.false_ne_true (hc.symm.trans z))] at h
        and_intros
        refine Br.mk (fun hd => ?_) (fun hd => ?_)
        · rw [if_pos (e2.symm.trans hd)] at h
          exact h
        · rw [if_neg (by rw [← e2]; exact fun z => Bool.false_ne_true (hd.symm.trans z))] at h
          and_intros
          exact h
    | false =>
      and_intros
      refine Br.mk (fun hc => ?_) (fun hc => ?_)
      · rw [show (!false) = true from rfl, if_pos ((e1 true).symm.trans hc)] at h
        and_intros
        exact h
      · rw [show (!false) = true from rfl, if_neg (by rw [← e1 true]; exact fun z => Bool.false_ne_true (hc.symm.trans z))] at h
        and_intros
        refine Br.mk (fun hd => ?_) (fun hd => ?_)
        · rw [if_pos (e2.symm.trans hd)] at h
          exact h
        · rw [if_neg (by rw [← e2]; exact fun z => Bool.false_ne_true (hd.symm.trans z))] at h
          and_intros
          rw [show false = decide (kd false = Str.ofString "all") from (k_kd_all false).symm] at h
          exact h
end K17
namespace K17
open N1
open PySem (Str sizeLine)
local macro_rules
  | `(tactic| and_intros) => `(tactic| repeat (first
    | refine And.intro (by first | rfl | decide | exact ⟨by omega, by omega⟩ | exact cmul_l (by omega) (by omega) | exact cmul_r (by omega) (by omega) | assumption | omega | exact fit_strs _ _ | exact fit_ints _ _ | (simp only [List.length_map, List.length_append, List.length_cons, List.length_nil, sizeLine_is]; omega)) ?_
    | refine Br.yes rfl ?_
    | refine Br.no rfl ?_
    | refine Br.is (by first | rfl | assumption | omega) ?_
    | refine Br.isnt (by first | assumption | exact k_not_atom | exact k_kd_atom _ | exact k_kd_not _ | exact k_atom_not | exact k_sa | exact k_as | omega) ?_
    | refine Br.notis (by first | assumption | exact k_not_atom | exact k_kd_atom _ | exact k_kd_not _ | exact k_atom_not | exact k_sa | exact k_as | omega) ?_
    | refine Br.notisnt (by first | rfl | assumption | omega) ?_))
theorem and3_some : ∀ b x y c, and3 b x y = some c → (c = b ∧ x = some b ∧ y = some b) ∨ (c = !b ∧ (x = some (!b) ∨ y = some (!b))) := by
  intro b x y c
  cases b <;> cases c <;> rcases x with _ | (_ | _) <;> rcases y with _ | (_ | _) <;> simp [and3]
theorem and3_none : ∀ b x y, and3 b x y = none → x = none ∨ y = none := by
  intro b x y
  cases b <;> rcases x with _ | (_ | _) <;> rcases y with _ | (_ | _) <;> simp [and3]
section
variable {p q w : Str → Bool} {names : List Str}
mutual
theorem sv_on (hp : ∀ x ∈ names, p x = true → w x = true) (hq : ∀ x ∈ names, q x = true → w x = false) : ∀ m, Fm.of names m → ∀ c, sv p q m = some c → Fm.on w m = c
  | .at x, h, c, e => by
    replace h : x ∈ names := h
    replace e : (if p x then some true else if q x then some false else none) = some c := e
    show w x = c
    split at e
    · next h1 => rw [hp x h h1]; exact Option.some.inj e
    · split at e
      · next h2 => rw [hq x h h2]; exact Option.some.inj e
      · cases e
  | .no m, h, c, e => by
    replace e : (sv p q m).map (!·) = some c := e
    obtain ⟨d, e1, rfl⟩ := Option.map_eq_some_iff.mp e
    show (!Fm.on w m) = _
    rw [sv_on hp hq m h d e1]
  | .nd b ms, h, c, e => svs_on hp hq ms h b c e
theorem svs_on (hp : ∀ x ∈ names, p x = true → w x = true) (hq : ∀ x ∈ names, q x = true → w x = false) : ∀ ms, Fm.ofs names ms → ∀ b c, svs p q b ms = some c → Fm.ons w b ms = c
  | [], _, b, c, e => Option.some.inj e
  | m :: ms, h, b, c, e => by
    show (if Fm.on w m = b then Fm.ons w b ms else !b) = c
    rcases and3_some _ _ _ _ e with ⟨rfl, h1, h2⟩ | ⟨rfl, h1 | h1⟩
    · rw [sv_on hp hq m h.1 _ h1, if_pos rfl]
      exact svs_on hp hq ms h.2 _ _ h2
    · rw [sv_on hp hq m h.1 _ h1, if_neg (by cases b <;> decide)]
    · rw [svs_on hp hq ms h.2 _ _ h1]
      split <;> rfl
end
mutual
theorem sv_tot (hp : ∀ x ∈ names, p x = true ∨ q x = true) : ∀ m, Fm.of names m → sv p q m ≠ none
  | .at x, h => by
    show (if p x then some true else if q x then some false else none) ≠ none
    rcases hp x h with h | h
    · rw [if_pos h]; simp
    · split <;> simp [h]
  | .no m, h => by
    show (sv p q m).map (!·) ≠ none
    intro e
    exact sv_tot hp m h (Option.map_eq_none_iff.mp e)
  | .nd b ms, h => svs_tot hp ms h b
theorem svs_tot (hp : ∀ x ∈ names, p x = true ∨ q x = true) : ∀ ms, Fm.ofs names ms → ∀ b, svs p q b ms ≠ none
  | [], _, b => by
    show some b ≠ none
    simp
  | m :: ms, h, b => fun e => by
    rcases and3_none _ _ _ e with e | e
    · exact sv_tot hp m h.1 e
    · exact svs_tot hp ms h.2 b e
end
end
theorem answers_ok (N : Nat) {ts : List T} {R : Tok → List (List T) → Prop} (on off : List Str) (hd : ∀ x ∈ on, x ∉ off) (ms : List Fm) (et : ts = ms.map Fm.enc) (hN : ∀ m ∈ ms, Fm.nest m + 1 < N) (hN0 : 0 < N)
    (h : R (.v (.bl true)) []) : sem N .law_answers [.v (.lst ts), .v (.tup (on.map .str)), .v (.tup (off.map .str))] R := by
  obtain ⟨N, rfl⟩ : ∃ M, N = M + 1 := ⟨N - 1, by omega⟩
  refine ⟨rfl, ?_⟩
  refine for_in ms (e := Fm.enc) (fun pre τ => ∃ x y z, τ = [some (.val (.lst ts)), some (.val (.tup (on.map .str))), some (.val (.tup (off.map .str))), x, y, z]) et ⟨_, _, _, rfl⟩ (fun pre x post e τ hi K hK => ?_) (fun τ hi => ?_)
  · obtain ⟨y1, y2, y3, rfl⟩ := hi
    have hx := hN x (by rw [e]; simp)
    and_intros
    refine sure_ok on off hd x N (by omega) ?_
    and_intros
    refine surely_ok on off x N (by omega) ?_
    generalize sv (inn on) (inn off) x = o
    have hK' : ∀ a b c, K [some (.val (.lst ts)), some (.val (.tup (on.map .str))), some (.val (.tup (off.map .str))), a, b, c] := fun a b c => hK _ ⟨a, b, c, rfl⟩
    rcases o with _ | (_ | _)
    · and_intros
      exact hK' _ _ _
    · and_intros
      exact hK' _ _ _
    · and_intros
      exact hK' _ _ _
  · obtain ⟨y1, y2, y3, rfl⟩ := hi
    exact h
end K17
namespace K17
open N1
open PySem (Str sizeLine)
local macro_rules
  | `(tactic| and_intros) => `(tactic| repeat (first
    | refine And.intro (by first | rfl | decide | exact ⟨by omega, by omega⟩ | exact cmul_l (by omega) (by omega) | exact cmul_r (by omega) (by omega) | assumption | omega | exact fit_strs _ _ | exact fit_ints _ _ | (simp only [List.length_map, List.length_append, List.length_cons, List.length_nil, sizeLine_is]; omega)) ?_
    | refine Br.yes rfl ?_
    | refine Br.no rfl ?_
    | refine Br.is (by first | rfl | assumption | omega) ?_
    | refine Br.isnt (by first | assumption | exact k_not_atom | exact k_kd_atom _ | exact k_kd_not _ | exact k_atom_not | exact k_sa | exact k_as | omega) ?_
    | refine Br.notis (by first | assumption | exact k_not_atom | exact k_kd_atom _ | exact k_kd_not _ | exact k_atom_not | exact k_sa | exact k_as | omega) ?_
    | refine Br.notisnt (by first | rfl | assumption | omega) ?_))
abbrev encW (w : List Str) : T := .tup (w.map .str)
theorem completions_ok (N : Nat) (hN : 0 < N) (names on off : List Str) (hn : names.length ≤ 16) {R : Tok → List (List T) → Prop}
    (h : ∀ ws : List (List Str), (∀ w ∈ ws, (∀ x ∈ names, x ∈ on → x ∈ w) ∧ ∀ x ∈ w, x ∉ off) → R (.fr (ws.map encW)) [] ∧ R (.v (.lst (ws.map encW))) []) :
    sem N .law_completions [.v (.tup (names.map .str)), .v (.tup (on.map .str)), .v (.tup (off.map .str))] R := by
  obtain ⟨N, rfl⟩ : ∃ M, N = M + 1 := ⟨N - 1, by omega⟩
  refine ⟨rfl, ?_⟩
  and_intros
  refine for_in names (e := T.str) (fun pre τ => ∃ sl x y z, τ = [some (.val (.tup (names.map .str))), some (.val (.tup (on.map .str))), some (.val (.tup (off.map .str))), some sl, x, y, z] ∧ ∃ ws : List (List Str), (sl = .own (ws.map encW) ∨ sl = .val (.lst (ws.map encW))) ∧ ws.length ≤ 2 ^ pre.length ∧ ∀ w ∈ ws, ((∀ x ∈ pre, x ∈ on → x ∈ w) ∧ ∀ x ∈ w, x ∉ off) ∧ w.length ≤ pre.length) rfl ⟨_, _, _, _, rfl, [[]], .inl rfl, by decide, fun w hw => ?_⟩ (fun pre x post e τ hi K hK => ?_) (fun τ hi => ?_)
  · rw [List.mem_singleton.mp hw]
    exact ⟨⟨fun x hx => by (cases hx), fun x hx => by (cases hx)⟩, Nat.le_refl _⟩
  · obtain ⟨sl, y1, y2, y3, rfl, ws, hsl, hw1, hw2⟩ := hi
    have hpl : pre.length < 16 := by
      have : names.length = pre.length + (post.length + 1) := by rw [e]; simp
      omega
    have h2 : 2 ^ pre.length ≤ 2 ^ 15 := Nat.pow_le_pow_right (by decide) (by omega)
    let good : List (List Str) → Prop := fun us => ∀ w ∈ us, ((∀ z ∈ pre ++ [x], z ∈ on → z ∈ w) ∧ ∀ z ∈ w, z ∉ off) ∧ w.length ≤ (pre ++ [x]).length
    have goal : ∀ (D : DEnds) (sl : Slot) (s6 : Option Slot), (∀ us y, us.length ≤ 2 ^ (pre ++ [x]).length → good us → D.nx [some (.val (.tup (names.map .str))), some (.val (.tup (on.map .str))), some (.val (.tup (off.map .str))), some sl, some (.val (.str x)), some (.own (us.map encW)), y]) →
        forL (dgName 6) (rd_law_completions_L0 (sem N)) D (ws.map encW) [some (.val (.tup (names.map .str))), some (.val (.tup (on.map .str))), some (.val (.tup (off.map .str))), some sl, some (.val (.str x)), some (.own []), s6] := fun D sl s6 hD => by
      refine for_in ws (e := encW) (fun pre2 τ => ∃ ts y, τ = [some (.val (.tup (names.map .str))), some (.val (.tup (on.map .str))), some (.val (.tup (off.map .str))), some sl, some (.val (.str x)), some (.own ts), y] ∧ ∃ us : List (List Str), ts = us.map encW ∧ us.length ≤ 2 * pre2.length ∧ good us) rfl ⟨_, _, rfl, [], rfl, Nat.le_refl _, fun w hw => by cases hw⟩ (fun pre2 w post2 e2 τ hi K2 hK2 => ?_) (fun τ hi => ?_)
      · obtain ⟨ts, y, rfl, us, rfl, hu1, hu2⟩ := hi
        have hw := hw2 w (by rw [e2]; simp)
        have hlen : pre2.length < ws.length := by rw [e2]; simp
        have second : ∀ us : List (List Str), us.length ≤ 2 * pre2.length + 1 → good us → dIf (dTest (dOp opNotIn (dVar 4) (dVar 2))) (dAppend 5 (dOp opAdd (dVar 6) (dTup 1 (dCons (dVar 4) dNil)))) dNext { D with nx := K2, ct := K2, bk := D.nx } [some (.val (.tup (names.map .str))), some (.val (.tup (on.map .str))), some (.val (.tup (off.map .str))), some sl, some (.val (.str x)), some (.own (us.map encW)), some (.val (encW w))] := fun us hu1 hu2 => by
          and_intros
          rw [T.has_strs]
          refine Br.ofNot (fun hno => ?_) (fun hyes => ?_)
          · and_intros
            refine hK2 _ ⟨_, _, rfl, us ++ [w ++ [x]], by simp, by simp; omega, ?_⟩
            intro v hv
            rcases List.mem_append.mp hv with hv | hv
            · exact hu2 v hv
            · rw [List.mem_singleton.mp hv]
              refine ⟨⟨fun z hz ho => ?_, fun z hz => ?_⟩, by simp; omega⟩
              · rcases List.mem_append.mp hz with hz | hz
                · exact List.mem_append_left _ (hw.1.1 z hz ho)
                · exact List.mem_append_right _ hz
              · rcases List.mem_append.mp hz with hz | hz
                · exact hw.1.2 z hz
                · rw [List.mem_singleton.mp hz]; exact hno
          · exact hK2 _ ⟨_, _, rfl, us, rfl, by simp; omega, hu2⟩
        and_intros
        rw [T.has_strs]
        refine Br.ofNot (fun hno => ?_) (fun hyes => ?_)
        · refine ⟨rfl, by simp only [List.length_map, sizeLine_is]; omega, ?_⟩
          have := second (us ++ [w]) (by simp; omega) (fun v hv => by
            rcases List.mem_append.mp hv with hv | hv
            · exact hu2 v hv
            · rw [List.mem_singleton.mp hv]
              refine ⟨⟨fun z hz ho => ?_, hw.1.2⟩, by simp; omega⟩
              rcases List.mem_append.mp hz with hz | hz
              · exact hw.1.1 z hz ho
              · rw [List.mem_singleton.mp hz] at ho; exact absurd ho hno)
          rw [List.map_append] at this
          exact this
        · exact second us (by omega) hu2
      · obtain ⟨ts, y, rfl, us, rfl, hu1, hu2⟩ := hi
        exact hD us y (by rw [List.length_append, List.length_singleton, Nat.pow_succ]; omega) hu2
    rcases hsl with rfl | rfl
    · and_intros
      refine goal _ _ _ fun us y hu1 hu2 => ?_
      exact hK _ ⟨_, _, _, _, rfl, us, .inr rfl, hu1, hu2⟩
    · and_intros
      refine goal _ _ _ fun us y hu1 hu2 => ?_
      exact hK _ ⟨_, _, _, _, rfl, us, .inr rfl, hu1, hu2⟩
  · obtain ⟨sl, y1, y2, y3, rfl, ws, hsl, hw1, hw2⟩ := hi
    have hh := h ws fun w hw => (hw2 w hw).1
    rcases hsl with rfl | rfl
    · exact hh.1
    · exact hh.2
theorem holds_later_ok (N : Nat) (m : Fm) (names on off : List Str) (hN : Fm.nest m + 1 < N) (hf : Fm.of names m) (hn : names.length ≤ 16) (hd : ∀ x ∈ on, x ∉ off) {R : Tok → List (List T) → Prop} (h : R (.v (.bl true)) []) :
    sem N .law_holds_later [.v (Fm.enc m), .v (.tup (names.map .str)), .v (.tup (on.map .str)), .v (.tup (off.map .str))] R := by
  obtain ⟨N, rfl⟩ : ∃ M, N = M + 1 := ⟨N - 1, by omega⟩
  refine ⟨rfl, ?_⟩
  and_intros
  refine sure_ok on off hd m N (by omega) ?_
  and_intros
  refine completions_ok N (by omega) names on off hn fun ws hw => ?_
  have both : ∀ D : DEnds, (∀ x, D.nx [some (.val (Fm.enc m)), some (.val (.tup (names.map .str))), some (.val (.tup (on.map .str))), some (.val (.tup (off.map .str))), some (.val (.int (vI (sv (inn on) (inn off) m)))), x]) → ∀ x,
      forL (dgName 5) (rd_law_holds_later_L0 (sem N)) D (ws.map encW) [some (.val (Fm.enc m)), some (.val (.tup (names.map .str))), some (.val (.tup (on.map .str))), some (.val (.tup (off.map .str))), some (.val (.int (vI (sv (inn on) (inn off) m)))), x] := fun D hD x => by
    refine for_in ws (e := encW) (fun pre τ => ∃ x, τ = [some (.val (Fm.enc m)), some (.val (.tup (names.map .str))), some (.val (.tup (on.map .str))), some (.val (.tup (off.map .str))), some (.val (.int (vI (sv (inn on) (inn off) m)))), x]) rfl ⟨_, rfl⟩ (fun pre w post e τ hi K hK => ?_) (fun τ hi => ?_)
    · obtain ⟨x, rfl⟩ := hi
      have hww := hw w (by rw [e]; simp)
      have key := sv_on (p := inn on) (q := inn off) (w := inn w) (names := names) (fun x hx hp => decide_eq_true (hww.1 x hx (of_decide_eq_true hp))) (fun x hx hq => decide_eq_false fun hxw => hww.2 x hxw (of_decide_eq_true hq)) m hf
      have hK' := fun z => hK _ ⟨z, rfl⟩
      generalize hs : sv (inn on) (inn off) m = o at key hK' ⊢
      rcases o with _ | (_ | _)
      · and_intros
        exact hK' _
      · and_intros
        refine on_ok w m N (by omega) ?_
        rw [key false rfl]
        and_intros
        exact hK' _
      · and_intros
        refine on_ok w m N (by omega) ?_
        rw [key true rfl]
        and_intros
        exact hK' _
    · obtain ⟨x, rfl⟩ := hi
      exact hD x
  constructor
  · exact both _ (fun x => h) _
  · exact both _ (fun x => h) _
end K17
namespace K17
open N1
open PySem (Str sizeLine)
local macro_rules
  | `(tactic| and_intros) => `(tactic| repeat (first
    | refine And.intro (by first | rfl | decide | exact ⟨by omega, by omega⟩ | exact cmul_l (by omega) (by omega) | exact cmul_r (by omega) (by omega) | assumption | omega | exact fit_strs _ _ | exact fit_ints _ _ | (simp only [List.length_map, List.length_append, List.length_cons, List.length_nil, sizeLine_is]; omega)) ?_
    | refine Br.yes rfl ?_
    | refine Br.no rfl ?_
    | refine Br.is (by first | rfl | assumption | omega) ?_
    | refine Br.isnt (by first | assumption | exact k_not_atom | exact k_kd_atom _ | exact k_kd_not _ | exact k_atom_not | exact k_sa | exact k_as | omega) ?_
    | refine Br.notis (by first | assumption | exact k_not_atom | exact k_kd_atom _ | exact k_kd_not _ | exact k_atom_not | exact k_sa | exact k_as | omega) ?_
    | refine Br.notisnt (by first | rfl | assumption | omega) ?_))
theorem wk_len : ∀ k : Fin 16, ((Str.ofString "w") ++ (toString (k.val : Int) : Str)).length ≤ 8 ∧ (Str.ofString "w").length + (toString (k.val : Int) : Str).length ≤ 8 := by decide +kernel
theorem let_len : (Str.ofString "abcdefghijklmnopqrstuvwxyz0123456789").length = 36 := by decide +kernel
abbrev letters : Str := Str.ofString "abcdefghijklmnopqrstuvwxyz0123456789"
theorem let_at {i : Int} (h0 : 0 ≤ i) (h1 : i < 36) : ∃ c, atT letters.cps.toList i = some c := by
  obtain ⟨v, e, _⟩ := atT_in (ts := letters.cps.toList) h0 (by
    have : (letters.cps.toList.length : Int) = 36 := by decide +kernel
    omega)
  exact ⟨v, e⟩
section
variable {ns : List Int} {many : Nat}
abbrev frS (ns : List Int) (many : Nat) (k : Int) (fs : List Str) (i : Nat) (nm : Str) (x7 : Option Slot) : DSt := [some (.val (.lst (ns.map .int))), some (.io 0 [.int k]), some (.val (.int many)), some (.val (.str letters)), some (.own (fs.map .str)), some (.val (.int (0 + (i : Int)))), some (.val (.str nm)), x7]
theorem fresh_tail (N : Nat) {D : DEnds} {k : Int} {fs : List Str} {i : Nat} {nm : Str} {x7 : Option Slot} (hi : i < 16) (hf1 : fs.length = i) (hn : nm.length ≤ 8)
    (h : ∀ nm' : Str, nm'.length ≤ 8 → D.nx [some (.val (.lst (ns.map .int))), some (.io 0 [.int k]), some (.val (.int many)), some (.val (.str letters)), some (.own (fs.map .str ++ [.str nm'])), some (.val (.int (0 + (i : Int)))), some (.val (.str nm')), x7]) : rd_law_fresh_viv_J1 (sem N) D (frS ns many k fs i nm x7) := by
  have e0 : (0 : Int) + (i : Nat) = (i : Nat) := by omega
  obtain ⟨w1, w2⟩ : (Str.ofString "w" ++ (toString (0 + (i : Int)) : Str)).length ≤ 8 ∧ (Str.ofString "w").length + (toString (0 + (i : Int)) : Str).length ≤ 8 := by
    rw [e0]
    exact wk_len ⟨i, hi⟩
  have keep : rd_law_fresh_viv_J0 (sem N) D (frS ns many k fs i nm x7) := by
    and_intros
    exact h nm hn
  have new : dSeq (dAsg 6 (dOp opAdd (dC (.str (Str.ofString "w"))) (dCallB bStr (dCons (dVar 5) dNil)))) (rd_law_fresh_viv_J0 (sem N)) D (frS ns many k fs i nm x7) := by
    refine ⟨⟨by omega, ?_⟩, ?_⟩
    · rw [e0]
      have : ((i : Int).natAbs).log2 ≤ (i : Int).natAbs := Nat.log2_le_self _
      omega
    refine ⟨Nat.le_trans w2 (by rw [sizeLine_is]; decide), ?_⟩
    and_intros
    exact h _ w1
  have hl : nm.length ≤ sizeLine := by rw [sizeLine_is]; omega
  and_intros
  refine Br.mk (fun _ => Br.yes rfl new) (fun _ => ?_)
  and_intros
  refine Br.mk (fun _ => Br.yes rfl new) (fun _ => ?_)
  and_intros
  refine Br.mk (fun _ => ?_) (fun _ => Br.no rfl keep)
  and_intros
  exact Br.mk (fun _ => new) (fun _ => keep)
theorem fresh_ok (N : Nat) (hN : 1 < N) {k : Int} (h0 : 0 < ns.length) (hm : many ≤ 16) {R : Tok → List (List T) → Prop} (h : ∀ k' ys, Asc ys → ys.length ≤ many → (0 < many → ys ≠ []) → R (.v (.tup (ys.map .str))) [[.int k']]) :
    sem N .law_fresh_viv [.v (.lst (ns.map .int)), .io [.int k], .v (.int many)] R := by
  obtain ⟨N, rfl⟩ : ∃ M, N = M + 1 := ⟨N - 1, by omega⟩
  refine ⟨rfl, ?_⟩
  and_intros
  refine range_in many (fun i τ => ∃ k ts x5 x6 x7, τ = [some (.val (.lst (ns.map .int))), some (.io 0 [.int k]), some (.val (.int many)), some (.val (.str letters)), some (.own ts), x5, x6, x7] ∧ ∃ fs : List Str, ts = fs.map .str ∧ fs.length = i ∧ ∀ f ∈ fs, f.length ≤ 8) (by simp) ⟨_, _, _, _, _, rfl, [], rfl, rfl, fun f hf => by cases hf⟩ (fun i hi τ hI K hK => ?_) (fun τ hI => ?_)
  · obtain ⟨k, ts, x5, x6, x7, rfl, fs, rfl, hf1, hf2⟩ := hI
    have hK' : ∀ k nm y, nm.length ≤ 8 → K [some (.val (.lst (ns.map .int))), some (.io 0 [.int k]), some (.val (.int many)), some (.val (.str letters)), some (.own (fs.map .str ++ [.str nm])), some (.val (.int (0 + (i : Int)))), some (.val (.str nm)), y] := fun k nm y hn => hK _ ⟨_, _, _, _, _, rfl, fs ++ [nm], by simp, by simp [hf1], fun f hf => by
      rcases List.mem_append.mp hf with hf | hf
      · exact hf2 f hf
      · rw [List.mem_singleton.mp hf]; exact hn⟩
    have hlet : letters.length ≤ sizeLine := by rw [let_len, sizeLine_is]; decide
    and_intros
    refine take_ok N (by omega) h0 (by decide) fun v v0 v1 => ?_
    obtain ⟨c, hc⟩ := let_at (i := v % 26) (by omega) (by omega)
    and_intros
    refine ifSome.of hc ?_
    have long : ∀ (D : DEnds) (k : Int), (∀ k nm y, nm.length ≤ 8 → D.nx (frS ns many k fs i nm y)) → dFor (diRange1 (dOp opIx (dLst 6 (dCons (dC (.int 0)) (dCons (dC (.int 0)) (dCons (dC (.int 1)) (dCons (dC (.int 2)) (dCons (dC (.int 4)) (dCons (dC (.int 7)) dNil))))))) (dCall (sem N .law_take_viv) [false, true, false] [] (dCons (dVar 0) (dCons (dVar 1) (dCons (dC (.int 6)) dNil)))))) (dgName 7) (rd_law_fresh_viv_L0 (sem N)) D (frS ns many k fs i ⟨#[c]⟩ x7) := fun D k hD => by
      and_intros
      refine take_ok N (by omega) h0 (by decide) fun v v0 v1 => ?_
      obtain ⟨w, hw, hm⟩ := tbl [0, 0, 1, 2, 4, 7] v0 v1
      refine ifSome.of hw ?_
      have hw8 : 0 ≤ w ∧ w ≤ 7 := by
        simp only [List.mem_cons, List.not_mem_nil, or_false] at hm
        omega
      and_intros
      refine range_in w.toNat (fun j τ => ∃ k nm y, τ = frS ns many k fs i nm y ∧ nm.length ≤ 1 + j) rfl ⟨_, _, _, rfl, Nat.le_refl _⟩ (fun j hj τ hI K2 hK2 => ?_) (fun τ hI => ?_)
      · obtain ⟨k, nm, y, rfl, hnm⟩ := hI
        and_intros
        refine take_ok N (by omega) h0 (by decide) fun v v0 v1 => ?_
        obtain ⟨c, hc⟩ := let_at (i := v % 36) (by omega) (by omega)
        and_intros
        refine ifSome.of hc ?_
        have hb8 : nm.length + 1 ≤ 8 := by omega
        refine ⟨Nat.le_trans hb8 (by rw [sizeLine_is]; decide), ?_⟩
        exact hK2 _ ⟨_, _, _, rfl, by rw [len_app, len_one]; omega⟩
      · obtain ⟨k, nm, y, rfl, hnm⟩ := hI
        exact hD _ _ _ (by omega)
    have hw : ∀ {D : DEnds}, (∀ k nm y, nm.length ≤ 8 → D.nx [some (.val (.lst (ns.map .int))), some (.io 0 [.int k]), some (.val (.int many)), some (.val (.str letters)), some (.own (fs.map .str ++ [.str nm])), some (.val (.int (0 + (i : Int)))), some (.val (.str nm)), y]) → ∀ k nm y, nm.length ≤ 8 → rd_law_fresh_viv_J1 (sem N) D (frS ns many k fs i nm y) := fun hD k nm y hn => fresh_tail N (by omega) hf1 hn fun nm' hn' => hD k nm' y hn'
    refine Br.of (fun hi0 => ?_) (fun hi0 => ?_)
    · have hne : fs ≠ [] := fun z => by subst z; simp at hf1; omega
      obtain ⟨bs, b, rfl⟩ : ∃ bs b, fs = bs ++ [b] := ⟨fs.dropLast, fs.getLast hne, (List.dropLast_concat_getLast hne).symm⟩
      have hlast : atT ((bs ++ [b]).map T.str) (-1) = some (.str b) := by rw [List.map_append]; exact atT_last _ _
      refine ifSome.of hlast ?_
      have hb8' := hf2 b (by simp)
      have hbl : b.length ≤ sizeLine := by rw [sizeLine_is]; omega
      and_intros
      refine Br.of (fun hb => ?_) (fun hb => ?_)
      · and_intros
        refine take_ok N (by omega) h0 (by decide) fun v v0 v1 => ?_
        and_intros
        refine Br.of (fun hv => ?_) (fun hv => ?_)
        · and_intros
          refine ifSome.of hlast ?_
          and_intros
          refine take_ok N (by omega) h0 (by decide) fun v v0 v1 => ?_
          obtain ⟨c, hc⟩ := let_at (i := v % 36) (by omega) (by omega)
          and_intros
          refine ifSome.of hc ?_
          have hb8 : b.length + 1 ≤ 8 := by omega
          refine ⟨Nat.le_trans hb8 (by rw [sizeLine_is]; decide), ?_⟩
          exact hw hK' _ _ _ (by rw [len_app, len_one]; exact hb8)
        · refine long _ _ ?_
          exact hw hK'
      · refine Br.no rfl ?_
        refine long _ _ ?_
        exact hw hK'
    · refine Br.no rfl ?_
      refine long _ _ ?_
      exact hw hK'
  · obtain ⟨k, ts, x5, x6, x7, rfl, fs, rfl, hf1, hf2⟩ := hI
    and_intros
    refine ascending_ok N (by omega) fs rfl (by omega) fun ys h1 h2 h3 => ?_
    refine ⟨rfl, h k ys h1 (by omega) fun hp e => ?_⟩
    subst e
    obtain ⟨f, hf⟩ := List.exists_mem_of_length_pos (l := fs) (by omega)
    exact absurd ((h3 f).mpr hf) (by simp)
end
end K17
namespace K17
open N1
open PySem (Str sizeLine)
local macro_rules
  | `(tactic| and_intros) => `(tactic| repeat (first
    | refine And.intro (by first | rfl | decide | exact ⟨by omega, by omega⟩ | exact cmul_l (by omega) (by omega) | exact cmul_r (by omega) (by omega) | assumption | omega | exact fit_strs _ _ | exact fit_ints _ _ | (simp only [List.length_map, List.length_append, List.length_cons, List.length_nil, sizeLine_is]; omega)) ?_
    | refine Br.yes rfl ?_
    | refine Br.no rfl ?_
    | refine Br.is (by first | rfl | assumption | omega) ?_
    | refine Br.isnt (by first | assumption | exact k_not_atom | exact k_kd_atom _ | exact k_kd_not _ | exact k_atom_not | exact k_sa | exact k_as | omega) ?_
    | refine Br.notis (by first | assumption | exact k_not_atom | exact k_kd_atom _ | exact k_kd_not _ | exact k_atom_not | exact k_sa | exact k_as | omega) ?_
    | refine Br.notisnt (by first | rfl | assumption | omega) ?_))
abbrev szS (ns : List Int) (names : List Str) (k dI room : Int) (mk : Bool) (count rest : Int) (ts : List T) (i : Nat) (x10 x11 x12 : Option Slot) : DSt :=
  [some (.val (.lst (ns.map .int))), some (.io 0 [.int k]), some (.val (.tup (names.map .str))), some (.val (.int dI)), some (.val (.int room)), some (.val (.bl mk)), some (.val (.int count)), some (.val (.int rest)), some (.own ts), some (.val (.int (0 + (i : Int)))), x10, x11, x12]
theorem sized_ok {ns : List Int} {names : List Str} (h0 : 0 < ns.length) (hn : 0 < names.length) (mk : Bool) : ∀ (d N : Nat) (hN : 2 * d + 2 < N) {k dI room : Int} (hd : dI = d) (hr : 1 ≤ room ∧ room ≤ 200) {R : Tok → List (List T) → Prop}
    (h : ∀ k' m, Fm.of names m → Fm.nest m ≤ 2 * d → Fm.sz m ≤ room → R (.v (Fm.enc m)) [[.int k']]),
    sem N .law_sized_vivvvv [.v (.lst (ns.map .int)), .io [.int k], .v (.tup (names.map .str)), .v (.int dI), .v (.int room), .v (.bl mk)] R := by
  intro d
  induction d with
  | zero =>
    intro N hN k dI room hd hr R h
    obtain ⟨N, rfl⟩ : ∃ M, N = M + 1 := ⟨N - 1, by omega⟩
    refine ⟨rfl, ?_⟩
    have hd0 : dI = 0 := by omega
    and_intros
    refine take_ok N (by omega) h0 (by decide) fun v v0 v1 => ?_
    and_intros
    obtain ⟨x, hx, hm⟩ := pickName hn v
    refine ifSome.of hx ?_
    and_intros
    exact h _ (.at x) hm (Nat.zero_le _) (by show ((1 : Nat) : Int) ≤ _; omega)
  | succ d ih =>
    intro N hN k dI room hd hr R h
    obtain ⟨N, rfl⟩ : ∃ M, N = M + 1 := ⟨N - 1, by omega⟩
    refine ⟨rfl, ?_⟩
    have hd0 : ¬ dI = 0 := by omega
    have hatom : ∀ k' x, x ∈ names → R (.v (Fm.enc (.at x))) [[.int k']] := fun k' x hx => h k' (.at x) hx (Nat.zero_le _) (by show ((1 : Nat) : Int) ≤ _; omega)
    and_intros
    refine Br.of (fun hr2 => ?_) (fun hr2 => ?_)
    · and_intros
      refine take_ok N (by omega) h0 (by decide) fun v v0 v1 => ?_
      and_intros
      obtain ⟨x, hx, hm⟩ := pickName hn v
      refine ifSome.of hx ?_
      and_intros
      exact hatom _ x hm
    and_intros
    refine take_ok N (by omega) h0 (by decide) fun v v0 v1 => ?_
    refine Br.of (fun hv => ?_) (fun hv => ?_)
    · and_intros
      refine take_ok N (by omega) h0 (by decide) fun v v0 v1 => ?_
      and_intros
      obtain ⟨x, hx, hm⟩ := pickName hn v
      refine ifSome.of hx ?_
      and_intros
      exact hatom _ x hm
    and_intros
    refine take_ok N (by omega) h0 (by decide) fun v v0 v1 => ?_
    obtain ⟨c, hc, hcm⟩ := tbl [2, 2, 3, 1, 2, 3, 2, 2, 4, 0, 2, 5] v0 v1
    have hc5 : 0 ≤ c ∧ c ≤ 5 := by
      simp only [List.mem_cons, List.not_mem_nil, or_false] at hcm
      omega
    refine ifSome.of hc ?_
    and_intros
    refine range_in c.toNat (fun i τ => ∃ k rest ts x9 x10 x11 x12, τ = [some (.val (.lst (ns.map .int))), some (.io 0 [.int k]), some (.val (.tup (names.map .str))), some (.val (.int dI)), some (.val (.int room)), some (.val (.bl mk)), some (.val (.int c)), some (.val (.int rest)), some (.own ts), x9, x10, x11, x12] ∧ 0 ≤ rest ∧ ∃ ms : List Fm, ts = ms.map Fm.enc ∧ ms.length ≤ i ∧ Fm.ofs names ms ∧ Fm.nests ms ≤ 2 * d + 1 ∧ Fm.szs ms + rest ≤ room - 1) rfl ⟨_, _, _, _, _, _, _, rfl, by omega, [], rfl, Nat.le_refl _, trivial, Nat.zero_le _, by show ((0 : Nat) : Int) + _ ≤ _; omega⟩ (fun i hi τ hI K hK => ?_) (fun τ hI => ?_)
    · obtain ⟨k, rest, ts, x9, x10, x11, x12, rfl, hrest, ms, rfl, hm1, hm2, hm3, hm4⟩ := hI
      have hshare : 0 ≤ rest / (c - (0 + (i : Int))) ∧ rest / (c - (0 + (i : Int))) ≤ rest := ⟨Int.ediv_nonneg hrest (by omega), Int.ediv_le_self _ hrest⟩
      generalize hsh : rest / (c - (0 + (i : Int))) = share at hshare
      have tail : ∀ (D : DEnds) (k mark : Int), (∀ τ, (∃ k rest' ts x9 x10 x11 x12, τ = [some (.val (.lst (ns.map .int))), some (.io 0 [.int k]), some (.val (.tup (names.map .str))), some (.val (.int dI)), some (.val (.int room)), some (.val (.bl mk)), some (.val (.int c)), some (.val (.int rest')), some (.own ts), x9, x10, x11, x12] ∧ 0 ≤ rest' ∧ ∃ ms : List Fm, ts = ms.map Fm.enc ∧ ms.length ≤ i + 1 ∧ Fm.ofs names ms ∧ Fm.nests ms ≤ 2 * d + 1 ∧ Fm.szs ms + rest' ≤ room - 1) → D.nx τ) → (mark = 0 ∨ mark = 1 ∧ 1 < share) → rd_law_sized_vivvvv_J0 (sem N) D (szS ns names k dI room mk c rest (ms.map Fm.enc) i (some (.val (.int share))) (some (.val (.int mark))) x12) := by
        intro D k mark hD hmark
        refine Br.of (fun hs => ?_) (fun hs => ?_)
        · and_intros
          refine ih N (by omega) (by omega) (by omega) fun k' m hm hmn hms => ?_
          and_intros
          refine size_ok m N (by omega) ?_
          rcases hmark with rfl | ⟨rfl, hs1⟩
          · and_intros
            refine hD _ ⟨_, _, _, _, _, _, _, rfl, by omega, ms ++ [m], by simp, by simp; omega, Fm.ofs_app hm2 ⟨hm, trivial⟩, ?_, ?_⟩
            · rw [Fm.nests_app]
              show max _ (max (Fm.nest m) 0) ≤ _
              omega
            · rw [Fm.szs_app]
              show ((Fm.szs ms + (Fm.sz m + 0) : Nat) : Int) + _ ≤ _
              omega
          · and_intros
            refine hD _ ⟨_, _, _, _, _, _, _, rfl, by omega, ms ++ [.no m], by simp; rfl, by simp; omega, Fm.ofs_app hm2 ⟨hm, trivial⟩, ?_, ?_⟩
            · rw [Fm.nests_app]
              show max _ (max (Fm.nest m + 1) 0) ≤ _
              omega
            · rw [Fm.szs_app]
              show ((Fm.szs ms + (1 + Fm.sz m + 0) : Nat) : Int) + _ ≤ _
              omega
        · exact hD _ ⟨_, _, _, _, _, _, _, rfl, hrest, ms, rfl, by omega, hm2, hm3, hm4⟩
      and_intros
      rw [hsh]
      refine Br.mk (fun hmk => ?_) (fun hmk => ?_)
      · refine Br.of (fun hs1 => ?_) (fun hs1 => ?_)
        · and_intros
          refine take_ok N (by omega) h0 (by decide) fun v v0 v1 => ?_
          refine tail _ _ _ (fun τ hτ => hK τ hτ) ?_
          by_cases hv : v < 2 <;> simp [hv] <;> omega
        · exact tail _ _ _ (fun τ hτ => hK τ hτ) (.inl rfl)
      · exact tail _ _ _ (fun τ hτ => hK τ hτ) (.inl rfl)
    · obtain ⟨k, rest, ts, x9, x10, x11, x12, rfl, hrest, ms, rfl, hm1, hm2, hm3, hm4⟩ := hI
      and_intros
      refine take_ok N (by omega) h0 (by decide) fun v v0 v1 => ?_
      obtain ⟨b, hb⟩ := pickKd v0 v1
      refine ifSome.of hb ?_
      and_intros
      have := h (k + 1) (.nd b ms) hm2 (by show Fm.nests ms + 1 ≤ _; omega) (by rw [Fm.sz_nd]; omega)
      rw [Fm.enc_nd] at this
      exact this
end K17
namespace K17
open N1
open PySem (Str sizeLine)
local macro_rules
  | `(tactic| and_intros) => `(tactic| repeat (first
    | refine And.intro (by first | rfl | decide | exact ⟨by omega, by omega⟩ | exact cmul_l (by omega) (by omega) | exact cmul_r (by omega) (by omega) | assumption | omega | exact fit_strs _ _ | exact fit_ints _ _ | (simp only [List.length_map, List.length_append, List.length_cons, List.length_nil, sizeLine_is]; omega)) ?_
    | refine Br.yes rfl ?_
    | refine Br.no rfl ?_
    | refine Br.is (by first | rfl | assumption | omega) ?_
    | refine Br.isnt (by first | assumption | exact k_not_atom | exact k_kd_atom _ | exact k_kd_not _ | exact k_atom_not | exact k_sa | exact k_as | omega) ?_
    | refine Br.notis (by first | assumption | exact k_not_atom | exact k_kd_atom _ | exact k_kd_not _ | exact k_atom_not | exact k_sa | exact k_as | omega) ?_
    | refine Br.notisnt (by first | rfl | assumption | omega) ?_))
abbrev spS (ns : List Int) (names : List Str) (k dI : Int) (mk : Bool) (x5 x6 : Option Slot) (sl : Slot) (x8 x9 : Option Slot) : DSt :=
  [some (.val (.lst (ns.map .int))), some (.io 0 [.int k]), some (.val (.tup (names.map .str))), some (.val (.int dI)), some (.val (.bl mk)), x5, x6, some sl, x8, x9]
theorem spine_in {ns : List Int} {names : List Str} (h0 : 0 < ns.length) (N : Nat) (hN : 0 < N) {D : DEnds} {k dI : Int} {mk : Bool} {x5 x6 x8 : Option Slot} {sl : Slot} {ms : List Fm} {q : Fm} (hsl : sl = .own (ms.map Fm.enc) ∨ sl = .val (.lst (ms.map Fm.enc))) (hl : ms.length ≤ 1000)
    (h : ∀ k' ms', (ms' = ms ++ [q] ∨ ms' = q :: ms) → D.nx (spS ns names k' dI mk x5 x6 (.val (.lst (ms'.map Fm.enc))) x8 (some (.val (Fm.enc q))))) :
    rd_law_spine_vivvv_J0 (sem N) D (spS ns names k dI mk x5 x6 sl x8 (some (.val (Fm.enc q)))) := by
  rcases hsl with rfl | rfl
  · and_intros
    refine take_ok N (by omega) h0 (by decide) fun v v0 v1 => ?_
    have : v = 0 ∨ v = 1 := by omega
    rcases this with rfl | rfl
    · have := h (k + 1) _ (.inl rfl)
      rw [List.map_append] at this
      exact this
    · exact h (k + 1) _ (.inr rfl)
  · and_intros
    refine take_ok N (by omega) h0 (by decide) fun v v0 v1 => ?_
    have : v = 0 ∨ v = 1 := by omega
    rcases this with rfl | rfl
    · have := h (k + 1) _ (.inl rfl)
      rw [List.map_append] at this
      exact this
    · exact h (k + 1) _ (.inr rfl)
def okF (names : List Str) (n s : Nat) (ms : List Fm) : Prop := Fm.ofs names ms ∧ Fm.nests ms ≤ n ∧ Fm.szs ms ≤ s
theorem okF.snoc {names : List Str} {n s t : Nat} {ms : List Fm} {q : Fm} (h : okF names n s ms) (hq : Fm.of names q) (hn : Fm.nest q ≤ n) (hs : Fm.sz q ≤ t) : okF names n (s + t) (ms ++ [q]) ∧ okF names n (s + t) (q :: ms) := by
  obtain ⟨h1, h2, h3⟩ := h
  refine ⟨⟨Fm.ofs_app h1 ⟨hq, trivial⟩, ?_, ?_⟩, ⟨hq, h1⟩, ?_, ?_⟩
  · rw [Fm.nests_app]
    show max _ (max (Fm.nest q) 0) ≤ _
    omega
  · rw [Fm.szs_app]
    show Fm.szs ms + (Fm.sz q + 0) ≤ _
    omega
  · show max (Fm.nest q) _ ≤ _
    omega
  · show Fm.sz q + _ ≤ _
    omega
theorem spine_out {ns : List Int} {names : List Str} (h0 : 0 < ns.length) (hn : 0 < names.length) (N : Nat) (hN : 0 < N) {D : DEnds} {k dI : Int} {mk : Bool} {x5 x6 x8 x9 : Option Slot} {p : Fm} {n s : Nat} (hn1 : 1 ≤ n) (hp : Fm.of names p) (hpn : Fm.nest p ≤ n) (hps : Fm.sz p ≤ s)
    (h : ∀ k' x7 x8 x9 m, Fm.of names m → Fm.nest m ≤ n + 1 → Fm.sz m ≤ s + 5 → D.nx [some (.val (.lst (ns.map .int))), some (.io 0 [.int k']), some (.val (.tup (names.map .str))), some (.val (.int dI)), some (.val (.bl mk)), some (.val (Fm.enc m)), x6, x7, x8, x9]) :
    rd_law_spine_vivvv_J1 (sem N) D (spS ns names k dI mk x5 x6 (.own [Fm.enc p]) x8 x9) := by
  and_intros
  refine take_ok N (by omega) h0 (by decide) fun v v0 v1 => ?_
  and_intros
  refine range_in v.toNat (fun j τ => ∃ k sl x8 x9, τ = spS ns names k dI mk x5 x6 sl x8 x9 ∧ ∃ ms, (sl = .own (ms.map Fm.enc) ∨ sl = .val (.lst (ms.map Fm.enc))) ∧ ms.length ≤ 1 + j ∧ okF names n (s + 2 * j) ms) rfl ⟨_, _, _, _, rfl, [p], .inl rfl, Nat.le_refl _, ⟨hp, trivial⟩, by show max _ 0 ≤ _; omega, by show _ + 0 ≤ _; omega⟩ (fun j hj τ hI K hK => ?_) (fun τ hI => ?_)
  · obtain ⟨k, sl, x8, x9, rfl, ms, hsl, hl, hok⟩ := hI
    and_intros
    refine take_ok N (by omega) h0 (by decide) fun v v0 v1 => ?_
    and_intros
    obtain ⟨x, hx, hm⟩ := pickName hn v
    refine ifSome.of hx ?_
    and_intros
    have dn : ∀ q : Fm, Fm.of names q → Fm.nest q ≤ n → Fm.sz q ≤ 2 → ∀ k' ms', (ms' = ms ++ [q] ∨ ms' = q :: ms) → K (spS ns names k' dI mk x5 x6 (.val (.lst (ms'.map Fm.enc))) (some (.val (.int (0 + (j : Int))))) (some (.val (Fm.enc q)))) := fun q h1 h2 h3 k' ms' he => hK _ ⟨_, _, _, _, rfl, ms', .inr rfl, by rcases he with rfl | rfl <;> simp <;> omega, by
      have := hok.snoc h1 h2 h3
      rcases he with rfl | rfl
      · exact this.1
      · exact this.2⟩
    have d1 := dn (.at x) hm (Nat.zero_le _) (by show 1 ≤ 2; decide)
    have d2 := dn (.no (.at x)) hm (by show 0 + 1 ≤ _; omega) (by show 1 + 1 ≤ 2; decide)
    refine Br.mk (fun hmk => ?_) (fun hmk => ?_)
    · and_intros
      refine take_ok N (by omega) h0 (by decide) fun v v0 v1 => ?_
      refine Br.of (fun hv => ?_) (fun hv => ?_)
      · refine ⟨rfl, ?_⟩
        refine spine_in (q := .no (.at x)) h0 N hN hsl (by omega) ?_
        exact d2
      · refine spine_in (q := .at x) h0 N hN hsl (by omega) ?_
        exact d1
    · refine Br.no rfl ?_
      refine spine_in (q := .at x) h0 N hN hsl (by omega) ?_
      exact d1
  · obtain ⟨k, sl, x8, x9, rfl, ms, hsl, hl, hok1, hok2, hok3⟩ := hI
    have key : ∀ k' x7 b, D.nx [some (.val (.lst (ns.map .int))), some (.io 0 [.int k']), some (.val (.tup (names.map .str))), some (.val (.int dI)), some (.val (.bl mk)), some (.val (.tup [.str (kd b), .tup (ms.map Fm.enc)])), x6, x7, x8, x9] := fun k' x7 b => by
      have := h k' x7 x8 x9 (.nd b ms) hok1 (by show Fm.nests ms + 1 ≤ _; omega) (by show 1 + Fm.szs ms ≤ _; omega)
      rw [Fm.enc_nd] at this
      exact this
    rcases hsl with rfl | rfl
    · and_intros
      refine take_ok N (by omega) h0 (by decide) fun v v0 v1 => ?_
      obtain ⟨b, hb⟩ := pickKd v0 v1
      refine ifSome.of hb ?_
      and_intros
      exact key _ _ b
    · and_intros
      refine take_ok N (by omega) h0 (by decide) fun v v0 v1 => ?_
      obtain ⟨b, hb⟩ := pickKd v0 v1
      refine ifSome.of hb ?_
      and_intros
      exact key _ _ b
theorem spine_ok {ns : List Int} {names : List Str} (h0 : 0 < ns.length) (hn : 0 < names.length) (mk : Bool) (N : Nat) (hN : 1 < N) {k dI : Int} (hd : 0 ≤ dI ∧ dI ≤ 100) {R : Tok → List (List T) → Prop}
    (h : ∀ k' m, Fm.of names m → Fm.nest m ≤ 2 * dI → Fm.sz m ≤ 1 + 6 * dI → R (.v (Fm.enc m)) [[.int k']]) :
    sem N .law_spine_vivvv [.v (.lst (ns.map .int)), .io [.int k], .v (.tup (names.map .str)), .v (.int dI), .v (.bl mk)] R := by
  obtain ⟨N, rfl⟩ : ∃ M, N = M + 1 := ⟨N - 1, by omega⟩
  refine ⟨rfl, ?_⟩
  and_intros
  refine take_ok N (by omega) h0 (by decide) fun v v0 v1 => ?_
  and_intros
  obtain ⟨x, hx, hm⟩ := pickName hn v
  refine ifSome.of hx ?_
  and_intros
  refine range_in dI.toNat (fun i τ => ∃ k m x6 x7 x8 x9, τ = [some (.val (.lst (ns.map .int))), some (.io 0 [.int k]), some (.val (.tup (names.map .str))), some (.val (.int dI)), some (.val (.bl mk)), some (.val (Fm.enc m)), x6, x7, x8, x9] ∧ Fm.of names m ∧ Fm.nest m ≤ 2 * i ∧ Fm.sz m ≤ 1 + 6 * i) rfl ⟨_, .at x, _, _, _, _, rfl, hm, Nat.zero_le _, Nat.le_refl _⟩ (fun i hi τ hI K hK => ?_) (fun τ hI => ?_)
  · obtain ⟨k, m, x6, x7, x8, x9, rfl, hf, hmn, hms⟩ := hI
    have fin : ∀ k' x5 x7 x8 x9 m, Fm.of names m → Fm.nest m ≤ 2 * i + 1 + 1 → Fm.sz m ≤ 1 + 6 * i + 1 + 5 → K [some (.val (.lst (ns.map .int))), some (.io 0 [.int k']), some (.val (.tup (names.map .str))), some (.val (.int dI)), some (.val (.bl mk)), some (.val (Fm.enc m)), x5, x7, x8, x9] := fun k' x5 x7 x8 x9 m h1 h2 h3 => hK _ ⟨_, m, _, _, _, _, rfl, h1, by omega, by omega⟩
    and_intros
    refine Br.mk (fun hmk => ?_) (fun hmk => ?_)
    · and_intros
      refine take_ok N (by omega) h0 (by decide) fun v v0 v1 => ?_
      refine Br.of (fun hv => ?_) (fun hv => ?_)
      · refine ⟨rfl, rfl, ?_⟩
        refine spine_out h0 hn N (by omega) (p := .no m) (n := 2 * i + 1) (s := 1 + 6 * i + 1) (by omega) hf (by show _ + 1 ≤ _; omega) (by show 1 + _ ≤ _; omega) ?_
        exact fun k' => fin k' _
      · refine spine_out h0 hn N (by omega) (p := m) (n := 2 * i + 1) (s := 1 + 6 * i + 1) (by omega) hf (by omega) (by omega) ?_
        exact fun k' => fin k' _
    · refine Br.no rfl ?_
      refine spine_out h0 hn N (by omega) (p := m) (n := 2 * i + 1) (s := 1 + 6 * i + 1) (by omega) hf (by omega) (by omega) ?_
      exact fun k' => fin k' _
  · obtain ⟨k, m, x6, x7, x8, x9, rfl, hf, hmn, hms⟩ := hI
    refine ⟨rfl, ?_⟩
    exact h k m hf (by omega) (by omega)
theorem member_ok {ns : List Int} {names : List Str} (h0 : 0 < ns.length) (hn : 0 < names.length) (N : Nat) (hN : 20 < N) {k : Int} {R : Tok → List (List T) → Prop}
    (h : ∀ k' m, Fm.of names m → Fm.nest m ≤ 17 → Fm.sz m ≤ 60 → R (.v (Fm.enc m)) [[.int k']]) :
    sem N .law_member_viv [.v (.lst (ns.map .int)), .io [.int k], .v (.tup (names.map .str))] R := by
  obtain ⟨N, rfl⟩ : ∃ M, N = M + 1 := ⟨N - 1, by omega⟩
  refine ⟨rfl, ?_⟩
  and_intros
  refine take_ok N (by omega) h0 (by decide) fun v v0 v1 => ?_
  and_intros
  refine take_ok N (by omega) h0 (by decide) fun w w0 w1 => ?_
  have tail : ∀ (D : DEnds) k (b : Bool) x4 m x6, (∀ k' x3 x4 x5 x6 m, Fm.of names m → Fm.nest m ≤ 17 → Fm.sz m ≤ 60 → D.rt (.v (Fm.enc m)) [some (.val (.lst (ns.map .int))), some (.io 0 [.int k']), some (.val (.tup (names.map .str))), x3, x4, x5, x6]) → Fm.of names m → Fm.nest m ≤ 16 → Fm.sz m ≤ 59 →
      rd_law_member_viv_J0 (sem N) D [some (.val (.lst (ns.map .int))), some (.io 0 [.int k]), some (.val (.tup (names.map .str))), some (.val (.bl b)), x4, some (.val (Fm.enc m)), x6] := by
    intro D k b x4 m x6 hD h1 h2 h3
    refine Br.mk (fun hmk => ?_) (fun hmk => ?_)
    · and_intros
      refine take_ok N (by omega) h0 (by decide) fun v v0 v1 => ?_
      refine Br.of (fun hv => ?_) (fun hv => ?_)
      · and_intros
        exact hD _ _ _ _ _ (.no m) h1 (by show _ + 1 ≤ _; omega) (by show 1 + _ ≤ _; omega)
      · exact hD _ _ _ _ _ m h1 (by omega) (by omega)
    · refine Br.no rfl ?_
      exact hD _ _ _ _ _ m h1 (by omega) (by omega)
  refine Br.of (fun hw => ?_) (fun hw => ?_)
  · and_intros
    refine take_ok N (by omega) h0 (by decide) fun v v0 v1 => ?_
    obtain ⟨d, hd, hdm⟩ := tbl [8, 3, 5, 2, 6, 4, 7, 1, 8, 3] v0 v1
    have hd8 : 0 ≤ d ∧ d ≤ 8 := by
      simp only [List.mem_cons, List.not_mem_nil, or_false] at hdm
      omega
    refine ifSome.of hd ?_
    and_intros
    refine spine_ok h0 hn _ N (by omega) (by omega) fun k' m h1 h2 h3 => ?_
    refine tail _ _ _ _ m _ ?_ h1 (by omega) (by omega)
    exact fun k' x3 x4 x5 x6 m h1 h2 h3 => ⟨rfl, h k' m h1 h2 h3⟩
  · obtain ⟨d, r, hd, hr, h1, h2⟩ : ∃ d r : Int, atT ([8, 3, 2, 4, 3].map T.int) (w - 1) = some (.int d) ∧ atT ([59, 12, 8, 24, 16].map T.int) (w - 1) = some (.int r) ∧ (0 ≤ d ∧ d ≤ 8) ∧ (1 ≤ r ∧ r ≤ 59) := by
      have : w = 1 ∨ w = 2 ∨ w = 3 ∨ w = 4 ∨ w = 5 := by omega
      rcases this with rfl | rfl | rfl | rfl | rfl
      · exact ⟨_, _, rfl, rfl, by decide, by decide⟩
      · exact ⟨_, _, rfl, rfl, by decide, by decide⟩
      · exact ⟨_, _, rfl, rfl, by decide, by decide⟩
      · exact ⟨_, _, rfl, rfl, by decide, by decide⟩
      · exact ⟨_, _, rfl, rfl, by decide, by decide⟩
    refine ⟨rfl, ifSome.of hd ?_⟩
    and_intros
    refine ifSome.of hr ?_
    and_intros
    refine sized_ok h0 hn _ d.toNat N (by omega) (by omega) (by omega) fun k' m h1 h2 h3 => ?_
    refine tail _ _ _ _ m _ ?_ h1 (by omega) (by omega)
    exact fun k' x3 x4 x5 x6 m h1 h2 h3 => ⟨rfl, h k' m h1 h2 h3⟩
end K17
namespace K17
open N1
open PySem (Str sizeLine)
local macro_rules
  | `(tactic| and_intros) => `(tactic| repeat (first
    | refine And.intro (by first | rfl | decide | exact ⟨by omega, by omega⟩ | exact cmul_l (by omega) (by omega) | exact cmul_r (by omega) (by omega) | assumption | omega | exact fit_strs _ _ | exact fit_ints _ _ | (simp only [List.length_map, List.length_append, List.length_cons, List.length_nil, sizeLine_is]; omega)) ?_
    | refine Br.yes rfl ?_
    | refine Br.no rfl ?_
    | refine Br.is (by first | rfl | assumption | omega) ?_
    | refine Br.isnt (by first | assumption | exact k_not_atom | exact k_kd_atom _ | exact k_kd_not _ | exact k_atom_not | exact k_sa | exact k_as | omega) ?_
    | refine Br.notis (by first | assumption | exact k_not_atom | exact k_kd_atom _ | exact k_kd_not _ | exact k_atom_not | exact k_sa | exact k_as | omega) ?_
    | refine Br.notisnt (by first | rfl | assumption | omega) ?_))
abbrev encP (p : List Str × List Str) : T := .tup [.tup (p.1.map .str), .tup (p.2.map .str)]
abbrev dis (on off : List Str) : Prop := ∀ x ∈ on, x ∉ off
theorem law_J0_ok (N : Nat) (hN : 25 ≤ N) {nh : List Int} (h0 : 0 < nh.length) {names on off later : List Str} {m : Fm} {fs : List Fm} {k : Int} {x0 x7 x8 x9 x12 x13 x14 : Option Slot} {D : DEnds}
    (hn : names.length ≤ 9) (hnd : names.Nodup) (hp : (on ++ (off ++ later)).Perm names) (hm : Fm.of names m) (hmn : Fm.nest m ≤ 17) (hfs : ∀ f ∈ fs, Fm.nest f ≤ 18) (hR : ∀ τ, D.rt (.v (.bl true)) τ) :
    rd_law_J0 (sem N) D [x0, some (.val (.lst (nh.map .int))), some (.own [.int k]), some (.val (.tup (names.map .str))), some (.own (on.map .str)), some (.own (off.map .str)), some (.own (later.map .str)), x7, x8, x9, some (.val (Fm.enc m)), some (.own (fs.map Fm.enc)), x12, x13, x14] := by
  have hnd2 : (on ++ (off ++ later)).Nodup := hp.nodup_iff.mpr hnd
  obtain ⟨n1, n2, n3⟩ := List.nodup_append.mp hnd2
  obtain ⟨n4, n5, n6⟩ := List.nodup_append.mp n2
  have hlen : on.length + (off.length + later.length) ≤ 9 := by
    have := hp.length_eq
    rw [List.length_append, List.length_append] at this
    omega
  and_intros
  refine for_in later (e := T.str) (fun pre τ => ∃ k ts x7 x12 x13 x14, τ = [x0, some (.val (.lst (nh.map .int))), some (.own [.int k]), some (.val (.tup (names.map .str))), some (.own (on.map .str)), some (.own (off.map .str)), some (.val (.lst (later.map .str))), x7, x8, x9, some (.val (Fm.enc m)), some (.own (fs.map Fm.enc)), some (.own ts), x13, x14] ∧
    ∃ qs p q, ts = (qs ++ [(p, q)]).map encP ∧ (∃ r, qs ++ [(p, q)] = (on, off) :: r) ∧ qs.length ≤ pre.length ∧ (∀ z ∈ qs ++ [(p, q)], dis z.1 z.2) ∧ (∀ x, x ∈ p ∨ x ∈ q ↔ (x ∈ on ∨ x ∈ off) ∨ x ∈ pre) ∧ p.length ≤ on.length + pre.length ∧ q.length ≤ off.length + pre.length)
    rfl ⟨_, _, _, x12, _, _, rfl, [], on, off, rfl, ⟨[], rfl⟩, Nat.le_refl _, fun z hz => ?_, fun x => by simp, Nat.le_refl _, Nat.le_refl _⟩ (fun pre x post e τ hi K hK => ?_) (fun τ hi => ?_)
  · rw [List.mem_singleton.mp hz]
    exact fun x hx hx2 => n3 x hx x (List.mem_append_left _ hx2) rfl
  · obtain ⟨k, ts, x7, x12, x13, x14, rfl, qs, p, q, rfl, ⟨r, hr⟩, hq1, hq2, hq3, hq4, hq5⟩ := hi
    have hxl : x ∈ later := by rw [e]; simp
    have hx1 : x ∉ on := fun h => n3 x h x (List.mem_append_right _ hxl) rfl
    have hx2 : x ∉ off := fun h => n6 x h x hxl rfl
    have hx3 : x ∉ pre := fun h => by
      rw [e] at n5
      exact (List.nodup_append.mp n5).2.2 x h x List.mem_cons_self rfl
    have hxp : ¬ (x ∈ p ∨ x ∈ q) := fun h => by
      rcases (hq3 x).mp h with (h | h) | h
      · exact hx1 h
      · exact hx2 h
      · exact hx3 h
    have hpl : pre.length < later.length := by rw [e]; simp
    have hlast : atT ((qs ++ [(p, q)]).map encP) (-1) = some (encP (p, q)) := by rw [List.map_append]; exact atT_last _ _
    have dpq := hq2 (p, q) (by simp)
    and_intros
    refine take_ok N (by omega) h0 (by decide) fun v v0 v1 => ?_
    refine Br.of (fun hv => ?_) (fun hv => ?_)
    · and_intros
      refine ifSome.of hlast ?_
      and_intros
      refine ascending_ok N (by omega) (p ++ [x]) (by simp) (by simp; omega) fun ys y1 y2 y3 => ?_
      and_intros
      refine ifSome.of hlast ?_
      and_intros
      refine hK _ ⟨_, _, _, x12, _, _, rfl, qs ++ [(p, q)], ys, q, by simp, ⟨r ++ [(ys, q)], by rw [hr]; simp⟩, by simp; omega, fun z hz => ?_, fun z => ?_, by simp at y2 ⊢; omega, by simp; omega⟩
      · rcases List.mem_append.mp hz with hz | hz
        · exact hq2 z hz
        · rw [List.mem_singleton.mp hz]
          intro w hw hw2
          rcases List.mem_append.mp ((y3 w).mp hw) with hw | hw
          · exact dpq w hw hw2
          · rw [List.mem_singleton.mp hw] at hw2
            exact hxp (.inr hw2)
      · have := hq3 z
        rw [y3]
        simp only [List.mem_append, List.mem_singleton]
        grind
    · and_intros
      refine ifSome.of hlast ?_
      and_intros
      refine ifSome.of hlast ?_
      and_intros
      refine ascending_ok N (by omega) (q ++ [x]) (by simp) (by simp; omega) fun ys y1 y2 y3 => ?_
      and_intros
      refine hK _ ⟨_, _, _, x12, _, _, rfl, qs ++ [(p, q)], p, ys, by simp, ⟨r ++ [(p, ys)], by rw [hr]; simp⟩, by simp; omega, fun z hz => ?_, fun z => ?_, by simp; omega, by simp at y2 ⊢; omega⟩
      · rcases List.mem_append.mp hz with hz | hz
        · exact hq2 z hz
        · rw [List.mem_singleton.mp hz]
          intro w hw hw2
          rcases List.mem_append.mp ((y3 w).mp hw2) with hw2 | hw2
          · exact dpq w hw hw2
          · rw [List.mem_singleton.mp hw2] at hw
            exact hxp (.inl hw)
      · have := hq3 z
        rw [y3]
        simp only [List.mem_append, List.mem_singleton]
        grind
  · obtain ⟨k, ts, x7, x12, x13, x14, rfl, qs, p, q, rfl, ⟨r, hr⟩, hq1, hq2, hq3, hq4, hq5⟩ := hi
    have hql : (qs ++ [(p, q)]).length ≤ 10 := by simp; omega
    generalize hps : qs ++ [(p, q)] = ps at *
    have hlast : atT (ps.map encP) (-1) = some (encP (p, q)) := by rw [← hps, List.map_append]; exact atT_last _ _
    have hfirst : atT (ps.map encP) 0 = some (encP (on, off)) := by rw [hr]; rfl
    have dpq : dis p q := hq2 (p, q) (by rw [← hps]; simp)
    have d00 : dis on off := hq2 (on, off) (by rw [hr]; simp)
    and_intros
    refine range_in ps.length (fun i τ => ∃ x7 sl x13 x14, τ = [x0, some (.val (.lst (nh.map .int))), some (.own [.int k]), some (.val (.tup (names.map .str))), some (.own (on.map .str)), some (.own (off.map .str)), some (.val (.lst (later.map .str))), x7, x8, x9, some (.val (Fm.enc m)), some sl, some (.own (ps.map encP)), x13, x14] ∧ (sl = .own (fs.map Fm.enc) ∨ sl = .val (.lst (fs.map Fm.enc)))) (by simp) ⟨_, _, _, _, rfl, .inl rfl⟩ (fun i hi τ hI K hK => ?_) (fun τ hI => ?_)
    · obtain ⟨x7, sl, x13, x14, rfl, hsl⟩ := hI
      have e0 : (0 : Int) + (i : Nat) = (i : Nat) := by omega
      have hat : atT (ps.map encP) (0 + (i : Nat)) = some (encP ps[i]) := by rw [e0, atT_map, atT_get hi]; rfl
      have hdi := hq2 ps[i] (List.getElem_mem hi)
      have hK' := fun z => hK _ ⟨x7, _, z, x14, rfl, .inr rfl⟩
      rcases hsl with rfl | rfl
      · refine Br.or ?_ (hK _ ⟨_, _, _, _, rfl, .inl rfl⟩)
        and_intros
        refine ifSome.of hat ?_
        and_intros
        refine ifSome.of hat ?_
        and_intros
        refine answers_ok N ps[i].1 ps[i].2 hdi fs rfl (fun f hf => by have := hfs f hf; omega) (by omega) ?_
        and_intros
        refine ifSome.of hat ?_
        and_intros
        refine ifSome.of hat ?_
        and_intros
        refine holds_later_ok N m names ps[i].1 ps[i].2 (by omega) hm (by omega) hdi ?_
        and_intros
        exact hK' _
      · refine Br.or ?_ (hK _ ⟨_, _, _, _, rfl, .inr rfl⟩)
        and_intros
        refine ifSome.of hat ?_
        and_intros
        refine ifSome.of hat ?_
        and_intros
        refine answers_ok N ps[i].1 ps[i].2 hdi fs rfl (fun f hf => by have := hfs f hf; omega) (by omega) ?_
        and_intros
        refine ifSome.of hat ?_
        and_intros
        refine ifSome.of hat ?_
        and_intros
        refine holds_later_ok N m names ps[i].1 ps[i].2 (by omega) hm (by omega) hdi ?_
        and_intros
        exact hK' _
    · obtain ⟨x7, sl, x13, x14, rfl, hsl⟩ := hI
      have hdec : sv (inn p) (inn q) m = some (Fm.on (inn p) m) := by
        have h1 := sv_tot (p := inn p) (q := inn q) (names := names) (fun x hx => by
          have := (hq3 x).mpr (by have := hp.mem_iff.mpr hx; simp only [List.mem_append] at this; grind)
          rcases this with h | h
          · exact .inl (decide_eq_true h)
          · exact .inr (decide_eq_true h)) m hm
        have h2 := sv_on (p := inn p) (q := inn q) (w := inn p) (names := names) (fun x hx h => h) (fun x hx h => decide_eq_false fun h' => dpq x h' (of_decide_eq_true h)) m hm
        cases e : sv (inn p) (inn q) m with
        | none => exact absurd e h1
        | some c => rw [h2 c e]
      refine ifSome.of hlast ?_
      and_intros
      refine ifSome.of hlast ?_
      and_intros
      refine surely_ok p q m N (by omega) ?_
      rw [hdec]
      and_intros
      refine ifSome.of hlast ?_
      and_intros
      refine on_ok p m N (by omega) ?_
      cases hc : Fm.on (inn p) m with
      | true =>
        and_intros
        refine ifSome.of hlast ?_
        and_intros
        refine on_ok p m N (by omega) ?_
        rw [hc]
        and_intros
        refine ifSome.of hfirst ?_
        and_intros
        refine ifSome.of hfirst ?_
        and_intros
        refine answers_ok N on off d00 [m] rfl (fun f hf => by rw [List.mem_singleton.mp hf]; omega) (by omega) ?_
        exact hR _
      | false =>
        and_intros
        refine ifSome.of hlast ?_
        and_intros
        refine on_ok p m N (by omega) ?_
        rw [hc]
        and_intros
        refine ifSome.of hfirst ?_
        and_intros
        refine ifSome.of hfirst ?_
        and_intros
        refine answers_ok N on off d00 [m] rfl (fun f hf => by rw [List.mem_singleton.mp hf]; omega) (by omega) ?_
        exact hR _
end K17
namespace K17
open N1
open PySem (Str sizeLine)
local macro_rules
  | `(tactic| and_intros) => `(tactic| repeat (first
    | refine And.intro (by first | rfl | decide | exact ⟨by omega, by omega⟩ | exact cmul_l (by omega) (by omega) | exact cmul_r (by omega) (by omega) | assumption | omega | exact fit_strs _ _ | exact fit_ints _ _ | (simp only [List.length_map, List.length_append, List.length_cons, List.length_nil, sizeLine_is]; omega)) ?_
    | refine Br.yes rfl ?_
    | refine Br.no rfl ?_
    | refine Br.is (by first | rfl | assumption | omega) ?_
    | refine Br.isnt (by first | assumption | exact k_not_atom | exact k_kd_atom _ | exact k_kd_not _ | exact k_atom_not | exact k_sa | exact k_as | omega) ?_
    | refine Br.notis (by first | assumption | exact k_not_atom | exact k_kd_atom _ | exact k_kd_not _ | exact k_atom_not | exact k_sa | exact k_as | omega) ?_
    | refine Br.notisnt (by first | rfl | assumption | omega) ?_))
set_option maxHeartbeats 4000000 in
theorem law_true (N : Nat) (hN : 30 ≤ N) (ns : List Int) (hns : ns.length ≤ 63) : sem N .law [.v (.lsk (ns.map .int))] fun tk _ => tk = .v (.bl true) := by
  obtain ⟨N, rfl⟩ : ∃ M, N = M + 1 := ⟨N - 1, by omega⟩
  refine ⟨rfl, ?_⟩
  and_intros
  refine cell_ok N (by omega) (k := 0) hns (by decide) fun v => ?_
  and_intros
  refine digits_ok N (by omega) (List.replicate 90 60) rfl (by decide) (by decide) fun nh hnh => ?_
  have h0 : 0 < nh.length := by rw [hnh]; decide
  and_intros
  refine take_ok N (by omega) h0 (by decide) fun v v0 v1 => ?_
  obtain ⟨w, hw, hm⟩ := tbl [3, 2, 4, 1, 5, 9] v0 v1
  have hw9 : 1 ≤ w ∧ w ≤ 9 := by
    simp only [List.mem_cons, List.not_mem_nil, or_false] at hm
    omega
  refine ifSome.of hw ?_
  obtain ⟨many, rfl⟩ := Int.eq_ofNat_of_zero_le (show 0 ≤ w by omega)
  and_intros
  refine fresh_ok N (by omega) (many := many) h0 (by omega) fun k names n1 n2 n3 => ?_
  have hnn : 0 < names.length := List.length_pos_iff.mpr (n3 (by omega))
  and_intros
  refine for_in names (e := T.str) (fun pre τ => ∃ k t1 t2 t3 x7 x8, τ = [some (.val (.lsk (ns.map .int))), some (.val (.lst (nh.map .int))), some (.own [.int k]), some (.val (.tup (names.map .str))), some (.own t1), some (.own t2), some (.own t3), x7, x8, none, none, none, none, none, none] ∧ ∃ on off later : List Str, t1 = on.map .str ∧ t2 = off.map .str ∧ t3 = later.map .str ∧ (on ++ (off ++ later)).Perm pre) rfl ⟨_, _, _, _, _, _, rfl, [], [], [], rfl, rfl, rfl, List.Perm.refl _⟩ (fun pre x post e τ hi K hK => ?_) (fun τ hi => ?_)
  · obtain ⟨k, t1, t2, t3, x7, x8, rfl, on, off, later, rfl, rfl, rfl, hp⟩ := hi
    have hl := hp.length_eq
    rw [List.length_append, List.length_append] at hl
    have hl2 : pre.length ≤ names.length := by rw [e]; simp
    and_intros
    refine take_ok N (by omega) h0 (by decide) fun v v0 v1 => ?_
    and_intros
    refine Br.of (fun hv => ?_) (fun hv => ?_)
    · and_intros
      refine hK _ ⟨_, _, _, _, _, _, rfl, on ++ [x], off, later, by simp, rfl, rfl, ?_⟩
      refine List.Perm.trans ?_ (List.perm_append_singleton x pre).symm
      rw [List.append_assoc, List.singleton_append]
      exact List.perm_middle.trans (hp.cons x)
    · refine Br.of (fun hv => ?_) (fun hv => ?_)
      · and_intros
        refine hK _ ⟨_, _, _, _, _, _, rfl, on, off ++ [x], later, rfl, by simp, rfl, ?_⟩
        refine List.Perm.trans ?_ (List.perm_append_singleton x pre).symm
        rw [List.append_assoc off, List.singleton_append, ← List.append_assoc]
        refine List.perm_middle.trans (List.Perm.cons x ?_)
        rw [List.append_assoc]
        exact hp
      · and_intros
        refine hK _ ⟨_, _, _, _, _, _, rfl, on, off, later ++ [x], rfl, rfl, by simp, ?_⟩
        rw [← List.append_assoc off, ← List.append_assoc]
        exact hp.append_right [x]
  · obtain ⟨k, t1, t2, t3, x7, x8, rfl, on, off, later, rfl, rfl, rfl, hp⟩ := hi
    and_intros
    refine cell_ok N (by omega) (k := 1) hns (by decide) fun v => ?_
    and_intros
    refine digits_ok N (by omega) (List.replicate 240 60) rfl (by decide) (by decide) fun nb hnb => ?_
    have hb0 : 0 < nb.length := by rw [hnb]; decide
    and_intros
    refine member_ok hb0 hnn N (by omega) fun k' m hm1 hm2 hm3 => ?_
    and_intros
    refine within_ok m N (by omega) (by omega) ?_
    have hwl := Fm.wit_len m
    have key : ∀ {D : DEnds} (fs : List Fm) {ts : List T} {x9}, ts = fs.map Fm.enc → (∀ τ, D.rt (.v (.bl true)) τ) → (∀ f ∈ fs, Fm.nest f ≤ 18) → rd_law_J0 (sem N) D [some (.val (.lsk (ns.map .int))), some (.val (.lst (nh.map .int))), some (.own [.int k]), some (.val (.tup (names.map .str))), some (.own (on.map .str)), some (.own (off.map .str)), some (.own (later.map .str)), x7, x8, x9, some (.val (Fm.enc m)), some (.own ts), none, none, none] := fun fs ts x9 et hR hf => et ▸ law_J0_ok N (by omega) h0 (by omega) n1.nodup hp hm1 hm2 hf hR
    have hwit : ∀ f ∈ Fm.wit m, Fm.nest f ≤ 18 := fun f hf => by have := Fm.wit_nest m f hf; omega
    cases m with
    | «at» x =>
      refine Br.notis k_atom_not ⟨rfl, rfl, by rw [List.length_map, sizeLine_is]; omega, ?_⟩
      refine key (Fm.wit (.at x) ++ [.no (.at x)]) (by rw [List.map_append]; rfl) ?_ fun f hf => ?_
      · exact fun τ => rfl
      rcases List.mem_append.mp hf with hf | hf
      · exact hwit f hf
      · rw [List.mem_singleton.mp hf]
        show Fm.nest (.at x) + 1 ≤ 18
        omega
    | no m =>
      refine Br.notisnt (by rfl) ?_
      refine key (Fm.wit (.no m)) rfl ?_ hwit
      exact fun τ => rfl
    | nd b ms =>
      refine Br.notis (k_kd_not b) ⟨rfl, rfl, by rw [List.length_map, sizeLine_is]; omega, ?_⟩
      refine key (Fm.wit (.nd b ms) ++ [.no (.nd b ms)]) (by rw [List.map_append]; rfl) ?_ fun f hf => ?_
      · exact fun τ => rfl
      rcases List.mem_append.mp hf with hf | hf
      · exact hwit f hf
      · rw [List.mem_singleton.mp hf]
        show Fm.nest (.nd b ms) + 1 ≤ 18
        omega
end K17
namespace K17
open PySem PySem.Spec PyProof.Rows L2 N1
/-! the walk -/
structure DefAt (K : PySem.W.Frag) (mg : Str → Option Value) (x : Str) (st : Stmt) (ps : List Str) (f : Addr) (fd : FuncData) : Prop where
  F : Fun K x x st f fd
  g : mg x = some (.ref f)
  b : Binds K fd ps []
structure Top (K : PySem.W.Frag) (mg : Str → Option Value) (fa : Fn → Addr) (ft : Fn → FuncData) : Prop where
  law : DefAt K mg "law" s_law ["script"] (fa .law) (ft .law)
  law_digits : DefAt K mg "_law_digits" s_law_digits ["cell", "sizes"] (fa .law_digits) (ft .law_digits)
  law_cell : DefAt K mg "_law_cell" s_law_cell ["script", "k"] (fa .law_cell) (ft .law_cell)
  law_fresh_viv : DefAt K mg "_law_fresh" s_law_fresh ["row", "at", "many"] (fa .law_fresh_viv) (ft .law_fresh_viv)
  law_take_viv : DefAt K mg "_law_take" s_law_take ["row", "at", "size"] (fa .law_take_viv) (ft .law_take_viv)
  law_member_viv : DefAt K mg "_law_member" s_law_member ["row", "at", "names"] (fa .law_member_viv) (ft .law_member_viv)
  law_within : DefAt K mg "_law_within" s_law_within ["member"] (fa .law_within) (ft .law_within)
  law_ascending : DefAt K mg "_law_ascending" s_law_ascending ["items"] (fa .law_ascending) (ft .law_ascending)
  law_answers : DefAt K mg "_law_answers" s_law_answers ["found", "on", "off"] (fa .law_answers) (ft .law_answers)
  law_holds_later : DefAt K mg "_law_holds_later" s_law_holds_later ["member", "names", "on", "off"] (fa .law_holds_later) (ft .law_holds_later)
  surely : DefAt K mg "surely" s_surely ["member", "on", "off"] (fa .surely) (ft .surely)
  law_on : DefAt K mg "_law_on" s_law_on ["member", "world"] (fa .law_on) (ft .law_on)
  law_spine_vivvv : DefAt K mg "_law_spine" s_law_spine ["row", "at", "names", "deep", "marked"] (fa .law_spine_vivvv) (ft .law_spine_vivvv)
  law_sized_vivvvv : DefAt K mg "_law_sized" s_law_sized ["row", "at", "names", "deep", "room", "marked"] (fa .law_sized_vivvvv) (ft .law_sized_vivvvv)
  law_sure : DefAt K mg "_law_sure" s_law_sure ["member", "on", "off"] (fa .law_sure) (ft .law_sure)
  law_completions : DefAt K mg "_law_completions" s_law_completions ["names", "on", "off"] (fa .law_completions) (ft .law_completions)
  law_size : DefAt K mg "_law_size" s_law_size ["member"] (fa .law_size) (ft .law_size)
  z_int : mg "int" = none
  z_len : mg "len" = none
  z_list : mg "list" = none
  z_max : mg "max" = none
  z_min : mg "min" = none
  z_range : mg "range" = none
  z_sorted : mg "sorted" = none
  z_str : mg "str" = none
  z_sum : mg "sum" = none
  z_tuple : mg "tuple" = none
  k0 : KBinds K (ft .surely) ["member", "on", "off"] ["off", "on", "member"] kg0 kg0
section
variable {P : Program} {w : World} {K : PySem.W.Frag} {mg : Str → Option Value} {base : Heap} {fa : Fn → Addr} {ft : Fn → FuncData}
def AllOk (P : Program) (w : World) (K : PySem.W.Frag) (mg : Str → Option Value) (base : Heap) (fa : Fn → Addr) (ft : Fn → FuncData) (k : Nat) : Prop := ∀ f : Fn, FnOk P w K mg base CX0 k (fa f) (ft f) (psOf f) (liftSp K (psOf f).length (sem k f))
theorem w_law {k : Nat} (t : Top K mg fa ft) (G : AllOk P w K mg base fa ft k) : FnOk P w K mg base CX0 (k + 1) (fa .law) (ft .law) ["script"] (liftSp K 1 (sem (k + 1) .law)) := by
  refine fn_ok (modes := [false]) t.law.F sc_law rfl (by decide) fun cdv A outer s H E hr => ?_
  have hu := hr.units
  have nd := sc_law.nd
  exact (qss_cons (qs_set (i := 1) nd rfl (by first | exact Or.inl rfl | exact Or.inr rfl) (qe_call (modes := [false, false]) (dts := []) (G .law_digits) hr (by rfl) t.law_digits.g t.law_digits.F.kp t.law_digits.b .nil (fun _ _ => .nil) rfl (qf_of (qa_cons (qe_call (modes := [false, false]) (dts := []) (G .law_cell) hr (by rfl) t.law_cell.g t.law_cell.F.kp t.law_cell.b .nil (fun _ _ => .nil) rfl (qf_of (qa_cons (qe_var (pv 0)) (qa_cons qe_int qa_nil)))) (qa_cons (qe_op opd_mul (qe_lst 1 (qa_cons qe_int qa_nil)) qe_int) qa_nil)))))
  (qss_cons (qs_set (i := 2) nd rfl (by first | exact Or.inl rfl | exact Or.inr rfl) (qe_lst 1 (qa_cons qe_int qa_nil)))
  (qss_cons (qs_set (i := 3) nd rfl (by first | exact Or.inl rfl | exact Or.inr rfl) (qe_call (modes := [false, true, false]) (dts := []) (G .law_fresh_viv) hr (by rfl) t.law_fresh_viv.g t.law_fresh_viv.F.kp t.law_fresh_viv.b .nil (fun _ _ => .nil) rfl (qf_of (qa_cons (qe_var (pv 1)) (qa_cons (qe_var (pv 2)) (qa_cons (qe_ix (qe_lst 6 (qa_cons qe_int (qa_cons qe_int (qa_cons qe_int (qa_cons qe_int (qa_cons qe_int (qa_cons qe_int qa_nil))))))) (qe_call (modes := [false, true, false]) (dts := []) (G .law_take_viv) hr (by rfl) t.law_take_viv.g t.law_take_viv.F.kp t.law_take_viv.b .nil (fun _ _ => .nil) rfl (qf_of (qa_cons (qe_var (pv 1)) (qa_cons (qe_var (pv 2)) (qa_cons qe_int qa_nil))))) (fun _ _ => rfl)) qa_nil))))))
  (qss_cons (qs_set (i := 4) nd rfl (by first | exact Or.inl rfl | exact Or.inr rfl) (qe_lst 0 qa_nil))
  (qss_cons (qs_set (i := 5) nd rfl (by first | exact Or.inl rfl | exact Or.inr rfl) (qe_lst 0 qa_nil))
  (qss_cons (qs_set (i := 6) nd rfl (by first | exact Or.inl rfl | exact Or.inr rfl) (qe_lst 0 qa_nil))
  (qss_cons (qs_for (is := [7]) PassesOwn.never rfl (qi_any (qe_var (pv 3))) (qg_name (pg_name (i := 7) nd rfl (by first | exact Or.inl rfl | exact Or.inr rfl))) (qss_cons (qs_set (i := 8) nd rfl (by first | exact Or.inl rfl | exact Or.inr rfl) (qe_call (modes := [false, true, false]) (dts := []) (G .law_take_viv) hr (by rfl) t.law_take_viv.g t.law_take_viv.F.kp t.law_take_viv.b .nil (fun _ _ => .nil) rfl (qf_of (qa_cons (qe_var (pv 1)) (qa_cons (qe_var (pv 2)) (qa_cons qe_int qa_nil))))))
  (qss_one (qs_if (qt_cmp opd_lt (qe_var (pv 8)) qe_int (nomark _)) (qss_one (qs_append (i := 4) (pv 4) (qe_var (pv 7)))) (qss_one (qs_if (qt_cmp opd_lt (qe_var (pv 8)) qe_int (nomark _)) (qss_one (qs_append (i := 5) (pv 5) (qe_var (pv 7)))) (qss_one (qs_append (i := 6) (pv 6) (qe_var (pv 7))))))))))
  (qss_cons (qs_set (i := 9) nd rfl (by first | exact Or.inl rfl | exact Or.inr rfl) (qe_call (modes := [false, false]) (dts := []) (G .law_digits) hr (by rfl) t.law_digits.g t.law_digits.F.kp t.law_digits.b .nil (fun _ _ => .nil) rfl (qf_of (qa_cons (qe_call (modes := [false, false]) (dts := []) (G .law_cell) hr (by rfl) t.law_cell.g t.law_cell.F.kp t.law_cell.b .nil (fun _ _ => .nil) rfl (qf_of (qa_cons (qe_var (pv 0)) (qa_cons qe_int qa_nil)))) (qa_cons (qe_op opd_mul (qe_lst 1 (qa_cons qe_int qa_nil)) qe_int) qa_nil)))))
  (qss_cons (qs_set (i := 10) nd rfl (by first | exact Or.inl rfl | exact Or.inr rfl) (qe_call (modes := [false, true, false]) (dts := []) (G .law_member_viv) hr (by rfl) t.law_member_viv.g t.law_member_viv.F.kp t.law_member_viv.b .nil (fun _ _ => .nil) rfl (qf_skip (qe_var (pv 9)) (qf_here (qe_lst 1 (qa_cons qe_int qa_nil)) (qa_cons (qe_var (pv 3)) qa_nil)))))
  (qss_cons (qs_set (i := 11) nd rfl (by first | exact Or.inl rfl | exact Or.inr rfl) (qe_call (modes := [false]) (dts := []) (G .law_within) hr (by rfl) t.law_within.g t.law_within.F.kp t.law_within.b .nil (fun _ _ => .nil) rfl (qf_of (qa_cons (qe_var (pv 10)) qa_nil))))
  (qss_cons (qs_if (qt_cmp (opd_ne hu) (qe_ix (qe_var (pv 10)) qe_int (fun _ _ => rfl)) qe_str (nomark _)) (qss_one (qs_append (i := 11) (pv 11) (qe_tup 2 (qa_cons qe_str (qa_cons (qe_var (pv 10)) qa_nil))))) qss_nil)
  (qss_cons (qs_set (i := 12) nd rfl (by first | exact Or.inl rfl | exact Or.inr rfl) (qe_lst 1 (qa_cons (qe_tup 2 (qa_cons (qe_callTy cd_tuple (by rfl) t.z_tuple (by decide +kernel) (qa_cons (qe_var (pv 4)) qa_nil)) (qa_cons (qe_callTy cd_tuple (by rfl) t.z_tuple (by decide +kernel) (qa_cons (qe_var (pv 5)) qa_nil)) qa_nil))) qa_nil)))
  (qss_cons (qs_for (is := [7]) PassesOwn.never rfl (qi_any (qe_var (pv 6))) (qg_name (pg_name (i := 7) nd rfl (by first | exact Or.inl rfl | exact Or.inr rfl))) (qss_one (qs_if (qt_cmp (opd_eq hu) (qe_call (modes := [false, true, false]) (dts := []) (G .law_take_viv) hr (by rfl) t.law_take_viv.g t.law_take_viv.F.kp t.law_take_viv.b .nil (fun _ _ => .nil) rfl (qf_of (qa_cons (qe_var (pv 1)) (qa_cons (qe_var (pv 2)) (qa_cons qe_int qa_nil))))) qe_int (nomark _)) (qss_one (qs_append (i := 12) (pv 12) (qe_tup 2 (qa_cons (qe_call (modes := [false]) (dts := []) (G .law_ascending) hr (by rfl) t.law_ascending.g t.law_ascending.F.kp t.law_ascending.b .nil (fun _ _ => .nil) rfl (qf_of (qa_cons (qe_op opd_add (qe_callTy cd_list (by rfl) t.z_list (by decide +kernel) (qa_cons (qe_ix (qe_ix (qe_var (pv 12)) (qe_neg qe_int) (fun _ _ => rfl)) qe_int (fun _ _ => rfl)) qa_nil)) (qe_lst 1 (qa_cons (qe_var (pv 7)) qa_nil))) qa_nil))) (qa_cons (qe_ix (qe_ix (qe_var (pv 12)) (qe_neg qe_int) (fun _ _ => rfl)) qe_int (fun _ _ => rfl)) qa_nil))))) (qss_one (qs_append (i := 12) (pv 12) (qe_tup 2 (qa_cons (qe_ix (qe_ix (qe_var (pv 12)) (qe_neg qe_int) (fun _ _ => rfl)) qe_int (fun _ _ => rfl)) (qa_cons (qe_call (modes := [false]) (dts := []) (G .law_ascending) hr (by rfl) t.law_ascending.g t.law_ascending.F.kp t.law_ascending.b .nil (fun _ _ => .nil) rfl (qf_of (qa_cons (qe_op opd_add (qe_callTy cd_list (by rfl) t.z_list (by decide +kernel) (qa_cons (qe_ix (qe_ix (qe_var (pv 12)) (qe_neg qe_int) (fun _ _ => rfl)) qe_int (fun _ _ => rfl)) qa_nil)) (qe_lst 1 (qa_cons (qe_var (pv 7)) qa_nil))) qa_nil))) qa_nil))))))))
  (qss_cons (qs_for (is := [13]) PassesOwn.never rfl (qi_range1 (by rfl) t.z_range (qe_callB cd_len (by rfl) t.z_len (by decide +kernel) (qa_cons (qe_var (pv 12)) qa_nil))) (qg_name (pg_name (i := 13) nd rfl (by first | exact Or.inl rfl | exact Or.inr rfl))) (qss_one (qs_if (PW.pt (qw_or (qt_cmp opd_lt (qe_var (pv 13)) qe_int (nomark _)) (qw_or1 (qt_cmp (opd_eq hu) (qe_var (pv 13)) (qe_op opd_sub (qe_callB cd_len (by rfl) t.z_len (by decide +kernel) (qa_cons (qe_var (pv 12)) qa_nil)) qe_int) (nomark _))))) (qss_cons (qs_if (qt_not (qt_truth (qe_call (modes := [false, false, false]) (dts := []) (G .law_answers) hr (by rfl) t.law_answers.g t.law_answers.F.kp t.law_answers.b .nil (fun _ _ => .nil) rfl (qf_of (qa_cons (qe_var (pv 11)) (qa_cons (qe_ix (qe_ix (qe_var (pv 12)) (qe_var (pv 13)) (fun _ _ => rfl)) qe_int (fun _ _ => rfl)) (qa_cons (qe_ix (qe_ix (qe_var (pv 12)) (qe_var (pv 13)) (fun _ _ => rfl)) qe_int (fun _ _ => rfl)) qa_nil))))))) (qss_one (qs_ret qe_bl)) qss_nil)
  (qss_one (qs_if (qt_not (qt_truth (qe_call (modes := [false, false, false, false]) (dts := []) (G .law_holds_later) hr (by rfl) t.law_holds_later.g t.law_holds_later.F.kp t.law_holds_later.b .nil (fun _ _ => .nil) rfl (qf_of (qa_cons (qe_var (pv 10)) (qa_cons (qe_var (pv 3)) (qa_cons (qe_ix (qe_ix (qe_var (pv 12)) (qe_var (pv 13)) (fun _ _ => rfl)) qe_int (fun _ _ => rfl)) (qa_cons (qe_ix (qe_ix (qe_var (pv 12)) (qe_var (pv 13)) (fun _ _ => rfl)) qe_int (fun _ _ => rfl)) qa_nil)))))))) (qss_one (qs_ret qe_bl)) qss_nil))) qss_nil)))
  (qss_cons (qs_set (i := 14) nd rfl (by first | exact Or.inl rfl | exact Or.inr rfl) (qe_callK0 (G .surely) hr (by rfl) t.surely.g t.surely.F.kp t.k0 (fun h1 h2 => kg_ts h1 h2) (qk_cons (qe_ix (qe_ix (qe_var (pv 12)) (qe_neg qe_int) (fun _ _ => rfl)) qe_int (fun _ _ => rfl)) (qk_cons (qe_ix (qe_ix (qe_var (pv 12)) (qe_neg qe_int) (fun _ _ => rfl)) qe_int (fun _ _ => rfl)) (qk_cons (qe_var (pv 10)) qk_nil)))))
  (qss_cons (qs_if (PW.pt (qw_and (qt_truth (qe_call (modes := [false, false]) (dts := []) (G .law_on) hr (by rfl) t.law_on.g t.law_on.F.kp t.law_on.b .nil (fun _ _ => .nil) rfl (qf_of (qa_cons (qe_var (pv 10)) (qa_cons (qe_ix (qe_ix (qe_var (pv 12)) (qe_neg qe_int) (fun _ _ => rfl)) qe_int (fun _ _ => rfl)) qa_nil))))) (qw_and1 (qt_cmp opd_isnot (qe_var (pv 14)) qe_bl (nomark _))))) (qss_one (qs_ret qe_bl)) qss_nil)
  (qss_cons (qs_if (PW.pt (qw_and (qt_not (qt_truth (qe_call (modes := [false, false]) (dts := []) (G .law_on) hr (by rfl) t.law_on.g t.law_on.F.kp t.law_on.b .nil (fun _ _ => .nil) rfl (qf_of (qa_cons (qe_var (pv 10)) (qa_cons (qe_ix (qe_ix (qe_var (pv 12)) (qe_neg qe_int) (fun _ _ => rfl)) qe_int (fun _ _ => rfl)) qa_nil)))))) (qw_and1 (qt_cmp opd_isnot (qe_var (pv 14)) qe_bl (nomark _))))) (qss_one (qs_ret qe_bl)) qss_nil)
  (qss_one (qs_ret (qe_call (modes := [false, false, false]) (dts := []) (G .law_answers) hr (by rfl) t.law_answers.g t.law_answers.F.kp t.law_answers.b .nil (fun _ _ => .nil) rfl (qf_of (qa_cons (qe_lst 1 (qa_cons (qe_var (pv 10)) qa_nil)) (qa_cons (qe_ix (qe_ix (qe_var (pv 12)) qe_int (fun _ _ => rfl)) qe_int (fun _ _ => rfl)) (qa_cons (qe_ix (qe_ix (qe_var (pv 12)) qe_int (fun _ _ => rfl)) qe_int (fun _ _ => rfl)) qa_nil))))))))))))))))))))))))
theorem w_law_digits {k : Nat} (t : Top K mg fa ft) (G : AllOk P w K mg base fa ft k) : FnOk P w K mg base CX0 (k + 1) (fa .law_digits) (ft .law_digits) ["cell", "sizes"] (liftSp K 2 (sem (k + 1) .law_digits)) := by
  refine fn_ok (modes := [false, false]) t.law_digits.F sc_law_digits rfl (by decide) fun cdv A outer s H E hr => ?_
  have hu := hr.units
  have nd := sc_law_digits.nd
  exact (qss_cons (qs_set (i := 2) nd rfl (by first | exact Or.inl rfl | exact Or.inr rfl) (qe_lst 0 qa_nil))
  (qss_cons (qs_set (i := 3) nd rfl (by first | exact Or.inl rfl | exact Or.inr rfl) (qe_callTy cd_int (by rfl) t.z_int (by decide +kernel) (qa_cons (qe_var (pv 0)) qa_nil)))
  (qss_cons (qs_if (qt_cmp opd_ge (qe_var (pv 3)) (qe_op opd_pow qe_int qe_int) (nomark _)) (qss_cons (qs_set (i := 3) nd rfl (by first | exact Or.inl rfl | exact Or.inr rfl) (qe_op opd_sub (qe_var (pv 3)) (qe_op opd_pow qe_int qe_int)))
  (qss_cons (qs_for (is := [4]) PassesOwn.never rfl (qi_any (qe_var (pv 1))) (qg_name (pg_name (i := 4) nd rfl (by first | exact Or.inl rfl | exact Or.inr rfl))) (qss_cons (qs_append (i := 2) (pv 2) (qe_op opd_mod (qe_callTy cd_int (by rfl) t.z_int (by decide +kernel) (qa_cons (qe_var (pv 3)) qa_nil)) (qe_var (pv 4))))
  (qss_one (qs_set (i := 3) nd rfl (by first | exact Or.inl rfl | exact Or.inr rfl) (qe_op opd_fdiv (qe_callTy cd_int (by rfl) t.z_int (by decide +kernel) (qa_cons (qe_var (pv 3)) qa_nil)) (qe_var (pv 4)))))))
  (qss_one (qs_ret (qe_var (pv 2)))))) qss_nil)
  (qss_cons (qs_set (i := 5) nd rfl (by first | exact Or.inl rfl | exact Or.inr rfl) (qe_op opd_mod (qe_callTy cd_int (by rfl) t.z_int (by decide +kernel) (qa_cons (qe_var (pv 3)) qa_nil)) qe_int))
  (qss_cons (qs_for (is := [6]) PassesOwn.never rfl (qi_range1 (by rfl) t.z_range (qe_callB cd_len (by rfl) t.z_len (by decide +kernel) (qa_cons (qe_var (pv 1)) qa_nil))) (qg_name (pg_name (i := 6) nd rfl (by first | exact Or.inl rfl | exact Or.inr rfl))) (qss_cons (qs_set (i := 5) nd rfl (by first | exact Or.inl rfl | exact Or.inr rfl) (qe_op opd_mod (qe_callTy cd_int (by rfl) t.z_int (by decide +kernel) (qa_cons (qe_op opd_add (qe_op opd_add (qe_op opd_mul (qe_var (pv 5)) qe_int) (qe_op opd_mul qe_int (qe_var (pv 6)))) qe_int) qa_nil)) qe_int))
  (qss_cons (qs_set (i := 7) nd rfl (by first | exact Or.inl rfl | exact Or.inr rfl) (qe_op opd_mod (qe_callTy cd_int (by rfl) t.z_int (by decide +kernel) (qa_cons (qe_op opd_mul (qe_var (pv 5)) (qe_op opd_add (qe_op opd_fdiv (qe_var (pv 5)) qe_int) qe_int)) qa_nil)) qe_int))
  (qss_one (qs_append (i := 2) (pv 2) (qe_op opd_mod (qe_op opd_fdiv (qe_var (pv 7)) qe_int) (qe_ix (qe_var (pv 1)) (qe_var (pv 6)) (fun _ _ => rfl))))))))
  (qss_one (qs_ret (qe_var (pv 2)))))))))
theorem w_law_cell {k : Nat} (t : Top K mg fa ft) (G : AllOk P w K mg base fa ft k) : FnOk P w K mg base CX0 (k + 1) (fa .law_cell) (ft .law_cell) ["script", "k"] (liftSp K 2 (sem (k + 1) .law_cell)) := by
  refine fn_ok (modes := [false, false]) t.law_cell.F sc_law_cell rfl (by decide) fun cdv A outer s H E hr => ?_
  have hu := hr.units
  have nd := sc_law_cell.nd
  exact (qss_cons (qs_if (qt_cmp opd_lt (qe_var (pv 1)) (qe_callB cd_len (by rfl) t.z_len (by decide +kernel) (qa_cons (qe_var (pv 0)) qa_nil)) (nomark _)) (qss_one (qs_ret (qe_ix (qe_var (pv 0)) (qe_var (pv 1)) (fun _ _ => rfl)))) qss_nil)
  (qss_cons (qs_set (i := 2) nd rfl (by first | exact Or.inl rfl | exact Or.inr rfl) qe_int)
  (qss_cons (qs_for (is := [3]) PassesOwn.never rfl (qi_any (qe_var (pv 0))) (qg_name (pg_name (i := 3) nd rfl (by first | exact Or.inl rfl | exact Or.inr rfl))) (qss_one (qs_set (i := 2) nd rfl (by first | exact Or.inl rfl | exact Or.inr rfl) (qe_op opd_mod (qe_callTy cd_int (by rfl) t.z_int (by decide +kernel) (qa_cons (qe_op opd_add (qe_op opd_mul (qe_var (pv 2)) qe_int) (qe_op opd_mod (qe_callTy cd_int (by rfl) t.z_int (by decide +kernel) (qa_cons (qe_var (pv 3)) qa_nil)) qe_int)) qa_nil)) qe_int))))
  (qss_one (qs_ret (qe_op opd_mod (qe_callTy cd_int (by rfl) t.z_int (by decide +kernel) (qa_cons (qe_op opd_mul (qe_op opd_mul (qe_op opd_add (qe_var (pv 2)) qe_int) (qe_op opd_add (qe_var (pv 1)) qe_int)) qe_int) qa_nil)) qe_int))))))
theorem w_law_fresh_viv {k : Nat} (t : Top K mg fa ft) (G : AllOk P w K mg base fa ft k) : FnOk P w K mg base CX0 (k + 1) (fa .law_fresh_viv) (ft .law_fresh_viv) ["row", "at", "many"] (liftSp K 3 (sem (k + 1) .law_fresh_viv)) := by
  refine fn_ok (modes := [false, true, false]) t.law_fresh_viv.F sc_law_fresh rfl (by decide) fun cdv A outer s H E hr => ?_
  have hu := hr.units
  have nd := sc_law_fresh.nd
  exact (qss_cons (qs_set (i := 3) nd rfl (by first | exact Or.inl rfl | exact Or.inr rfl) qe_str)
  (qss_cons (qs_set (i := 4) nd rfl (by first | exact Or.inl rfl | exact Or.inr rfl) (qe_lst 0 qa_nil))
  (qss_cons (qs_for (is := [5]) PassesOwn.never rfl (qi_range1 (by rfl) t.z_range (qe_var (pv 2))) (qg_name (pg_name (i := 5) nd rfl (by first | exact Or.inl rfl | exact Or.inr rfl))) (qss_cons (qs_set (i := 6) nd rfl (by first | exact Or.inl rfl | exact Or.inr rfl) (qe_ix (qe_var (pv 3)) (qe_op opd_mod (qe_callTy cd_int (by rfl) t.z_int (by decide +kernel) (qa_cons (qe_call (modes := [false, true, false]) (dts := []) (G .law_take_viv) hr (by rfl) t.law_take_viv.g t.law_take_viv.F.kp t.law_take_viv.b .nil (fun _ _ => .nil) rfl (qf_of (qa_cons (qe_var (pv 0)) (qa_cons (qe_var (pv 1)) (qa_cons qe_int qa_nil))))) qa_nil)) qe_int) (fun _ _ => rfl)))
  (qss_cons (qs_if (PW.pt (qw_and (qt_cmp opd_gt (qe_var (pv 5)) qe_int (nomark _)) (qw_and (qt_cmp opd_lt (qe_callB cd_len (by rfl) t.z_len (by decide +kernel) (qa_cons (qe_ix (qe_var (pv 4)) (qe_neg qe_int) (fun _ _ => rfl)) qa_nil)) qe_int (nomark _)) (qw_and1 (qt_cmp (opd_eq hu) (qe_call (modes := [false, true, false]) (dts := []) (G .law_take_viv) hr (by rfl) t.law_take_viv.g t.law_take_viv.F.kp t.law_take_viv.b .nil (fun _ _ => .nil) rfl (qf_of (qa_cons (qe_var (pv 0)) (qa_cons (qe_var (pv 1)) (qa_cons qe_int qa_nil))))) qe_int (nomark _)))))) (qss_one (qs_set (i := 6) nd rfl (by first | exact Or.inl rfl | exact Or.inr rfl) (qe_op opd_add (qe_ix (qe_var (pv 4)) (qe_neg qe_int) (fun _ _ => rfl)) (qe_ix (qe_var (pv 3)) (qe_op opd_mod (qe_callTy cd_int (by rfl) t.z_int (by decide +kernel) (qa_cons (qe_call (modes := [false, true, false]) (dts := []) (G .law_take_viv) hr (by rfl) t.law_take_viv.g t.law_take_viv.F.kp t.law_take_viv.b .nil (fun _ _ => .nil) rfl (qf_of (qa_cons (qe_var (pv 0)) (qa_cons (qe_var (pv 1)) (qa_cons qe_int qa_nil))))) qa_nil)) qe_int) (fun _ _ => rfl))))) (qss_one (qs_for (is := [7]) PassesOwn.never rfl (qi_range1 (by rfl) t.z_range (qe_ix (qe_lst 6 (qa_cons qe_int (qa_cons qe_int (qa_cons qe_int (qa_cons qe_int (qa_cons qe_int (qa_cons qe_int qa_nil))))))) (qe_call (modes := [false, true, false]) (dts := []) (G .law_take_viv) hr (by rfl) t.law_take_viv.g t.law_take_viv.F.kp t.law_take_viv.b .nil (fun _ _ => .nil) rfl (qf_of (qa_cons (qe_var (pv 0)) (qa_cons (qe_var (pv 1)) (qa_cons qe_int qa_nil))))) (fun _ _ => rfl))) (qg_name (pg_name (i := 7) nd rfl (by first | exact Or.inl rfl | exact Or.inr rfl))) (qss_one (qs_set (i := 6) nd rfl (by first | exact Or.inl rfl | exact Or.inr rfl) (qe_op opd_add (qe_var (pv 6)) (qe_ix (qe_var (pv 3)) (qe_op opd_mod (qe_callTy cd_int (by rfl) t.z_int (by decide +kernel) (qa_cons (qe_call (modes := [false, true, false]) (dts := []) (G .law_take_viv) hr (by rfl) t.law_take_viv.g t.law_take_viv.F.kp t.law_take_viv.b .nil (fun _ _ => .nil) rfl (qf_of (qa_cons (qe_var (pv 0)) (qa_cons (qe_var (pv 1)) (qa_cons qe_int qa_nil))))) qa_nil)) qe_int) (fun _ _ => rfl))))))))
  (qss_cons (qs_if (PW.pt (qw_or (qt_cmp (opd_in hu) (qe_var (pv 6)) (qe_var (pv 4)) rfl) (qw_or (qt_cmp (opd_in hu) (qe_var (pv 6)) (qe_lst 4 (qa_cons qe_str (qa_cons qe_str (qa_cons qe_str (qa_cons qe_str qa_nil))))) rfl) (qw_or1 (PW.pt (qw_and (qt_cmp (opd_eq hu) (qe_slice (qe_var (pv 6)) qo_none (qo_some qe_int)) qe_str (nomark _)) (qw_and1 (qt_truth (qe_isdigit (qe_slice (qe_var (pv 6)) (qo_some qe_int) qo_none)))))))))) (qss_one (qs_set (i := 6) nd rfl (by first | exact Or.inl rfl | exact Or.inr rfl) (qe_op opd_add qe_str (qe_callTy cd_str (by rfl) t.z_str (by decide +kernel) (qa_cons (qe_var (pv 5)) qa_nil))))) qss_nil)
  (qss_one (qs_append (i := 4) (pv 4) (qe_var (pv 6))))))))
  (qss_one (qs_ret (qe_call (modes := [false]) (dts := []) (G .law_ascending) hr (by rfl) t.law_ascending.g t.law_ascending.F.kp t.law_ascending.b .nil (fun _ _ => .nil) rfl (qf_of (qa_cons (qe_var (pv 4)) qa_nil))))))))
theorem w_law_take_viv {k : Nat} (t : Top K mg fa ft) (G : AllOk P w K mg base fa ft k) : FnOk P w K mg base CX0 (k + 1) (fa .law_take_viv) (ft .law_take_viv) ["row", "at", "size"] (liftSp K 3 (sem (k + 1) .law_take_viv)) := by
  refine fn_ok (modes := [false, true, false]) t.law_take_viv.F sc_law_take rfl (by decide) fun cdv A outer s H E hr => ?_
  have hu := hr.units
  have nd := sc_law_take.nd
  exact (qss_cons (qs_set (i := 3) nd rfl (by first | exact Or.inl rfl | exact Or.inr rfl) (qe_op opd_mod (qe_callTy cd_int (by rfl) t.z_int (by decide +kernel) (qa_cons (qe_ix (qe_var (pv 0)) (qe_op opd_mod (qe_ix (qe_var (pv 1)) qe_int (fun _ _ => rfl)) (qe_callB cd_len (by rfl) t.z_len (by decide +kernel) (qa_cons (qe_var (pv 0)) qa_nil))) (fun _ _ => rfl)) qa_nil)) (qe_var (pv 2))))
  (qss_cons (qs_setix (pv 1) qe_int (qe_op opd_add (qe_ix (qe_var (pv 1)) qe_int (fun _ _ => rfl)) qe_int))
  (qss_one (qs_ret (qe_var (pv 3))))))
theorem w_law_member_viv {k : Nat} (t : Top K mg fa ft) (G : AllOk P w K mg base fa ft k) : FnOk P w K mg base CX0 (k + 1) (fa .law_member_viv) (ft .law_member_viv) ["row", "at", "names"] (liftSp K 3 (sem (k + 1) .law_member_viv)) := by
  refine fn_ok (modes := [false, true, false]) t.law_member_viv.F sc_law_member rfl (by decide) fun cdv A outer s H E hr => ?_
  have hu := hr.units
  have nd := sc_law_member.nd
  exact (qss_cons (qs_set (i := 3) nd rfl (by first | exact Or.inl rfl | exact Or.inr rfl) (qe_cmp opd_gt (qe_call (modes := [false, true, false]) (dts := []) (G .law_take_viv) hr (by rfl) t.law_take_viv.g t.law_take_viv.F.kp t.law_take_viv.b .nil (fun _ _ => .nil) rfl (qf_of (qa_cons (qe_var (pv 0)) (qa_cons (qe_var (pv 1)) (qa_cons qe_int qa_nil))))) qe_int (nomark _)))
  (qss_cons (qs_set (i := 4) nd rfl (by first | exact Or.inl rfl | exact Or.inr rfl) (qe_call (modes := [false, true, false]) (dts := []) (G .law_take_viv) hr (by rfl) t.law_take_viv.g t.law_take_viv.F.kp t.law_take_viv.b .nil (fun _ _ => .nil) rfl (qf_of (qa_cons (qe_var (pv 0)) (qa_cons (qe_var (pv 1)) (qa_cons qe_int qa_nil))))))
  (qss_cons (qs_if (qt_cmp (opd_eq hu) (qe_var (pv 4)) qe_int (nomark _)) (qss_one (qs_set (i := 5) nd rfl (by first | exact Or.inl rfl | exact Or.inr rfl) (qe_call (modes := [false, true, false, false, false]) (dts := []) (G .law_spine_vivvv) hr (by rfl) t.law_spine_vivvv.g t.law_spine_vivvv.F.kp t.law_spine_vivvv.b .nil (fun _ _ => .nil) rfl (qf_of (qa_cons (qe_var (pv 0)) (qa_cons (qe_var (pv 1)) (qa_cons (qe_var (pv 2)) (qa_cons (qe_ix (qe_lst 10 (qa_cons qe_int (qa_cons qe_int (qa_cons qe_int (qa_cons qe_int (qa_cons qe_int (qa_cons qe_int (qa_cons qe_int (qa_cons qe_int (qa_cons qe_int (qa_cons qe_int qa_nil))))))))))) (qe_call (modes := [false, true, false]) (dts := []) (G .law_take_viv) hr (by rfl) t.law_take_viv.g t.law_take_viv.F.kp t.law_take_viv.b .nil (fun _ _ => .nil) rfl (qf_of (qa_cons (qe_var (pv 0)) (qa_cons (qe_var (pv 1)) (qa_cons qe_int qa_nil))))) (fun _ _ => rfl)) (qa_cons (qe_var (pv 3)) qa_nil))))))))) (qss_cons (qs_set (i := 6) nd rfl (by first | exact Or.inl rfl | exact Or.inr rfl) (qe_ix (qe_lst 5 (qa_cons qe_int (qa_cons qe_int (qa_cons qe_int (qa_cons qe_int (qa_cons qe_int qa_nil)))))) (qe_op opd_sub (qe_var (pv 4)) qe_int) (fun _ _ => rfl)))
  (qss_one (qs_set (i := 5) nd rfl (by first | exact Or.inl rfl | exact Or.inr rfl) (qe_call (modes := [false, true, false, false, false, false]) (dts := []) (G .law_sized_vivvvv) hr (by rfl) t.law_sized_vivvvv.g t.law_sized_vivvvv.F.kp t.law_sized_vivvvv.b .nil (fun _ _ => .nil) rfl (qf_of (qa_cons (qe_var (pv 0)) (qa_cons (qe_var (pv 1)) (qa_cons (qe_var (pv 2)) (qa_cons (qe_var (pv 6)) (qa_cons (qe_ix (qe_lst 5 (qa_cons qe_int (qa_cons qe_int (qa_cons qe_int (qa_cons qe_int (qa_cons qe_int qa_nil)))))) (qe_op opd_sub (qe_var (pv 4)) qe_int) (fun _ _ => rfl)) (qa_cons (qe_var (pv 3)) qa_nil))))))))))))
  (qss_cons (qs_if (PW.pt (qw_and (qt_truth (qe_var (pv 3))) (qw_and1 (qt_cmp (opd_eq hu) (qe_call (modes := [false, true, false]) (dts := []) (G .law_take_viv) hr (by rfl) t.law_take_viv.g t.law_take_viv.F.kp t.law_take_viv.b .nil (fun _ _ => .nil) rfl (qf_of (qa_cons (qe_var (pv 0)) (qa_cons (qe_var (pv 1)) (qa_cons qe_int qa_nil))))) qe_int (nomark _))))) (qss_one (qs_ret (qe_tup 2 (qa_cons qe_str (qa_cons (qe_var (pv 5)) qa_nil))))) qss_nil)
  (qss_one (qs_ret (qe_var (pv 5))))))))
theorem w_law_within {k : Nat} (t : Top K mg fa ft) (G : AllOk P w K mg base fa ft k) : FnOk P w K mg base CX0 (k + 1) (fa .law_within) (ft .law_within) ["member"] (liftSp K 1 (sem (k + 1) .law_within)) := by
  refine fn_ok (modes := [false]) t.law_within.F sc_law_within rfl (by decide) fun cdv A outer s H E hr => ?_
  have hu := hr.units
  have nd := sc_law_within.nd
  exact (qss_cons (qs_set (i := 1) nd rfl (by first | exact Or.inl rfl | exact Or.inr rfl) (qe_lst 1 (qa_cons (qe_var (pv 0)) qa_nil)))
  (qss_cons (qs_if (qt_cmp (opd_eq hu) (qe_ix (qe_var (pv 0)) qe_int (fun _ _ => rfl)) qe_str (nomark _)) (qss_one (qs_ret (qe_op opd_add (qe_var (pv 1)) (qe_call (modes := [false]) (dts := []) (G .law_within) hr (by rfl) t.law_within.g t.law_within.F.kp t.law_within.b .nil (fun _ _ => .nil) rfl (qf_of (qa_cons (qe_ix (qe_var (pv 0)) qe_int (fun _ _ => rfl)) qa_nil)))))) qss_nil)
  (qss_cons (qs_if (qt_cmp (opd_ne hu) (qe_ix (qe_var (pv 0)) qe_int (fun _ _ => rfl)) qe_str (nomark _)) (qss_one (qs_for (is := [2]) PassesOwn.never rfl (qi_any (qe_ix (qe_var (pv 0)) qe_int (fun _ _ => rfl))) (qg_name (pg_name (i := 2) nd rfl (by first | exact Or.inl rfl | exact Or.inr rfl))) (qss_one (qs_set (i := 1) nd rfl (by first | exact Or.inl rfl | exact Or.inr rfl) (qe_op opd_add (qe_var (pv 1)) (qe_call (modes := [false]) (dts := []) (G .law_within) hr (by rfl) t.law_within.g t.law_within.F.kp t.law_within.b .nil (fun _ _ => .nil) rfl (qf_of (qa_cons (qe_var (pv 2)) qa_nil)))))))) qss_nil)
  (qss_one (qs_ret (qe_var (pv 1)))))))
theorem w_law_ascending {k : Nat} (t : Top K mg fa ft) (G : AllOk P w K mg base fa ft k) : FnOk P w K mg base CX0 (k + 1) (fa .law_ascending) (ft .law_ascending) ["items"] (liftSp K 1 (sem (k + 1) .law_ascending)) := by
  refine fn_ok (modes := [false]) t.law_ascending.F sc_law_ascending rfl (by decide) fun cdv A outer s H E hr => ?_
  have hu := hr.units
  have nd := sc_law_ascending.nd
  exact (qss_cons (qs_set (i := 1) nd rfl (by first | exact Or.inl rfl | exact Or.inr rfl) (qe_lst 0 qa_nil))
  (qss_cons (qs_for (is := [2]) PassesOwn.never rfl (qi_any (qe_callB cd_sortedS (by rfl) t.z_sorted (by decide +kernel) (qa_cons (qe_var (pv 0)) qa_nil))) (qg_name (pg_name (i := 2) nd rfl (by first | exact Or.inl rfl | exact Or.inr rfl))) (qss_one (qs_if (PW.pt (qw_or (qt_cmp (opd_eq hu) (qe_callB cd_len (by rfl) t.z_len (by decide +kernel) (qa_cons (qe_var (pv 1)) qa_nil)) qe_int (nomark _)) (qw_or1 (qt_cmp (opd_ne hu) (qe_ix (qe_var (pv 1)) (qe_neg qe_int) (fun _ _ => rfl)) (qe_var (pv 2)) (nomark _))))) (qss_one (qs_append (i := 1) (pv 1) (qe_var (pv 2)))) qss_nil)))
  (qss_one (qs_ret (qe_callTy cd_tuple (by rfl) t.z_tuple (by decide +kernel) (qa_cons (qe_var (pv 1)) qa_nil))))))
theorem w_law_answers {k : Nat} (t : Top K mg fa ft) (G : AllOk P w K mg base fa ft k) : FnOk P w K mg base CX0 (k + 1) (fa .law_answers) (ft .law_answers) ["found", "on", "off"] (liftSp K 3 (sem (k + 1) .law_answers)) := by
  refine fn_ok (modes := [false, false, false]) t.law_answers.F sc_law_answers rfl (by decide) fun cdv A outer s H E hr => ?_
  have hu := hr.units
  have nd := sc_law_answers.nd
  exact (qss_cons (qs_for (is := [3]) PassesOwn.never rfl (qi_any (qe_var (pv 0))) (qg_name (pg_name (i := 3) nd rfl (by first | exact Or.inl rfl | exact Or.inr rfl))) (qss_cons (qs_set (i := 4) nd rfl (by first | exact Or.inl rfl | exact Or.inr rfl) (qe_call (modes := [false, false, false]) (dts := []) (G .law_sure) hr (by rfl) t.law_sure.g t.law_sure.F.kp t.law_sure.b .nil (fun _ _ => .nil) rfl (qf_of (qa_cons (qe_var (pv 3)) (qa_cons (qe_var (pv 1)) (qa_cons (qe_var (pv 2)) qa_nil))))))
  (qss_cons (qs_set (i := 5) nd rfl (by first | exact Or.inl rfl | exact Or.inr rfl) (qe_call (modes := [false, false, false]) (dts := []) (G .surely) hr (by rfl) t.surely.g t.surely.F.kp t.surely.b .nil (fun _ _ => .nil) rfl (qf_of (qa_cons (qe_var (pv 3)) (qa_cons (qe_var (pv 1)) (qa_cons (qe_var (pv 2)) qa_nil))))))
  (qss_cons (qs_if (PW.pt (qw_and (qt_cmp (opd_eq hu) (qe_var (pv 4)) qe_int (nomark _)) (qw_and1 (qt_cmp opd_isnot (qe_var (pv 5)) qe_non (nomark _))))) (qss_one (qs_ret qe_bl)) qss_nil)
  (qss_cons (qs_if (PW.pt (qw_and (qt_cmp opd_gt (qe_var (pv 4)) qe_int (nomark _)) (qw_and1 (qt_cmp opd_isnot (qe_var (pv 5)) qe_bl (nomark _))))) (qss_one (qs_ret qe_bl)) qss_nil)
  (qss_one (qs_if (PW.pt (qw_and (qt_cmp opd_lt (qe_var (pv 4)) qe_int (nomark _)) (qw_and1 (qt_cmp opd_isnot (qe_var (pv 5)) qe_bl (nomark _))))) (qss_one (qs_ret qe_bl)) qss_nil)))))))
  (qss_one (qs_ret qe_bl)))
theorem w_law_holds_later {k : Nat} (t : Top K mg fa ft) (G : AllOk P w K mg base fa ft k) : FnOk P w K mg base CX0 (k + 1) (fa .law_holds_later) (ft .law_holds_later) ["member", "names", "on", "off"] (liftSp K 4 (sem (k + 1) .law_holds_later)) := by
  refine fn_ok (modes := [false, false, false, false]) t.law_holds_later.F sc_law_holds_later rfl (by decide) fun cdv A outer s H E hr => ?_
  have hu := hr.units
  have nd := sc_law_holds_later.nd
  exact (qss_cons (qs_set (i := 4) nd rfl (by first | exact Or.inl rfl | exact Or.inr rfl) (qe_call (modes := [false, false, false]) (dts := []) (G .law_sure) hr (by rfl) t.law_sure.g t.law_sure.F.kp t.law_sure.b .nil (fun _ _ => .nil) rfl (qf_of (qa_cons (qe_var (pv 0)) (qa_cons (qe_var (pv 2)) (qa_cons (qe_var (pv 3)) qa_nil))))))
  (qss_cons (qs_for (is := [5]) PassesOwn.never rfl (qi_any (qe_call (modes := [false, false, false]) (dts := []) (G .law_completions) hr (by rfl) t.law_completions.g t.law_completions.F.kp t.law_completions.b .nil (fun _ _ => .nil) rfl (qf_of (qa_cons (qe_var (pv 1)) (qa_cons (qe_var (pv 2)) (qa_cons (qe_var (pv 3)) qa_nil)))))) (qg_name (pg_name (i := 5) nd rfl (by first | exact Or.inl rfl | exact Or.inr rfl))) (qss_cons (qs_if (PW.pt (qw_and (qt_cmp opd_gt (qe_var (pv 4)) qe_int (nomark _)) (qw_and1 (qt_not (qt_truth (qe_call (modes := [false, false]) (dts := []) (G .law_on) hr (by rfl) t.law_on.g t.law_on.F.kp t.law_on.b .nil (fun _ _ => .nil) rfl (qf_of (qa_cons (qe_var (pv 0)) (qa_cons (qe_var (pv 5)) qa_nil))))))))) (qss_one (qs_ret qe_bl)) qss_nil)
  (qss_one (qs_if (PW.pt (qw_and (qt_cmp opd_lt (qe_var (pv 4)) qe_int (nomark _)) (qw_and1 (qt_truth (qe_call (modes := [false, false]) (dts := []) (G .law_on) hr (by rfl) t.law_on.g t.law_on.F.kp t.law_on.b .nil (fun _ _ => .nil) rfl (qf_of (qa_cons (qe_var (pv 0)) (qa_cons (qe_var (pv 5)) qa_nil)))))))) (qss_one (qs_ret qe_bl)) qss_nil))))
  (qss_one (qs_ret qe_bl))))
theorem w_surely {k : Nat} (t : Top K mg fa ft) (G : AllOk P w K mg base fa ft k) : FnOk P w K mg base CX0 (k + 1) (fa .surely) (ft .surely) ["member", "on", "off"] (liftSp K 3 (sem (k + 1) .surely)) := by
  refine fn_ok (modes := [false, false, false]) t.surely.F sc_surely rfl (by decide) fun cdv A outer s H E hr => ?_
  have hu := hr.units
  have nd := sc_surely.nd
  exact (qss_cons (qs_set (i := 3) nd rfl (by first | exact Or.inl rfl | exact Or.inr rfl) (qe_ix (qe_var (pv 0)) qe_int (fun _ _ => rfl)))
  (qss_cons (qs_if (qt_cmp (opd_eq hu) (qe_var (pv 3)) qe_str (nomark _)) (qss_cons (qs_if (qt_cmp (opd_in hu) (qe_ix (qe_var (pv 0)) qe_int (fun _ _ => rfl)) (qe_var (pv 1)) rfl) (qss_one (qs_ret qe_bl)) qss_nil)
  (qss_cons (qs_if (qt_cmp (opd_in hu) (qe_ix (qe_var (pv 0)) qe_int (fun _ _ => rfl)) (qe_var (pv 2)) rfl) (qss_one (qs_ret qe_bl)) qss_nil)
  (qss_one (qs_ret qe_non)))) qss_nil)
  (qss_cons (qs_if (qt_cmp (opd_eq hu) (qe_var (pv 3)) qe_str (nomark _)) (qss_cons (qs_set (i := 4) nd rfl (by first | exact Or.inl rfl | exact Or.inr rfl) (qe_call (modes := [false, false, false]) (dts := []) (G .surely) hr (by rfl) t.surely.g t.surely.F.kp t.surely.b .nil (fun _ _ => .nil) rfl (qf_of (qa_cons (qe_ix (qe_var (pv 0)) qe_int (fun _ _ => rfl)) (qa_cons (qe_var (pv 1)) (qa_cons (qe_var (pv 2)) qa_nil))))))
  (qss_cons (qs_if (qt_cmp opd_is (qe_var (pv 4)) qe_non (nomark _)) (qss_one (qs_ret qe_non)) qss_nil)
  (qss_one (qs_ret (qe_not (qe_var (pv 4))))))) qss_nil)
  (qss_cons (qs_setLc (i := 5) (own := [("part", 6)]) rfl nd rfl rfl (sw_true rfl rfl rfl (by decide +kernel)) (qi_any (qe_ix (qe_var (pv 0)) qe_int (fun _ _ => rfl))) (blkOk_by (by kernel_rfl)) (fun _ _ _ _ _ => (qg_name (pg_name (i := 6) nd rfl (by first | exact Or.inl rfl | exact Or.inr rfl)))) (fun _ _ _ _ _ => qts_nil) (fun _ _ _ _ _ => (qe_call (modes := [false, false, false]) (dts := []) (G .surely) hr (by rfl) t.surely.g t.surely.F.kp t.surely.b .nil (fun _ _ => .nil) rfl (qf_of (qa_cons (qe_var (pv 6)) (qa_cons (qe_var (pv 1)) (qa_cons (qe_var (pv 2)) qa_nil)))))))
  (qss_cons (qs_if (PW.pt (qw_and (qt_cmp (opd_eq hu) (qe_var (pv 3)) qe_str (nomark _)) (qw_and1 (qt_cmp (opd_in hu) qe_bl (qe_var (pv 5)) rfl)))) (qss_one (qs_ret qe_bl)) qss_nil)
  (qss_cons (qs_if (PW.pt (qw_and (qt_cmp (opd_eq hu) (qe_var (pv 3)) qe_str (nomark _)) (qw_and1 (qt_cmp (opd_in hu) qe_bl (qe_var (pv 5)) rfl)))) (qss_one (qs_ret qe_bl)) qss_nil)
  (qss_cons (qs_if (qt_cmp (opd_in hu) qe_non (qe_var (pv 5)) rfl) (qss_one (qs_ret qe_non)) qss_nil)
  (qss_one (qs_ret (qe_cmp (opd_eq hu) (qe_var (pv 3)) qe_str (nomark _)))))))))))
theorem w_law_on {k : Nat} (t : Top K mg fa ft) (G : AllOk P w K mg base fa ft k) : FnOk P w K mg base CX0 (k + 1) (fa .law_on) (ft .law_on) ["member", "world"] (liftSp K 2 (sem (k + 1) .law_on)) := by
  refine fn_ok (modes := [false, false]) t.law_on.F sc_law_on rfl (by decide) fun cdv A outer s H E hr => ?_
  have hu := hr.units
  have nd := sc_law_on.nd
  exact (qss_cons (qs_if (qt_cmp (opd_eq hu) (qe_ix (qe_var (pv 0)) qe_int (fun _ _ => rfl)) qe_str (nomark _)) (qss_one (qs_ret (qe_cmp (opd_in hu) (qe_ix (qe_var (pv 0)) qe_int (fun _ _ => rfl)) (qe_var (pv 1)) rfl))) qss_nil)
  (qss_cons (qs_if (qt_cmp (opd_eq hu) (qe_ix (qe_var (pv 0)) qe_int (fun _ _ => rfl)) qe_str (nomark _)) (qss_one (qs_ret (qe_not (qe_call (modes := [false, false]) (dts := []) (G .law_on) hr (by rfl) t.law_on.g t.law_on.F.kp t.law_on.b .nil (fun _ _ => .nil) rfl (qf_of (qa_cons (qe_ix (qe_var (pv 0)) qe_int (fun _ _ => rfl)) (qa_cons (qe_var (pv 1)) qa_nil))))))) qss_nil)
  (qss_cons (qs_for (is := [2]) PassesOwn.never rfl (qi_any (qe_ix (qe_var (pv 0)) qe_int (fun _ _ => rfl))) (qg_name (pg_name (i := 2) nd rfl (by first | exact Or.inl rfl | exact Or.inr rfl))) (qss_one (qs_if (qt_cmp (opd_ne hu) (qe_call (modes := [false, false]) (dts := []) (G .law_on) hr (by rfl) t.law_on.g t.law_on.F.kp t.law_on.b .nil (fun _ _ => .nil) rfl (qf_of (qa_cons (qe_var (pv 2)) (qa_cons (qe_var (pv 1)) qa_nil)))) (qe_cmp (opd_eq hu) (qe_ix (qe_var (pv 0)) qe_int (fun _ _ => rfl)) qe_str (nomark _)) (nomark _)) (qss_one (qs_ret (qe_cmp (opd_ne hu) (qe_ix (qe_var (pv 0)) qe_int (fun _ _ => rfl)) qe_str (nomark _)))) qss_nil)))
  (qss_one (qs_ret (qe_cmp (opd_eq hu) (qe_ix (qe_var (pv 0)) qe_int (fun _ _ => rfl)) qe_str (nomark _)))))))
theorem w_law_spine_vivvv {k : Nat} (t : Top K mg fa ft) (G : AllOk P w K mg base fa ft k) : FnOk P w K mg base CX0 (k + 1) (fa .law_spine_vivvv) (ft .law_spine_vivvv) ["row", "at", "names", "deep", "marked"] (liftSp K 5 (sem (k + 1) .law_spine_vivvv)) := by
  refine fn_ok (modes := [false, true, false, false, false]) t.law_spine_vivvv.F sc_law_spine rfl (by decide) fun cdv A outer s H E hr => ?_
  have hu := hr.units
  have nd := sc_law_spine.nd
  exact (qss_cons (qs_set (i := 5) nd rfl (by first | exact Or.inl rfl | exact Or.inr rfl) (qe_tup 2 (qa_cons qe_str (qa_cons (qe_ix (qe_var (pv 2)) (qe_op opd_mod (qe_callTy cd_int (by rfl) t.z_int (by decide +kernel) (qa_cons (qe_call (modes := [false, true, false]) (dts := []) (G .law_take_viv) hr (by rfl) t.law_take_viv.g t.law_take_viv.F.kp t.law_take_viv.b .nil (fun _ _ => .nil) rfl (qf_of (qa_cons (qe_var (pv 0)) (qa_cons (qe_var (pv 1)) (qa_cons qe_int qa_nil))))) qa_nil)) (qe_callB cd_len (by rfl) t.z_len (by decide +kernel) (qa_cons (qe_var (pv 2)) qa_nil))) (fun _ _ => rfl)) qa_nil))))
  (qss_cons (qs_for (is := [6]) PassesOwn.never rfl (qi_range1 (by rfl) t.z_range (qe_var (pv 3))) (qg_name (pg_name (i := 6) nd rfl (by first | exact Or.inl rfl | exact Or.inr rfl))) (qss_cons (qs_set (i := 7) nd rfl (by first | exact Or.inl rfl | exact Or.inr rfl) (qe_lst 1 (qa_cons (qe_var (pv 5)) qa_nil)))
  (qss_cons (qs_if (PW.pt (qw_and (qt_truth (qe_var (pv 4))) (qw_and1 (qt_cmp (opd_eq hu) (qe_call (modes := [false, true, false]) (dts := []) (G .law_take_viv) hr (by rfl) t.law_take_viv.g t.law_take_viv.F.kp t.law_take_viv.b .nil (fun _ _ => .nil) rfl (qf_of (qa_cons (qe_var (pv 0)) (qa_cons (qe_var (pv 1)) (qa_cons qe_int qa_nil))))) qe_int (nomark _))))) (qss_one (qs_set (i := 7) nd rfl (by first | exact Or.inl rfl | exact Or.inr rfl) (qe_lst 1 (qa_cons (qe_tup 2 (qa_cons qe_str (qa_cons (qe_var (pv 5)) qa_nil))) qa_nil)))) qss_nil)
  (qss_cons (qs_for (is := [8]) PassesOwn.never rfl (qi_range1 (by rfl) t.z_range (qe_call (modes := [false, true, false]) (dts := []) (G .law_take_viv) hr (by rfl) t.law_take_viv.g t.law_take_viv.F.kp t.law_take_viv.b .nil (fun _ _ => .nil) rfl (qf_of (qa_cons (qe_var (pv 0)) (qa_cons (qe_var (pv 1)) (qa_cons qe_int qa_nil)))))) (qg_name (pg_name (i := 8) nd rfl (by first | exact Or.inl rfl | exact Or.inr rfl))) (qss_cons (qs_set (i := 9) nd rfl (by first | exact Or.inl rfl | exact Or.inr rfl) (qe_tup 2 (qa_cons qe_str (qa_cons (qe_ix (qe_var (pv 2)) (qe_op opd_mod (qe_callTy cd_int (by rfl) t.z_int (by decide +kernel) (qa_cons (qe_call (modes := [false, true, false]) (dts := []) (G .law_take_viv) hr (by rfl) t.law_take_viv.g t.law_take_viv.F.kp t.law_take_viv.b .nil (fun _ _ => .nil) rfl (qf_of (qa_cons (qe_var (pv 0)) (qa_cons (qe_var (pv 1)) (qa_cons qe_int qa_nil))))) qa_nil)) (qe_callB cd_len (by rfl) t.z_len (by decide +kernel) (qa_cons (qe_var (pv 2)) qa_nil))) (fun _ _ => rfl)) qa_nil))))
  (qss_cons (qs_if (PW.pt (qw_and (qt_truth (qe_var (pv 4))) (qw_and1 (qt_cmp (opd_eq hu) (qe_call (modes := [false, true, false]) (dts := []) (G .law_take_viv) hr (by rfl) t.law_take_viv.g t.law_take_viv.F.kp t.law_take_viv.b .nil (fun _ _ => .nil) rfl (qf_of (qa_cons (qe_var (pv 0)) (qa_cons (qe_var (pv 1)) (qa_cons qe_int qa_nil))))) qe_int (nomark _))))) (qss_one (qs_set (i := 9) nd rfl (by first | exact Or.inl rfl | exact Or.inr rfl) (qe_tup 2 (qa_cons qe_str (qa_cons (qe_var (pv 9)) qa_nil))))) qss_nil)
  (qss_one (qs_set (i := 7) nd rfl (by first | exact Or.inl rfl | exact Or.inr rfl) (qe_ix (qe_lst 2 (qa_cons (qe_op opd_add (qe_var (pv 7)) (qe_lst 1 (qa_cons (qe_var (pv 9)) qa_nil))) (qa_cons (qe_op opd_add (qe_lst 1 (qa_cons (qe_var (pv 9)) qa_nil)) (qe_var (pv 7))) qa_nil))) (qe_call (modes := [false, true, false]) (dts := []) (G .law_take_viv) hr (by rfl) t.law_take_viv.g t.law_take_viv.F.kp t.law_take_viv.b .nil (fun _ _ => .nil) rfl (qf_of (qa_cons (qe_var (pv 0)) (qa_cons (qe_var (pv 1)) (qa_cons qe_int qa_nil))))) (fun _ _ => rfl)))))))
  (qss_one (qs_set (i := 5) nd rfl (by first | exact Or.inl rfl | exact Or.inr rfl) (qe_tup 2 (qa_cons (qe_ix (qe_lst 2 (qa_cons qe_str (qa_cons qe_str qa_nil))) (qe_call (modes := [false, true, false]) (dts := []) (G .law_take_viv) hr (by rfl) t.law_take_viv.g t.law_take_viv.F.kp t.law_take_viv.b .nil (fun _ _ => .nil) rfl (qf_of (qa_cons (qe_var (pv 0)) (qa_cons (qe_var (pv 1)) (qa_cons qe_int qa_nil))))) (fun _ _ => rfl)) (qa_cons (qe_callTy cd_tuple (by rfl) t.z_tuple (by decide +kernel) (qa_cons (qe_var (pv 7)) qa_nil)) qa_nil)))))))))
  (qss_one (qs_ret (qe_var (pv 5))))))
theorem w_law_sized_vivvvv {k : Nat} (t : Top K mg fa ft) (G : AllOk P w K mg base fa ft k) : FnOk P w K mg base CX0 (k + 1) (fa .law_sized_vivvvv) (ft .law_sized_vivvvv) ["row", "at", "names", "deep", "room", "marked"] (liftSp K 6 (sem (k + 1) .law_sized_vivvvv)) := by
  refine fn_ok (modes := [false, true, false, false, false, false]) t.law_sized_vivvvv.F sc_law_sized rfl (by decide) fun cdv A outer s H E hr => ?_
  have hu := hr.units
  have nd := sc_law_sized.nd
  exact (qss_cons (qs_if (PW.pt (qw_or (qt_cmp (opd_eq hu) (qe_var (pv 3)) qe_int (nomark _)) (qw_or (qt_cmp opd_lt (qe_var (pv 4)) qe_int (nomark _)) (qw_or1 (qt_cmp opd_lt (qe_call (modes := [false, true, false]) (dts := []) (G .law_take_viv) hr (by rfl) t.law_take_viv.g t.law_take_viv.F.kp t.law_take_viv.b .nil (fun _ _ => .nil) rfl (qf_of (qa_cons (qe_var (pv 0)) (qa_cons (qe_var (pv 1)) (qa_cons qe_int qa_nil))))) qe_int (nomark _)))))) (qss_one (qs_ret (qe_tup 2 (qa_cons qe_str (qa_cons (qe_ix (qe_var (pv 2)) (qe_op opd_mod (qe_callTy cd_int (by rfl) t.z_int (by decide +kernel) (qa_cons (qe_call (modes := [false, true, false]) (dts := []) (G .law_take_viv) hr (by rfl) t.law_take_viv.g t.law_take_viv.F.kp t.law_take_viv.b .nil (fun _ _ => .nil) rfl (qf_of (qa_cons (qe_var (pv 0)) (qa_cons (qe_var (pv 1)) (qa_cons qe_int qa_nil))))) qa_nil)) (qe_callB cd_len (by rfl) t.z_len (by decide +kernel) (qa_cons (qe_var (pv 2)) qa_nil))) (fun _ _ => rfl)) qa_nil))))) qss_nil)
  (qss_cons (qs_set (i := 6) nd rfl (by first | exact Or.inl rfl | exact Or.inr rfl) (qe_ix (qe_lst 12 (qa_cons qe_int (qa_cons qe_int (qa_cons qe_int (qa_cons qe_int (qa_cons qe_int (qa_cons qe_int (qa_cons qe_int (qa_cons qe_int (qa_cons qe_int (qa_cons qe_int (qa_cons qe_int (qa_cons qe_int qa_nil))))))))))))) (qe_call (modes := [false, true, false]) (dts := []) (G .law_take_viv) hr (by rfl) t.law_take_viv.g t.law_take_viv.F.kp t.law_take_viv.b .nil (fun _ _ => .nil) rfl (qf_of (qa_cons (qe_var (pv 0)) (qa_cons (qe_var (pv 1)) (qa_cons qe_int qa_nil))))) (fun _ _ => rfl)))
  (qss_cons (qs_set (i := 7) nd rfl (by first | exact Or.inl rfl | exact Or.inr rfl) (qe_op opd_sub (qe_var (pv 4)) qe_int))
  (qss_cons (qs_set (i := 8) nd rfl (by first | exact Or.inl rfl | exact Or.inr rfl) (qe_lst 0 qa_nil))
  (qss_cons (qs_for (is := [9]) PassesOwn.never rfl (qi_range1 (by rfl) t.z_range (qe_var (pv 6))) (qg_name (pg_name (i := 9) nd rfl (by first | exact Or.inl rfl | exact Or.inr rfl))) (qss_cons (qs_set (i := 10) nd rfl (by first | exact Or.inl rfl | exact Or.inr rfl) (qe_op opd_fdiv (qe_var (pv 7)) (qe_op opd_sub (qe_var (pv 6)) (qe_var (pv 9)))))
  (qss_cons (qs_set (i := 11) nd rfl (by first | exact Or.inl rfl | exact Or.inr rfl) (qe_callTy cd_int (by rfl) t.z_int (by decide +kernel) (qa_cons (qe_and (qe_var (pv 5)) (qe_and (qe_cmp opd_gt (qe_var (pv 10)) qe_int (nomark _)) (qe_one (qe_cmp opd_lt (qe_call (modes := [false, true, false]) (dts := []) (G .law_take_viv) hr (by rfl) t.law_take_viv.g t.law_take_viv.F.kp t.law_take_viv.b .nil (fun _ _ => .nil) rfl (qf_of (qa_cons (qe_var (pv 0)) (qa_cons (qe_var (pv 1)) (qa_cons qe_int qa_nil))))) qe_int (nomark _))))) qa_nil)))
  (qss_one (qs_if (qt_cmp opd_gt (qe_var (pv 10)) qe_int (nomark _)) (qss_cons (qs_set (i := 12) nd rfl (by first | exact Or.inl rfl | exact Or.inr rfl) (qe_call (modes := [false, true, false, false, false, false]) (dts := []) (G .law_sized_vivvvv) hr (by rfl) t.law_sized_vivvvv.g t.law_sized_vivvvv.F.kp t.law_sized_vivvvv.b .nil (fun _ _ => .nil) rfl (qf_of (qa_cons (qe_var (pv 0)) (qa_cons (qe_var (pv 1)) (qa_cons (qe_var (pv 2)) (qa_cons (qe_op opd_sub (qe_var (pv 3)) qe_int) (qa_cons (qe_op opd_sub (qe_var (pv 10)) (qe_var (pv 11))) (qa_cons (qe_var (pv 5)) qa_nil)))))))))
  (qss_cons (qs_set (i := 7) nd rfl (by first | exact Or.inl rfl | exact Or.inr rfl) (qe_op opd_sub (qe_op opd_sub (qe_var (pv 7)) (qe_var (pv 11))) (qe_call (modes := [false]) (dts := []) (G .law_size) hr (by rfl) t.law_size.g t.law_size.F.kp t.law_size.b .nil (fun _ _ => .nil) rfl (qf_of (qa_cons (qe_var (pv 12)) qa_nil)))))
  (qss_one (qs_append (i := 8) (pv 8) (qe_ix (qe_lst 2 (qa_cons (qe_var (pv 12)) (qa_cons (qe_tup 2 (qa_cons qe_str (qa_cons (qe_var (pv 12)) qa_nil))) qa_nil))) (qe_var (pv 11)) (fun _ _ => rfl)))))) qss_nil)))))
  (qss_one (qs_ret (qe_tup 2 (qa_cons (qe_ix (qe_lst 2 (qa_cons qe_str (qa_cons qe_str qa_nil))) (qe_call (modes := [false, true, false]) (dts := []) (G .law_take_viv) hr (by rfl) t.law_take_viv.g t.law_take_viv.F.kp t.law_take_viv.b .nil (fun _ _ => .nil) rfl (qf_of (qa_cons (qe_var (pv 0)) (qa_cons (qe_var (pv 1)) (qa_cons qe_int qa_nil))))) (fun _ _ => rfl)) (qa_cons (qe_callTy cd_tuple (by rfl) t.z_tuple (by decide +kernel) (qa_cons (qe_var (pv 8)) qa_nil)) qa_nil))))))))))
theorem w_law_sure {k : Nat} (t : Top K mg fa ft) (G : AllOk P w K mg base fa ft k) : FnOk P w K mg base CX0 (k + 1) (fa .law_sure) (ft .law_sure) ["member", "on", "off"] (liftSp K 3 (sem (k + 1) .law_sure)) := by
  refine fn_ok (modes := [false, false, false]) t.law_sure.F sc_law_sure rfl (by decide) fun cdv A outer s H E hr => ?_
  have hu := hr.units
  have nd := sc_law_sure.nd
  exact (qss_cons (qs_if (qt_cmp (opd_eq hu) (qe_ix (qe_var (pv 0)) qe_int (fun _ _ => rfl)) qe_str (nomark _)) (qss_one (qs_ret (qe_op opd_sub (qe_callTy cd_int (by rfl) t.z_int (by decide +kernel) (qa_cons (qe_cmp (opd_in hu) (qe_ix (qe_var (pv 0)) qe_int (fun _ _ => rfl)) (qe_var (pv 1)) rfl) qa_nil)) (qe_callTy cd_int (by rfl) t.z_int (by decide +kernel) (qa_cons (qe_cmp (opd_in hu) (qe_ix (qe_var (pv 0)) qe_int (fun _ _ => rfl)) (qe_var (pv 2)) rfl) qa_nil))))) qss_nil)
  (qss_cons (qs_if (qt_cmp (opd_eq hu) (qe_ix (qe_var (pv 0)) qe_int (fun _ _ => rfl)) qe_str (nomark _)) (qss_one (qs_ret (qe_op opd_sub qe_int (qe_call (modes := [false, false, false]) (dts := []) (G .law_sure) hr (by rfl) t.law_sure.g t.law_sure.F.kp t.law_sure.b .nil (fun _ _ => .nil) rfl (qf_of (qa_cons (qe_ix (qe_var (pv 0)) qe_int (fun _ _ => rfl)) (qa_cons (qe_var (pv 1)) (qa_cons (qe_var (pv 2)) qa_nil)))))))) qss_nil)
  (qss_cons (qs_if (qt_cmp (opd_eq hu) (qe_ix (qe_var (pv 0)) qe_int (fun _ _ => rfl)) qe_str (nomark _)) (qss_cons (qs_set (i := 3) nd rfl (by first | exact Or.inl rfl | exact Or.inr rfl) qe_int)
  (qss_cons (qs_for (is := [4]) PassesOwn.never rfl (qi_any (qe_ix (qe_var (pv 0)) qe_int (fun _ _ => rfl))) (qg_name (pg_name (i := 4) nd rfl (by first | exact Or.inl rfl | exact Or.inr rfl))) (qss_one (qs_set (i := 3) nd rfl (by first | exact Or.inl rfl | exact Or.inr rfl) (qe_callB (cd_min rfl) (by rfl) t.z_min (by decide +kernel) (qa_cons (qe_var (pv 3)) (qa_cons (qe_call (modes := [false, false, false]) (dts := []) (G .law_sure) hr (by rfl) t.law_sure.g t.law_sure.F.kp t.law_sure.b .nil (fun _ _ => .nil) rfl (qf_of (qa_cons (qe_var (pv 4)) (qa_cons (qe_var (pv 1)) (qa_cons (qe_var (pv 2)) qa_nil))))) qa_nil))))))
  (qss_one (qs_ret (qe_var (pv 3)))))) qss_nil)
  (qss_cons (qs_set (i := 5) nd rfl (by first | exact Or.inl rfl | exact Or.inr rfl) (qe_op opd_sub qe_int qe_int))
  (qss_cons (qs_for (is := [4]) PassesOwn.never rfl (qi_any (qe_ix (qe_var (pv 0)) qe_int (fun _ _ => rfl))) (qg_name (pg_name (i := 4) nd rfl (by first | exact Or.inl rfl | exact Or.inr rfl))) (qss_one (qs_set (i := 5) nd rfl (by first | exact Or.inl rfl | exact Or.inr rfl) (qe_callB (cd_max rfl) (by rfl) t.z_max (by decide +kernel) (qa_cons (qe_var (pv 5)) (qa_cons (qe_call (modes := [false, false, false]) (dts := []) (G .law_sure) hr (by rfl) t.law_sure.g t.law_sure.F.kp t.law_sure.b .nil (fun _ _ => .nil) rfl (qf_of (qa_cons (qe_var (pv 4)) (qa_cons (qe_var (pv 1)) (qa_cons (qe_var (pv 2)) qa_nil))))) qa_nil))))))
  (qss_one (qs_ret (qe_var (pv 5)))))))))
theorem w_law_completions {k : Nat} (t : Top K mg fa ft) (G : AllOk P w K mg base fa ft k) : FnOk P w K mg base CX0 (k + 1) (fa .law_completions) (ft .law_completions) ["names", "on", "off"] (liftSp K 3 (sem (k + 1) .law_completions)) := by
  refine fn_ok (modes := [false, false, false]) t.law_completions.F sc_law_completions rfl (by decide) fun cdv A outer s H E hr => ?_
  have hu := hr.units
  have nd := sc_law_completions.nd
  exact (qss_cons (qs_set (i := 3) nd rfl (by first | exact Or.inl rfl | exact Or.inr rfl) (qe_lst 1 (qa_cons (qe_tup 0 qa_nil) qa_nil)))
  (qss_cons (qs_for (is := [4]) PassesOwn.never rfl (qi_any (qe_var (pv 0))) (qg_name (pg_name (i := 4) nd rfl (by first | exact Or.inl rfl | exact Or.inr rfl))) (qss_cons (qs_set (i := 5) nd rfl (by first | exact Or.inl rfl | exact Or.inr rfl) (qe_lst 0 qa_nil))
  (qss_cons (qs_for (is := [6]) PassesOwn.never rfl (qi_any (qe_var (pv 3))) (qg_name (pg_name (i := 6) nd rfl (by first | exact Or.inl rfl | exact Or.inr rfl))) (qss_cons (qs_if (qt_cmp (opd_notin hu) (qe_var (pv 4)) (qe_var (pv 1)) rfl) (qss_one (qs_append (i := 5) (pv 5) (qe_var (pv 6)))) qss_nil)
  (qss_one (qs_if (qt_cmp (opd_notin hu) (qe_var (pv 4)) (qe_var (pv 2)) rfl) (qss_one (qs_append (i := 5) (pv 5) (qe_op opd_add (qe_var (pv 6)) (qe_tup 1 (qa_cons (qe_var (pv 4)) qa_nil))))) qss_nil))))
  (qss_one (qs_set (i := 3) nd rfl (by first | exact Or.inl rfl | exact Or.inr rfl) (qe_var (pv 5)))))))
  (qss_one (qs_ret (qe_var (pv 3))))))
theorem w_law_size {k : Nat} (t : Top K mg fa ft) (G : AllOk P w K mg base fa ft k) : FnOk P w K mg base CX0 (k + 1) (fa .law_size) (ft .law_size) ["member"] (liftSp K 1 (sem (k + 1) .law_size)) := by
  refine fn_ok (modes := [false]) t.law_size.F sc_law_size rfl (by decide) fun cdv A outer s H E hr => ?_
  have hu := hr.units
  have nd := sc_law_size.nd
  exact (qss_cons (qs_if (qt_cmp (opd_eq hu) (qe_ix (qe_var (pv 0)) qe_int (fun _ _ => rfl)) qe_str (nomark _)) (qss_one (qs_ret qe_int)) qss_nil)
  (qss_cons (qs_if (qt_cmp (opd_eq hu) (qe_ix (qe_var (pv 0)) qe_int (fun _ _ => rfl)) qe_str (nomark _)) (qss_one (qs_ret (qe_op opd_add qe_int (qe_call (modes := [false]) (dts := []) (G .law_size) hr (by rfl) t.law_size.g t.law_size.F.kp t.law_size.b .nil (fun _ _ => .nil) rfl (qf_of (qa_cons (qe_ix (qe_var (pv 0)) qe_int (fun _ _ => rfl)) qa_nil)))))) qss_nil)
  (qss_one (qs_ret (qe_op opd_add qe_int (qe_callB (cd_sum rfl) (by rfl) t.z_sum (by decide +kernel) (qa_cons (qe_lc (own := [("part", 1)]) rfl nd (qi_any (qe_ix (qe_var (pv 0)) qe_int (fun _ _ => rfl))) (blkOk_by (by kernel_rfl)) (fun _ _ _ _ _ => (qg_name (pg_name (i := 1) nd rfl (by first | exact Or.inl rfl | exact Or.inr rfl)))) (fun _ _ _ _ _ => qts_nil) (fun _ _ _ _ _ => (qe_call (modes := [false]) (dts := []) (G .law_size) hr (by rfl) t.law_size.g t.law_size.F.kp t.law_size.b .nil (fun _ _ => .nil) rfl (qf_of (qa_cons (qe_var (pv 1)) qa_nil))))) qa_nil)))))))
theorem all_ok (t : Top K mg fa ft) : ∀ k, AllOk P w K mg base fa ft k
  | 0, _ => ⟨fun _ _ _ _ h => h.1, fun _ _ _ _ _ _ _ _ _ _ _ _ _ ⟨_, _, _, _, _, _, _, _, _, h, _⟩ => h.elim⟩
  | k + 1, f => by
    have G := all_ok t k
    cases f with
    | law => exact w_law t G
    | law_digits => exact w_law_digits t G
    | law_cell => exact w_law_cell t G
    | law_fresh_viv => exact w_law_fresh_viv t G
    | law_take_viv => exact w_law_take_viv t G
    | law_member_viv => exact w_law_member_viv t G
    | law_within => exact w_law_within t G
    | law_ascending => exact w_law_ascending t G
    | law_answers => exact w_law_answers t G
    | law_holds_later => exact w_law_holds_later t G
    | surely => exact w_surely t G
    | law_on => exact w_law_on t G
    | law_spine_vivvv => exact w_law_spine_vivvv t G
    | law_sized_vivvvv => exact w_law_sized_vivvvv t G
    | law_sure => exact w_law_sure t G
    | law_completions => exact w_law_completions t G
    | law_size => exact w_law_size t G
end
theorem all_mk {l : PySem.W.OpenLaw} {w : World} {K : PySem.W.Frag} {h : Heap} {mg : Str → Option Value} {fa : Addr} {m : Nat} (X : K.In h) (G : h.Ns mainGlobals mg) (hfa : mg "law" = some (.ref fa))
    {f0 : Addr} {od0 an0 : Option Addr} {sl0 : Array (Option Value)} {oc0 kV0 dc0 pm0 cd0 ct0 : Value}
    {f1 : Addr} {od1 an1 : Option Addr} {sl1 : Array (Option Value)} {oc1 kV1 dc1 pm1 cd1 ct1 : Value}
    {f2 : Addr} {od2 an2 : Option Addr} {sl2 : Array (Option Value)} {oc2 kV2 dc2 pm2 cd2 ct2 : Value}
    {f3 : Addr} {od3 an3 : Option Addr} {sl3 : Array (Option Value)} {oc3 kV3 dc3 pm3 cd3 ct3 : Value}
    {f4 : Addr} {od4 an4 : Option Addr} {sl4 : Array (Option Value)} {oc4 kV4 dc4 pm4 cd4 ct4 : Value}
    {f5 : Addr} {od5 an5 : Option Addr} {sl5 : Array (Option Value)} {oc5 kV5 dc5 pm5 cd5 ct5 : Value}
    {f6 : Addr} {od6 an6 : Option Addr} {sl6 : Array (Option Value)} {oc6 kV6 dc6 pm6 cd6 ct6 : Value}
    {f7 : Addr} {od7 an7 : Option Addr} {sl7 : Array (Option Value)} {oc7 kV7 dc7 pm7 cd7 ct7 : Value}
    {f8 : Addr} {od8 an8 : Option Addr} {sl8 : Array (Option Value)} {oc8 kV8 dc8 pm8 cd8 ct8 : Value}
    {f9 : Addr} {od9 an9 : Option Addr} {sl9 : Array (Option Value)} {oc9 kV9 dc9 pm9 cd9 ct9 : Value}
    {f10 : Addr} {od10 an10 : Option Addr} {sl10 : Array (Option Value)} {oc10 kV10 dc10 pm10 cd10 ct10 : Value}
    {f11 : Addr} {od11 an11 : Option Addr} {sl11 : Array (Option Value)} {oc11 kV11 dc11 pm11 cd11 ct11 : Value}
    {f12 : Addr} {od12 an12 : Option Addr} {sl12 : Array (Option Value)} {oc12 kV12 dc12 pm12 cd12 ct12 : Value}
    {f13 : Addr} {od13 an13 : Option Addr} {sl13 : Array (Option Value)} {oc13 kV13 dc13 pm13 cd13 ct13 : Value}
    {f14 : Addr} {od14 an14 : Option Addr} {sl14 : Array (Option Value)} {oc14 kV14 dc14 pm14 cd14 ct14 : Value}
    {f15 : Addr} {od15 an15 : Option Addr} {sl15 : Array (Option Value)} {oc15 kV15 dc15 pm15 cd15 ct15 : Value}
    {f16 : Addr} {od16 an16 : Option Addr} {sl16 : Array (Option Value)} {oc16 kV16 dc16 pm16 cd16 ct16 : Value}
    (a0 : PySem.W.nsIn K mainGlobals "law" = some (some (.ref f0))) (l0 : K.lookup f0 = some ⟨oc0, od0, .func (PySem.W.fnOf "law" "law" (defArgs s_law) (defBody s_law) (defScope s_law) .none kV0 dc0 pm0 an0 cd0 ct0), sl0⟩) (c0 : PySem.W.codeIn K cd0 "law" = true) (k0 : PySem.W.keepIn K (.ref f0) = true)
    (a1 : PySem.W.nsIn K mainGlobals "_law_digits" = some (some (.ref f1))) (l1 : K.lookup f1 = some ⟨oc1, od1, .func (PySem.W.fnOf "_law_digits" "_law_digits" (defArgs s_law_digits) (defBody s_law_digits) (defScope s_law_digits) .none kV1 dc1 pm1 an1 cd1 ct1), sl1⟩) (c1 : PySem.W.codeIn K cd1 "_law_digits" = true) (k1 : PySem.W.keepIn K (.ref f1) = true)
    (a2 : PySem.W.nsIn K mainGlobals "_law_cell" = some (some (.ref f2))) (l2 : K.lookup f2 = some ⟨oc2, od2, .func (PySem.W.fnOf "_law_cell" "_law_cell" (defArgs s_law_cell) (defBody s_law_cell) (defScope s_law_cell) .none kV2 dc2 pm2 an2 cd2 ct2), sl2⟩) (c2 : PySem.W.codeIn K cd2 "_law_cell" = true) (k2 : PySem.W.keepIn K (.ref f2) = true)
    (a3 : PySem.W.nsIn K mainGlobals "_law_fresh" = some (some (.ref f3))) (l3 : K.lookup f3 = some ⟨oc3, od3, .func (PySem.W.fnOf "_law_fresh" "_law_fresh" (defArgs s_law_fresh) (defBody s_law_fresh) (defScope s_law_fresh) .none kV3 dc3 pm3 an3 cd3 ct3), sl3⟩) (c3 : PySem.W.codeIn K cd3 "_law_fresh" = true) (k3 : PySem.W.keepIn K (.ref f3) = true)
    (a4 : PySem.W.nsIn K mainGlobals "_law_take" = some (some (.ref f4))) (l4 : K.lookup f4 = some ⟨oc4, od4, .func (PySem.W.fnOf "_law_take" "_law_take" (defArgs s_law_take) (defBody s_law_take) (defScope s_law_take) .none kV4 dc4 pm4 an4 cd4 ct4), sl4⟩) (c4 : PySem.W.codeIn K cd4 "_law_take" = true) (k4 : PySem.W.keepIn K (.ref f4) = true)
    (a5 : PySem.W.nsIn K mainGlobals "_law_member" = some (some (.ref f5))) (l5 : K.lookup f5 = some ⟨oc5, od5, .func (PySem.W.fnOf "_law_member" "_law_member" (defArgs s_law_member) (defBody s_law_member) (defScope s_law_member) .none kV5 dc5 pm5 an5 cd5 ct5), sl5⟩) (c5 : PySem.W.codeIn K cd5 "_law_member" = true) (k5 : PySem.W.keepIn K (.ref f5) = true)
    (a6 : PySem.W.nsIn K mainGlobals "_law_within" = some (some (.ref f6))) (l6 : K.lookup f6 = some ⟨oc6, od6, .func (PySem.W.fnOf "_law_within" "_law_within" (defArgs s_law_within) (defBody s_law_within) (defScope s_law_within) .none kV6 dc6 pm6 an6 cd6 ct6), sl6⟩) (c6 : PySem.W.codeIn K cd6 "_law_within" = true) (k6 : PySem.W.keepIn K (.ref f6) = true)
    (a7 : PySem.W.nsIn K mainGlobals "_law_ascending" = some (some (.ref f7))) (l7 : K.lookup f7 = some ⟨oc7, od7, .func (PySem.W.fnOf "_law_ascending" "_law_ascending" (defArgs s_law_ascending) (defBody s_law_ascending) (defScope s_law_ascending) .none kV7 dc7 pm7 an7 cd7 ct7), sl7⟩) (c7 : PySem.W.codeIn K cd7 "_law_ascending" = true) (k7 : PySem.W.keepIn K (.ref f7) = true)
    (a8 : PySem.W.nsIn K mainGlobals "_law_answers" = some (some (.ref f8))) (l8 : K.lookup f8 = some ⟨oc8, od8, .func (PySem.W.fnOf "_law_answers" "_law_answers" (defArgs s_law_answers) (defBody s_law_answers) (defScope s_law_answers) .none kV8 dc8 pm8 an8 cd8 ct8), sl8⟩) (c8 : PySem.W.codeIn K cd8 "_law_answers" = true) (k8 : PySem.W.keepIn K (.ref f8) = true)
    (a9 : PySem.W.nsIn K mainGlobals "_law_holds_later" = some (some (.ref f9))) (l9 : K.lookup f9 = some ⟨oc9, od9, .func (PySem.W.fnOf "_law_holds_later" "_law_holds_later" (defArgs s_law_holds_later) (defBody s_law_holds_later) (defScope s_law_holds_later) .none kV9 dc9 pm9 an9 cd9 ct9), sl9⟩) (c9 : PySem.W.codeIn K cd9 "_law_holds_later" = true) (k9 : PySem.W.keepIn K (.ref f9) = true)
    (a10 : PySem.W.nsIn K mainGlobals "surely" = some (some (.ref f10))) (l10 : K.lookup f10 = some ⟨oc10, od10, .func (PySem.W.fnOf "surely" "surely" (defArgs s_surely) (defBody s_surely) (defScope s_surely) .none kV10 dc10 pm10 an10 cd10 ct10), sl10⟩) (c10 : PySem.W.codeIn K cd10 "surely" = true) (k10 : PySem.W.keepIn K (.ref f10) = true)
    (a11 : PySem.W.nsIn K mainGlobals "_law_on" = some (some (.ref f11))) (l11 : K.lookup f11 = some ⟨oc11, od11, .func (PySem.W.fnOf "_law_on" "_law_on" (defArgs s_law_on) (defBody s_law_on) (defScope s_law_on) .none kV11 dc11 pm11 an11 cd11 ct11), sl11⟩) (c11 : PySem.W.codeIn K cd11 "_law_on" = true) (k11 : PySem.W.keepIn K (.ref f11) = true)
    (a12 : PySem.W.nsIn K mainGlobals "_law_spine" = some (some (.ref f12))) (l12 : K.lookup f12 = some ⟨oc12, od12, .func (PySem.W.fnOf "_law_spine" "_law_spine" (defArgs s_law_spine) (defBody s_law_spine) (defScope s_law_spine) .none kV12 dc12 pm12 an12 cd12 ct12), sl12⟩) (c12 : PySem.W.codeIn K cd12 "_law_spine" = true) (k12 : PySem.W.keepIn K (.ref f12) = true)
    (a13 : PySem.W.nsIn K mainGlobals "_law_sized" = some (some (.ref f13))) (l13 : K.lookup f13 = some ⟨oc13, od13, .func (PySem.W.fnOf "_law_sized" "_law_sized" (defArgs s_law_sized) (defBody s_law_sized) (defScope s_law_sized) .none kV13 dc13 pm13 an13 cd13 ct13), sl13⟩) (c13 : PySem.W.codeIn K cd13 "_law_sized" = true) (k13 : PySem.W.keepIn K (.ref f13) = true)
    (a14 : PySem.W.nsIn K mainGlobals "_law_sure" = some (some (.ref f14))) (l14 : K.lookup f14 = some ⟨oc14, od14, .func (PySem.W.fnOf "_law_sure" "_law_sure" (defArgs s_law_sure) (defBody s_law_sure) (defScope s_law_sure) .none kV14 dc14 pm14 an14 cd14 ct14), sl14⟩) (c14 : PySem.W.codeIn K cd14 "_law_sure" = true) (k14 : PySem.W.keepIn K (.ref f14) = true)
    (a15 : PySem.W.nsIn K mainGlobals "_law_completions" = some (some (.ref f15))) (l15 : K.lookup f15 = some ⟨oc15, od15, .func (PySem.W.fnOf "_law_completions" "_law_completions" (defArgs s_law_completions) (defBody s_law_completions) (defScope s_law_completions) .none kV15 dc15 pm15 an15 cd15 ct15), sl15⟩) (c15 : PySem.W.codeIn K cd15 "_law_completions" = true) (k15 : PySem.W.keepIn K (.ref f15) = true)
    (a16 : PySem.W.nsIn K mainGlobals "_law_size" = some (some (.ref f16))) (l16 : K.lookup f16 = some ⟨oc16, od16, .func (PySem.W.fnOf "_law_size" "_law_size" (defArgs s_law_size) (defBody s_law_size) (defScope s_law_size) .none kV16 dc16 pm16 an16 cd16 ct16), sl16⟩) (c16 : PySem.W.codeIn K cd16 "_law_size" = true) (k16 : PySem.W.keepIn K (.ref f16) = true)
    (z_int : PySem.W.nsIn K mainGlobals "int" = some none)
    (z_len : PySem.W.nsIn K mainGlobals "len" = some none)
    (z_list : PySem.W.nsIn K mainGlobals "list" = some none)
    (z_max : PySem.W.nsIn K mainGlobals "max" = some none)
    (z_min : PySem.W.nsIn K mainGlobals "min" = some none)
    (z_range : PySem.W.nsIn K mainGlobals "range" = some none)
    (z_sorted : PySem.W.nsIn K mainGlobals "sorted" = some none)
    (z_str : PySem.W.nsIn K mainGlobals "str" = some none)
    (z_sum : PySem.W.nsIn K mainGlobals "sum" = some none)
    (z_tuple : PySem.W.nsIn K mainGlobals "tuple" = some none)
    : ∃ fd : FuncData, (∀ (s : Shared) (v : Value), BindsTo s fd ⟨[v], []⟩ [("script", v)]) ∧ ∀ base : Heap, K.In base → base.Ns mainGlobals mg → FnOk l.prog w K mg base CX0 m fa fd ["script"] (liftSp K 1 (sem m .law)) := by
  have e := hfa.symm.trans (PySem.W.mg_of X G a0)
  cases e
  have F0 := fun_mk (st := s_law) l0 c0 k0
  have b0 := F0.binds (ps := ["script"]) fun _ _ _ _ _ _ us hl => match us, hl with | [_], _ => rfl
  have F1 := fun_mk (st := s_law_digits) l1 c1 k1
  have b1 := F1.binds (ps := ["cell", "sizes"]) fun _ _ _ _ _ _ us hl => match us, hl with | [_, _], _ => rfl
  have F2 := fun_mk (st := s_law_cell) l2 c2 k2
  have b2 := F2.binds (ps := ["script", "k"]) fun _ _ _ _ _ _ us hl => match us, hl with | [_, _], _ => rfl
  have F3 := fun_mk (st := s_law_fresh) l3 c3 k3
  have b3 := F3.binds (ps := ["row", "at", "many"]) fun _ _ _ _ _ _ us hl => match us, hl with | [_, _, _], _ => rfl
  have F4 := fun_mk (st := s_law_take) l4 c4 k4
  have b4 := F4.binds (ps := ["row", "at", "size"]) fun _ _ _ _ _ _ us hl => match us, hl with | [_, _, _], _ => rfl
  have F5 := fun_mk (st := s_law_member) l5 c5 k5
  have b5 := F5.binds (ps := ["row", "at", "names"]) fun _ _ _ _ _ _ us hl => match us, hl with | [_, _, _], _ => rfl
  have F6 := fun_mk (st := s_law_within) l6 c6 k6
  have b6 := F6.binds (ps := ["member"]) fun _ _ _ _ _ _ us hl => match us, hl with | [_], _ => rfl
  have F7 := fun_mk (st := s_law_ascending) l7 c7 k7
  have b7 := F7.binds (ps := ["items"]) fun _ _ _ _ _ _ us hl => match us, hl with | [_], _ => rfl
  have F8 := fun_mk (st := s_law_answers) l8 c8 k8
  have b8 := F8.binds (ps := ["found", "on", "off"]) fun _ _ _ _ _ _ us hl => match us, hl with | [_, _, _], _ => rfl
  have F9 := fun_mk (st := s_law_holds_later) l9 c9 k9
  have b9 := F9.binds (ps := ["member", "names", "on", "off"]) fun _ _ _ _ _ _ us hl => match us, hl with | [_, _, _, _], _ => rfl
  have F10 := fun_mk (st := s_surely) l10 c10 k10
  have b10 := F10.binds (ps := ["member", "on", "off"]) fun _ _ _ _ _ _ us hl => match us, hl with | [_, _, _], _ => rfl
  have F11 := fun_mk (st := s_law_on) l11 c11 k11
  have b11 := F11.binds (ps := ["member", "world"]) fun _ _ _ _ _ _ us hl => match us, hl with | [_, _], _ => rfl
  have F12 := fun_mk (st := s_law_spine) l12 c12 k12
  have b12 := F12.binds (ps := ["row", "at", "names", "deep", "marked"]) fun _ _ _ _ _ _ us hl => match us, hl with | [_, _, _, _, _], _ => rfl
  have F13 := fun_mk (st := s_law_sized) l13 c13 k13
  have b13 := F13.binds (ps := ["row", "at", "names", "deep", "room", "marked"]) fun _ _ _ _ _ _ us hl => match us, hl with | [_, _, _, _, _, _], _ => rfl
  have F14 := fun_mk (st := s_law_sure) l14 c14 k14
  have b14 := F14.binds (ps := ["member", "on", "off"]) fun _ _ _ _ _ _ us hl => match us, hl with | [_, _, _], _ => rfl
  have F15 := fun_mk (st := s_law_completions) l15 c15 k15
  have b15 := F15.binds (ps := ["names", "on", "off"]) fun _ _ _ _ _ _ us hl => match us, hl with | [_, _, _], _ => rfl
  have F16 := fun_mk (st := s_law_size) l16 c16 k16
  have b16 := F16.binds (ps := ["member"]) fun _ _ _ _ _ _ us hl => match us, hl with | [_], _ => rfl
  let fA : Fn → Addr := fun f => match f with
    | .law => fa
    | .law_digits => f1
    | .law_cell => f2
    | .law_fresh_viv => f3
    | .law_take_viv => f4
    | .law_member_viv => f5
    | .law_within => f6
    | .law_ascending => f7
    | .law_answers => f8
    | .law_holds_later => f9
    | .surely => f10
    | .law_on => f11
    | .law_spine_vivvv => f12
    | .law_sized_vivvvv => f13
    | .law_sure => f14
    | .law_completions => f15
    | .law_size => f16
  let fT : Fn → FuncData := fun f => match f with
    | .law => PySem.W.fnOf "law" "law" (defArgs s_law) (defBody s_law) (defScope s_law) .none kV0 dc0 pm0 an0 cd0 ct0
    | .law_digits => PySem.W.fnOf "_law_digits" "_law_digits" (defArgs s_law_digits) (defBody s_law_digits) (defScope s_law_digits) .none kV1 dc1 pm1 an1 cd1 ct1
    | .law_cell => PySem.W.fnOf "_law_cell" "_law_cell" (defArgs s_law_cell) (defBody s_law_cell) (defScope s_law_cell) .none kV2 dc2 pm2 an2 cd2 ct2
    | .law_fresh_viv => PySem.W.fnOf "_law_fresh" "_law_fresh" (defArgs s_law_fresh) (defBody s_law_fresh) (defScope s_law_fresh) .none kV3 dc3 pm3 an3 cd3 ct3
    | .law_take_viv => PySem.W.fnOf "_law_take" "_law_take" (defArgs s_law_take) (defBody s_law_take) (defScope s_law_take) .none kV4 dc4 pm4 an4 cd4 ct4
    | .law_member_viv => PySem.W.fnOf "_law_member" "_law_member" (defArgs s_law_member) (defBody s_law_member) (defScope s_law_member) .none kV5 dc5 pm5 an5 cd5 ct5
    | .law_within => PySem.W.fnOf "_law_within" "_law_within" (defArgs s_law_within) (defBody s_law_within) (defScope s_law_within) .none kV6 dc6 pm6 an6 cd6 ct6
    | .law_ascending => PySem.W.fnOf "_law_ascending" "_law_ascending" (defArgs s_law_ascending) (defBody s_law_ascending) (defScope s_law_ascending) .none kV7 dc7 pm7 an7 cd7 ct7
    | .law_answers => PySem.W.fnOf "_law_answers" "_law_answers" (defArgs s_law_answers) (defBody s_law_answers) (defScope s_law_answers) .none kV8 dc8 pm8 an8 cd8 ct8
    | .law_holds_later => PySem.W.fnOf "_law_holds_later" "_law_holds_later" (defArgs s_law_holds_later) (defBody s_law_holds_later) (defScope s_law_holds_later) .none kV9 dc9 pm9 an9 cd9 ct9
    | .surely => PySem.W.fnOf "surely" "surely" (defArgs s_surely) (defBody s_surely) (defScope s_surely) .none kV10 dc10 pm10 an10 cd10 ct10
    | .law_on => PySem.W.fnOf "_law_on" "_law_on" (defArgs s_law_on) (defBody s_law_on) (defScope s_law_on) .none kV11 dc11 pm11 an11 cd11 ct11
    | .law_spine_vivvv => PySem.W.fnOf "_law_spine" "_law_spine" (defArgs s_law_spine) (defBody s_law_spine) (defScope s_law_spine) .none kV12 dc12 pm12 an12 cd12 ct12
    | .law_sized_vivvvv => PySem.W.fnOf "_law_sized" "_law_sized" (defArgs s_law_sized) (defBody s_law_sized) (defScope s_law_sized) .none kV13 dc13 pm13 an13 cd13 ct13
    | .law_sure => PySem.W.fnOf "_law_sure" "_law_sure" (defArgs s_law_sure) (defBody s_law_sure) (defScope s_law_sure) .none kV14 dc14 pm14 an14 cd14 ct14
    | .law_completions => PySem.W.fnOf "_law_completions" "_law_completions" (defArgs s_law_completions) (defBody s_law_completions) (defScope s_law_completions) .none kV15 dc15 pm15 an15 cd15 ct15
    | .law_size => PySem.W.fnOf "_law_size" "_law_size" (defArgs s_law_size) (defBody s_law_size) (defScope s_law_size) .none kV16 dc16 pm16 an16 cd16 ct16
  have kb0 := kbinds_of (ps := ["member", "on", "off"]) (ks := ["off", "on", "member"]) (g := kg0) (gV := kg0) F10 (fun _ _ _ _ _ _ us ws hl => by
    have hc : us.length = 0 ∧ ws.length = 3 := by
      by_cases h : us.length = 0 ∧ ws.length = 3
      · exact h
      · unfold kg0 kgOf at hl; rw [if_neg h] at hl; cases hl
    match us, ws, hc with
    | [], [_, _, _], _ => rfl) (fun h1 h2 => kg_vals h1 h2)
  have t : Top K mg fA fT := ⟨⟨F0, PySem.W.mg_of X G a0, b0⟩, ⟨F1, PySem.W.mg_of X G a1, b1⟩, ⟨F2, PySem.W.mg_of X G a2, b2⟩, ⟨F3, PySem.W.mg_of X G a3, b3⟩, ⟨F4, PySem.W.mg_of X G a4, b4⟩, ⟨F5, PySem.W.mg_of X G a5, b5⟩, ⟨F6, PySem.W.mg_of X G a6, b6⟩, ⟨F7, PySem.W.mg_of X G a7, b7⟩, ⟨F8, PySem.W.mg_of X G a8, b8⟩, ⟨F9, PySem.W.mg_of X G a9, b9⟩, ⟨F10, PySem.W.mg_of X G a10, b10⟩, ⟨F11, PySem.W.mg_of X G a11, b11⟩, ⟨F12, PySem.W.mg_of X G a12, b12⟩, ⟨F13, PySem.W.mg_of X G a13, b13⟩, ⟨F14, PySem.W.mg_of X G a14, b14⟩, ⟨F15, PySem.W.mg_of X G a15, b15⟩, ⟨F16, PySem.W.mg_of X G a16, b16⟩, PySem.W.mg_none_of X G z_int, PySem.W.mg_none_of X G z_len, PySem.W.mg_none_of X G z_list, PySem.W.mg_none_of X G z_max, PySem.W.mg_none_of X G z_min, PySem.W.mg_none_of X G z_range, PySem.W.mg_none_of X G z_sorted, PySem.W.mg_none_of X G z_str, PySem.W.mg_none_of X G z_sum, PySem.W.mg_none_of X G z_tuple, kb0⟩
  exact ⟨_, fun s v => .of_eq rfl, fun base _ _ => all_ok t m .law⟩
end K17
open PySem PySem.W PyProof.Rows
set_option maxHeartbeats 0 in
theorem PySem.Challenge.cw_nevernot_k17_surely_holds : PySem.Challenge.rw_nevernot_k17_surely.Holds := by
  w_on; o_law; k_head; (case hw => w_witness2)
  k_fill
  refine L2.walk_of (l := PySem.Challenge.rw_nevernot_k17_surely) (n := 63) (k := 60) (x := "script") (CX := fun _ => L2.CX0) (sp := fun w => N1.liftSp _ 1 (K17.sem 60 .law)) rfl (by decide) rfl ⟨rfl, by decide, by decide⟩ (fun w h Y => PySem.W.kIn_of Y) ?F (fun _ _ a ns hl ho hS => N1.law_ok ho hS (K17.law_true 60 (by decide) ns hl)) (fun _ _ _ _ _ h => h)
  case F =>
    intro w mg fa h KX G hmg
    refine' K17.all_mk KX G hmg ?a0 ?l0 ?c0 ?k0 ?a1 ?l1 ?c1 ?k1 ?a2 ?l2 ?c2 ?k2 ?a3 ?l3 ?c3 ?k3 ?a4 ?l4 ?c4 ?k4 ?a5 ?l5 ?c5 ?k5 ?a6 ?l6 ?c6 ?k6 ?a7 ?l7 ?c7 ?k7 ?a8 ?l8 ?c8 ?k8 ?a9 ?l9 ?c9 ?k9 ?a10 ?l10 ?c10 ?k10 ?a11 ?l11 ?c11 ?k11 ?a12 ?l12 ?c12 ?k12 ?a13 ?l13 ?c13 ?k13 ?a14 ?l14 ?c14 ?k14 ?a15 ?l15 ?c15 ?k15 ?a16 ?l16 ?c16 ?k16 ?z_int ?z_len ?z_list ?z_max ?z_min ?z_range ?z_sorted ?z_str ?z_sum ?z_tuple
    (case a0 => k_is); (case l0 => k_is); (case c0 => k_is); (case k0 => k_is); (case a1 => k_is); (case l1 => k_is); (case c1 => k_is); (case k1 => k_is); (case a2 => k_is); (case l2 => k_is); (case c2 => k_is); (case k2 => k_is); (case a3 => k_is); (case l3 => k_is); (case c3 => k_is); (case k3 => k_is); (case a4 => k_is); (case l4 => k_is); (case c4 => k_is); (case k4 => k_is); (case a5 => k_is); (case l5 => k_is); (case c5 => k_is); (case k5 => k_is); (case a6 => k_is); (case l6 => k_is); (case c6 => k_is); (case k6 => k_is); (case a7 => k_is); (case l7 => k_is); (case c7 => k_is); (case k7 => k_is); (case a8 => k_is); (case l8 => k_is); (case c8 => k_is); (case k8 => k_is); (case a9 => k_is); (case l9 => k_is); (case c9 => k_is); (case k9 => k_is); (case a10 => k_is); (case l10 => k_is); (case c10 => k_is); (case k10 => k_is); (case a11 => k_is); (case l11 => k_is); (case c11 => k_is); (case k11 => k_is); (case a12 => k_is); (case l12 => k_is); (case c12 => k_is); (case k12 => k_is); (case a13 => k_is); (case l13 => k_is); (case c13 => k_is); (case k13 => k_is); (case a14 => k_is); (case l14 => k_is); (case c14 => k_is); (case k14 => k_is); (case a15 => k_is); (case l15 => k_is); (case c15 => k_is); (case k15 => k_is); (case a16 => k_is); (case l16 => k_is); (case c16 => k_is); (case k16 => k_is); (case z_int => k_is); (case z_len => k_is); (case z_list => k_is); (case z_max => k_is); (case z_min => k_is); (case z_range => k_is); (case z_sorted => k_is); (case z_str => k_is); (case z_sum => k_is); (case z_tuple => k_is)
