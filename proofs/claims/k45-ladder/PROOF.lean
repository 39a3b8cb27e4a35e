import PyProof.Rows.All
import Wide.All
import OpenK.AllK
import Wide.FinOn
import HandS.ForMost
import HandS.AnyAll
import HandS.TupAny
import HandS.Style
import HandS.Deep
import HandS.Conv
import HandS.Iter
import HandS.Zip
import HandS.Rev
import HandS.Text
import HandS.IsInst
import HandS.GenList
import HandS.Nested
import HandS.Defaults
import HandS.HeadHook4
import HandS.HeadWalk
import HandS.Head2
import HandS.SortRule
import PyProof.P3Eq
import KE.LtSeq
import KE.KSortTup
import KE.GoesEnum
import KE.DatumOrd
import HandS.SortKw
import PySem.Challenge.RW_nevernot_k45_count_ladder_serves
set_option Elab.async false
set_option linter.all false
set_option maxRecDepth 100000
namespace N1
open PySem PySem.Spec PyProof.Rows L2
/-- the written part, and the code objects' tables that may grow -/
structure Fg where
  K : PySem.W.Frag
  tl : List Addr
instance : Coe Fg PySem.W.Frag := ⟨Fg.K⟩
abbrev kz (Z : List Addr) (X : Cx) : Fg := ⟨X.K, Z⟩
variable {Z : List Addr}

/-! ### plain values, slots, tokens -/
inductive T where
  | non | bl (b : Bool) | int (i : Int) | str (x : Str) | tup (ts : List T) | lst (ts : List T) | lsk (ts : List T) | ty (n : String)
inductive Slot where
  | val (t : T) | own (ts : List T) | io (k : Nat) (ts : List T)
abbrev DSt := List (Option Slot)
/-- what an expression hands on: a value, the list that slot i holds, a new list that nobody else has -/
inductive Tok where
  | v (t : T) | s (i : Nat) | fr (ts : List T)
abbrev Ms := Addr → Prop

def slotAt : DSt → Nat → Option Slot
  | [], _ => none
  | x :: _, 0 => x
  | _ :: r, n + 1 => slotAt r n
def setSlot : DSt → Nat → Option Slot → DSt
  | [], _, _ => []
  | _ :: r, 0, y => y :: r
  | x :: r, n + 1, y => x :: setSlot r n y
theorem slotAt_iff : ∀ {τ : DSt} {i : Nat} {s : Slot}, slotAt τ i = some s ↔ τ[i]? = some (some s)
  | [], i, s => by simp [slotAt]
  | x :: r, 0, s => by simp [slotAt]
  | x :: r, n + 1, s => by simpa [slotAt] using slotAt_iff (τ := r) (i := n) (s := s)
theorem setSlot_eq : ∀ (τ : DSt) (i : Nat) (y : Option Slot), setSlot τ i y = τ.set i y
  | [], _, _ => rfl
  | _ :: _, 0, _ => rfl
  | x :: r, n + 1, y => by rw [setSlot, setSlot_eq r n y]; rfl

/-! ### a value lies in the heap -/
section
variable (K : Fg) (M : Ms) (H : Hp)
def KL (a : Addr) (xs : List V) : Prop :=
  ∃ (o : Obj) (its : Array Value) (n : Nat), K.K.lookup a = some o ∧ o.cls = .type "list" ∧ o.dict = none ∧ o.data = .seq its n ∧ its.size ≤ sizeLine ∧ Vals xs its.toList
/-- a list that nobody writes any more -/
def RdL (a : Addr) (vs : List V) : Prop := H a = some (.lst vs) ∧ ¬ M a
/-- a list that is locked (the script) or of the written part -/
def RdK (a : Addr) (vs : List V) : Prop := (∃ o, H a = some (.frz o (.lst vs))) ∨ KL K a vs
mutual
inductive VT : V → T → Prop
  | non : VT .non .non
  | bl (b : Bool) : VT (.bl b) (.bl b)
  | int (i : Int) : VT (.int i) (.int i)
  | str (x : Str) (h : PyData.strOk x = true) : VT (.str x) (.str x)
  | ty (n : String) : VT (.ty n) (.ty n)
  | tup {a : Addr} {vs : List V} {ts : List T} : SqT K H a vs → VTs vs ts → VT (.ref a) (.tup ts)
  | lst {a : Addr} {vs : List V} {ts : List T} : RdL M H a vs → VTs vs ts → VT (.ref a) (.lst ts)
  | lsk {a : Addr} {vs : List V} {ts : List T} : RdK K H a vs → VTs vs ts → VT (.ref a) (.lsk ts)
inductive VTs : List V → List T → Prop
  | nil : VTs [] []
  | cons {v : V} {vs : List V} {t : T} {ts : List T} : VT v t → VTs vs ts → VTs (v :: vs) (t :: ts)
end
end
theorem RdL.seq {K : Fg} {M : Ms} {H : Hp} {a : Addr} {vs : List V} (h : RdL M H a vs) : SqL K H a vs := .inl (.inl h.1)
theorem RdK.seq {K : Fg} {H : Hp} {a : Addr} {vs : List V} (h : RdK K H a vs) : SqL K H a vs := by
  rcases h with ⟨o, h⟩ | h
  · exact .inl (.inr ⟨o, h⟩)
  · exact .inr h

theorem tab_new {H : Hp} {p : Addr} {o : HO} (hp : H p = none) : ∀ P, GxR.TabG H P → GxR.TabG (upd H p o) P := fun P ⟨ps, e, t⟩ => ⟨ps, by rw [upd_ne (fun z => by rw [z, hp] at e; cases e)]; exact e, t⟩
theorem tab_set {H : Hp} {a : Addr} {xs : List V} {o : HO} (ha : H a = some (.lst xs)) : ∀ P, GxR.TabG H P → GxR.TabG (upd H a o) P := fun P ⟨ps, e, t⟩ => ⟨ps, by rw [upd_ne (fun z => by rw [z, ha] at e; cases e)]; exact e, t⟩
/-- what a step keeps: tuples, locked things, lists that nobody writes -/
structure Kp0 (M : Ms) (H : Hp) (M' : Ms) (H' : Hp) : Prop where
  tup : ∀ a xs, H a = some (.tup xs) → H' a = some (.tup xs)
  frz : ∀ a o u, H a = some (.frz o u) → H' a = some (.frz o u)
  lst : ∀ a xs, H a = some (.lst xs) → ¬ M a → H' a = some (.lst xs) ∧ ¬ M' a
  tab : ∀ P, GxR.TabG H P → GxR.TabG H' P
structure Kp (O M : Ms) (H : Hp) (M' : Ms) (H' : Hp) : Prop extends Kp0 M H M' H' where
  far : ∀ a, O a → H' a = H a
theorem Kp0.refl {M : Ms} {H : Hp} : Kp0 M H M H := ⟨fun _ _ h => h, fun _ _ _ h => h, fun _ _ h n => ⟨h, n⟩, fun _ h => h⟩
theorem Kp0.trans {M M1 M2 : Ms} {H H1 H2 : Hp} (a : Kp0 M H M1 H1) (b : Kp0 M1 H1 M2 H2) : Kp0 M H M2 H2 :=
  ⟨fun c xs h => b.tup c xs (a.tup c xs h), fun c o u h => b.frz c o u (a.frz c o u h), fun c xs h n => let ⟨h1, n1⟩ := a.lst c xs h n; b.lst c xs h1 n1, fun P h => b.tab P (a.tab P h)⟩
theorem Kp0.anti {M M1 M2 : Ms} {H H1 : Hp} (a : Kp0 M H M1 H1) (s : ∀ a, M2 a → M1 a) : Kp0 M H M2 H1 :=
  ⟨a.tup, a.frz, fun c xs h n => let ⟨h1, n1⟩ := a.lst c xs h n; ⟨h1, fun z => n1 (s c z)⟩, a.tab⟩
theorem Kp.refl {O M : Ms} {H : Hp} : Kp O M H M H := ⟨.refl, fun _ _ => rfl⟩
theorem Kp.trans {O M M1 M2 : Ms} {H H1 H2 : Hp} (a : Kp O M H M1 H1) (b : Kp O M1 H1 M2 H2) : Kp O M H M2 H2 :=
  ⟨a.toKp0.trans b.toKp0, fun c h => (b.far c h).trans (a.far c h)⟩
theorem Kp.anti {O M M1 M2 : Ms} {H H1 : Hp} (a : Kp O M H M1 H1) (s : ∀ a, M2 a → M1 a) : Kp O M H M2 H1 := ⟨a.toKp0.anti s, a.far⟩
theorem Kp0.of_anti {M M2 : Ms} {H : Hp} (s : ∀ a, M2 a → M a) : Kp0 M H M2 H := Kp0.refl.anti s
theorem Kp.of_anti {O M M2 : Ms} {H : Hp} (s : ∀ a, M2 a → M a) : Kp O M H M2 H := Kp.refl.anti s

section
variable {K : Fg} {M M' : Ms} {H H' : Hp}
theorem KpT.seq {a : Addr} {vs : List V} (k : Kp0 M H M' H') (h : SqT K H a vs) : SqT K H' a vs := by
  rcases h with (h | ⟨o, h⟩) | h
  · exact .inl (.inl (k.tup _ _ h))
  · exact .inl (.inr ⟨o, k.frz _ _ _ h⟩)
  · exact .inr h
theorem RdL.keep {a : Addr} {vs : List V} (k : Kp0 M H M' H') (h : RdL M H a vs) : RdL M' H' a vs := k.lst _ _ h.1 h.2
theorem RdK.keep {a : Addr} {vs : List V} (k : Kp0 M H M' H') (h : RdK K H a vs) : RdK K H' a vs := by
  rcases h with ⟨o, h⟩ | h
  · exact .inl ⟨o, k.frz _ _ _ h⟩
  · exact .inr h
mutual
theorem VT.keep (k : Kp0 M H M' H') : ∀ {v : V} {t : T}, VT K M H v t → VT K M' H' v t
  | _, _, .non => .non
  | _, _, .bl b => .bl b
  | _, _, .int i => .int i
  | _, _, .str x h => .str x h
  | _, _, .ty n => .ty n
  | _, _, .tup h hs => .tup (KpT.seq k h) (VTs.keep k hs)
  | _, _, .lst h hs => .lst (h.keep k) (VTs.keep k hs)
  | _, _, .lsk h hs => .lsk (h.keep k) (VTs.keep k hs)
theorem VTs.keep (k : Kp0 M H M' H') : ∀ {vs : List V} {ts : List T}, VTs K M H vs ts → VTs K M' H' vs ts
  | _, _, .nil => .nil
  | _, _, .cons h hs => .cons (VT.keep k h) (VTs.keep k hs)
end
theorem VTs.length : ∀ {vs : List V} {ts : List T}, VTs K M H vs ts → vs.length = ts.length
  | _, _, .nil => rfl
  | _, _, .cons _ h => congrArg (· + 1) h.length
theorem VTs.get : ∀ {vs : List V} {ts : List T} {i : Nat} {t : T}, VTs K M H vs ts → ts[i]? = some t → ∃ v, vs[i]? = some v ∧ VT K M H v t
  | _, _, _, _, .nil, e => by simp at e
  | _, _, 0, _, .cons h _, e => by
    have e := Option.some.inj (show some _ = some _ from e)
    exact ⟨_, rfl, e ▸ h⟩
  | _, _, i + 1, _, .cons _ h, e => by
    obtain ⟨v, h1, h2⟩ := VTs.get (i := i) h (by simpa using e)
    exact ⟨v, by simpa using h1, h2⟩
theorem VTs.getV : ∀ {vs : List V} {ts : List T} {i : Nat} {v : V}, VTs K M H vs ts → vs[i]? = some v → ∃ t, ts[i]? = some t ∧ VT K M H v t
  | _, _, _, _, .nil, e => by simp at e
  | _, _, 0, _, .cons h _, e => by
    have e := Option.some.inj (show some _ = some _ from e)
    exact ⟨_, rfl, e ▸ h⟩
  | _, _, i + 1, _, .cons _ h, e => by
    obtain ⟨v, h1, h2⟩ := VTs.getV (i := i) h (by simpa using e)
    exact ⟨v, by simpa using h1, h2⟩
theorem VTs.append : ∀ {vs ws : List V} {ts us : List T}, VTs K M H vs ts → VTs K M H ws us → VTs K M H (vs ++ ws) (ts ++ us)
  | _, _, _, _, .nil, h => h
  | _, _, _, _, .cons h hs, g => .cons h (hs.append g)
theorem VTs.set : ∀ {vs : List V} {ts : List T} (i : Nat) {v : V} {t : T}, VT K M H v t → VTs K M H vs ts → VTs K M H (vs.set i v) (ts.set i t)
  | _, _, _, _, _, _, .nil => .nil
  | _, _, 0, _, _, g, .cons _ hs => .cons g hs
  | _, _, i + 1, _, _, g, .cons h hs => .cons h (hs.set i g)
theorem VTs.take : ∀ {vs : List V} {ts : List T} (n : Nat), VTs K M H vs ts → VTs K M H (vs.take n) (ts.take n)
  | _, _, 0, _ => .nil
  | _, _, _ + 1, .nil => .nil
  | _, _, n + 1, .cons h hs => .cons h (hs.take n)
theorem VTs.drop : ∀ {vs : List V} {ts : List T} (n : Nat), VTs K M H vs ts → VTs K M H (vs.drop n) (ts.drop n)
  | _, _, 0, h => h
  | _, _, _ + 1, .nil => .nil
  | _, _, n + 1, .cons _ hs => hs.drop n
theorem VTs.reverse {vs : List V} {ts : List T} (h : VTs K M H vs ts) : VTs K M H vs.reverse ts.reverse := by
  match h with
  | .nil => exact .nil
  | .cons h g => rw [List.reverse_cons, List.reverse_cons]; exact (VTs.reverse g).append (.cons h .nil)
theorem VTs.nil_iff {vs : List V} {ts : List T} (h : VTs K M H vs ts) : vs = [] ↔ ts = [] := by
  cases h <;> simp
end

/-! ### the state of a frame -/
/-- the addresses that are being written: others' lists, this frame's, a new one -/
def Mu (O : Ms) (α : List (Option Addr)) (tmp : Option Addr) : Ms := fun a => O a ∨ (∃ i : Nat, α[i]? = some (some a)) ∨ tmp = some a
def SlotOk (K : Fg) (M : Ms) (io : List Addr) (H : Hp) (σ : L2.St) (α : List (Option Addr)) (i : Nat) : Slot → Prop
  | .val t => ∃ v, σ[i]? = some (some v) ∧ VT K M H v t
  | .own ts => ∃ a vs, α[i]? = some (some a) ∧ σ[i]? = some (some (.ref a)) ∧ H a = some (.lst vs) ∧ VTs K M H vs ts
  | .io k ts => ∃ a vs, io[k]? = some a ∧ α[i]? = some (some a) ∧ σ[i]? = some (some (.ref a)) ∧ H a = some (.lst vs) ∧ VTs K M H vs ts
structure Now (K : Fg) (O : Ms) (io : List Addr) (tmp : Option Addr) (α : List (Option Addr)) (τ : DSt) (σ : L2.St) (H : Hp) : Prop where
  lenT : τ.length = σ.length
  lenA : α.length = σ.length
  slot : ∀ (i : Nat) (s : Slot), τ[i]? = some (some s) → SlotOk K (Mu O α tmp) io H σ α i s
  nd : ∀ (i j : Nat) (a : Addr), α[i]? = some (some a) → α[j]? = some (some a) → i = j
  nO : ∀ (i : Nat) (a : Addr), α[i]? = some (some a) → ¬ O a
  tm : ∀ p, tmp = some p → ¬ O p ∧ ∀ i : Nat, α[i]? ≠ some (some p)
  tr : ∀ a, Mu O α none a → ∃ xs, H a = some (.lst xs)
  tb : ∀ P ∈ K.tl, GxR.TabG H P
def Res (K : Fg) (O : Ms) (α : List (Option Addr)) (tmp : Option Addr) (σ : L2.St) (H : Hp) (v : V) : Tok → Prop
  | .v t => tmp = none ∧ VT K (Mu O α none) H v t
  | .s i => tmp = none ∧ σ[i]? = some (some v)
  | .fr ts => ∃ p vs, tmp = some p ∧ v = .ref p ∧ H p = some (.lst vs) ∧ VTs K (Mu O α tmp) H vs ts

/-! ### the plain readings, and what they say of the layer below -/
abbrev DK := Tok → DSt → Prop
abbrev DE := DSt → DK → Prop
abbrev DT := DSt → (Bool → DSt → Prop) → Prop
abbrev DA := DSt → (List Tok → DSt → Prop) → Prop
structure DEnds where
  nx : DSt → Prop
  rt : DK
  bk : DSt → Prop := fun _ => False
  ct : DSt → Prop := fun _ => False
abbrev DS := DEnds → DSt → Prop

/-- from a state on, a plain wish leads to a wish of the layer below -/
def Lk (K : Fg) (O : Ms) (io : List Addr) (M : Ms) (H : Hp) (E : DSt → Prop) (D : L2.St → Hp → Prop) : Prop :=
  ∀ α' τ' σ' H', Now K O io none α' τ' σ' H' → Kp O M H (Mu O α' none) H' → E τ' → D σ' H'
def Rk (K : Fg) (O : Ms) (io : List Addr) (M : Ms) (H : Hp) (E : DK) (D : VK) : Prop :=
  ∀ v tk tmp α' τ' σ' H', Now K O io tmp α' τ' σ' H' → Kp O M H (Mu O α' tmp) H' → Res K O α' tmp σ' H' v tk → E tk τ' → D v H'
def liftE (K : Fg) (t : DE) : TE := fun σ H Q => ∃ (O : Ms) (io : List Addr) (α : List (Option Addr)) (τ : DSt) (R : DK), Now K O io none α τ σ H ∧ t τ R ∧
  ∀ v tk tmp α' τ' H', Now K O io tmp α' τ' σ H' → Kp O (Mu O α none) H (Mu O α' tmp) H' → Res K O α' tmp σ H' v tk → R tk τ' → Q v H'
def liftT (K : Fg) (t : DT) : TT := fun σ H Q => ∃ (O : Ms) (io : List Addr) (α : List (Option Addr)) (τ : DSt) (R : Bool → DSt → Prop), Now K O io none α τ σ H ∧ t τ R ∧
  ∀ b α' τ' H', Now K O io none α' τ' σ H' → Kp O (Mu O α none) H (Mu O α' none) H' → R b τ' → Q b H'
def liftS (K : Fg) (t : DS) : TS := fun D σ H => ∃ (O : Ms) (io : List Addr) (α : List (Option Addr)) (τ : DSt) (E : DEnds), Now K O io none α τ σ H ∧ t E τ ∧
  Lk K O io (Mu O α none) H E.nx D.nx ∧ Rk K O io (Mu O α none) H E.rt D.rt ∧ Lk K O io (Mu O α none) H E.bk D.bk ∧ Lk K O io (Mu O α none) H E.ct D.ct
/-- tokens of evaluated operands (new lists weakened to values) -/
def TokOk (K : Fg) (M : Ms) (σ : L2.St) (H : Hp) (v : V) : Tok → Prop
  | .v t => VT K M H v t
  | .s i => σ[i]? = some (some v)
  | .fr _ => False
def weak : Tok → Tok
  | .v t => .v t
  | .s i => .s i
  | .fr ts => .v (.lst ts)
inductive ToksOk (K : Fg) (M : Ms) (σ : L2.St) (H : Hp) : List V → List Tok → Prop
  | nil : ToksOk K M σ H [] []
  | cons {v : V} {vs : List V} {t : Tok} {ts : List Tok} : TokOk K M σ H v t → ToksOk K M σ H vs ts → ToksOk K M σ H (v :: vs) (t :: ts)
def liftA (K : Fg) (t : DA) : TA := fun σ H Q => ∃ (O : Ms) (io : List Addr) (α : List (Option Addr)) (τ : DSt) (R : List Tok → DSt → Prop), Now K O io none α τ σ H ∧ t τ R ∧
  ∀ vs tks α' τ' H', Now K O io none α' τ' σ H' → Kp O (Mu O α none) H (Mu O α' none) H' → ToksOk K (Mu O α' none) σ H' vs tks → R tks τ' → Q vs H'

abbrev QE (Z : List Addr) (X : Cx) (e : Expr) (t : DE) : Prop := PE X e (liftE (kz Z X) t)
abbrev QT (Z : List Addr) (X : Cx) (e : Expr) (t : DT) : Prop := PT X e (liftT (kz Z X) t)
abbrev QW (Z : List Addr) (X : Cx) (e : Expr) (t : DT) : Prop := PW X e (liftT (kz Z X) t)
abbrev QA (Z : List Addr) (X : Cx) (es : List Expr) (t : DA) : Prop := PA X es (liftA (kz Z X) t)
abbrev QS (Z : List Addr) (X : Cx) (st : Stmt) (t : DS) : Prop := PS X st (liftS (kz Z X) t)
abbrev QSs (Z : List Addr) (X : Cx) (st : List Stmt) (t : DS) : Prop := PSs X st (liftS (kz Z X) t)

section
variable {X : Cx}
theorem PEmono {e : Expr} {t t' : TE} (h : PE X e t) (m : ∀ σ H Q, t' σ H Q → t σ H Q) : PE X e t' := ⟨fun pins s σ H Q I q => h.run pins s σ H Q I (m σ H Q q)⟩
theorem PTmono {e : Expr} {t t' : TT} (h : PT X e t) (m : ∀ σ H Q, t' σ H Q → t σ H Q) : PT X e t' := ⟨fun pins s σ H Q I q => h.run pins s σ H Q I (m σ H Q q)⟩
theorem PWmono {e : Expr} {t t' : TT} (h : PW X e t) (m : ∀ σ H Q, t' σ H Q → t σ H Q) : PW X e t' := ⟨fun wh pins s σ H Q I q => h.run wh pins s σ H Q I (m σ H Q q)⟩
theorem PAmono {es : List Expr} {t t' : TA} (h : PA X es t) (m : ∀ σ H Q, t' σ H Q → t σ H Q) : PA X es t' := ⟨fun pos pins s σ H Q I q => h.run pos pins s σ H Q I (m σ H Q q)⟩
theorem PSmono {st : Stmt} {t t' : TS} (h : PS X st t) (m : ∀ D σ H, t' D σ H → t D σ H) : PS X st t' := ⟨fun pins s σ H D I q => h.run pins s σ H D I (m D σ H q)⟩
theorem PSsmono {st : List Stmt} {t t' : TS} (h : PSs X st t) (m : ∀ D σ H, t' D σ H → t D σ H) : PSs X st t' := ⟨fun pins s σ H D I q => h.run pins s σ H D I (m D σ H q)⟩
end

section
variable {K : Fg} {O : Ms} {io : List Addr} {tmp : Option Addr} {α α' : List (Option Addr)} {τ τ' : DSt} {σ : L2.St} {H H' : Hp} {M M' : Ms}
theorem Mu.weak : ∀ a, Mu O α none a → Mu O α tmp a := fun a h => by
  rcases h with h | h | h
  · exact .inl h
  · exact .inr (.inl h)
  · cases h
theorem SlotOk.keep {i : Nat} {s : Slot} (h : SlotOk K M io H σ α i s) (k : Kp0 M H M' H') (w : ∀ a vs, α[i]? = some (some a) → H a = some (.lst vs) → H' a = some (.lst vs)) : SlotOk K M' io H' σ α i s := by
  cases s with
  | val t => obtain ⟨v, e, h⟩ := h; exact ⟨v, e, h.keep k⟩
  | own ts => obtain ⟨a, vs, e1, e2, e3, h⟩ := h; exact ⟨a, vs, e1, e2, w a vs e1 e3, h.keep k⟩
  | io j ts => obtain ⟨a, vs, e0, e1, e2, e3, h⟩ := h; exact ⟨a, vs, e0, e1, e2, w a vs e1 e3, h.keep k⟩
/-- the heap has grown, or a foreign thing has changed: this frame's lists stand -/
theorem Now.keep {tmp' : Option Addr} (n : Now K O io tmp α τ σ H) (k : Kp0 (Mu O α tmp) H (Mu O α tmp') H') (w : ∀ a xs, Mu O α none a → H a = some (.lst xs) → H' a = some (.lst xs))
    (ht : ∀ p, tmp' = some p → ¬ O p ∧ ∀ i : Nat, α[i]? ≠ some (some p)) : Now K O io tmp' α τ σ H' :=
  ⟨n.lenT, n.lenA, fun i s e => (n.slot i s e).keep k fun a vs e1 e2 => w a vs (.inr (.inl ⟨i, e1⟩)) e2, n.nd, n.nO, ht, fun a h => by
    obtain ⟨xs, e⟩ := n.tr a h
    exact ⟨xs, w a xs h e⟩, fun P hP => k.tab P (n.tb P hP)⟩
theorem Now.drop (n : Now K O io tmp α τ σ H) : Now K O io none α τ σ H :=
  n.keep (.of_anti Mu.weak) (fun _ _ _ h => h) (fun _ z => by cases z)
/-- the result of an operand, kept as a value -/
theorem Res.tok {v : V} {tk : Tok} (n : Now K O io tmp α τ σ H) (k : Kp O M H' (Mu O α tmp) H) (r : Res K O α tmp σ H v tk) : Now K O io none α τ σ H ∧ Kp O M H' (Mu O α none) H ∧ TokOk K (Mu O α none) σ H v (weak tk) := by
  refine ⟨n.drop, k.anti Mu.weak, ?_⟩
  cases tk with
  | v t => exact r.2
  | s i => exact r.2
  | fr ts =>
    obtain ⟨p, vs, rfl, rfl, e, h⟩ := r
    refine .lst ⟨e, ?_⟩ (h.keep (.of_anti Mu.weak))
    obtain ⟨h1, h2⟩ := n.tm p rfl
    rintro (z | ⟨i, z⟩ | z)
    · exact h1 z
    · exact h2 i z
    · cases z
theorem TokOk.keep {v : V} {tk : Tok} (h : TokOk K M σ H v tk) (k : Kp0 M H M' H') : TokOk K M' σ H' v tk := by
  cases tk with
  | v t => exact VT.keep k h
  | s i => exact h
  | fr ts => exact h
theorem ToksOk.keep {vs : List V} {tks : List Tok} (h : ToksOk K M σ H vs tks) (k : Kp0 M H M' H') : ToksOk K M' σ H' vs tks := by
  induction h with
  | nil => exact .nil
  | cons h _ ih => exact .cons (h.keep k) ih

/-! ### a value as it stands now -/
def VC (K : Fg) (M : Ms) (H : Hp) (v : V) (t : T) : Prop := VT K M H v t ∨ ∃ a vs ts, v = .ref a ∧ t = .lst ts ∧ H a = some (.lst vs) ∧ VTs K M H vs ts
/-- what the token says now -/
def use (τ : DSt) (tk : Tok) (k : T → Prop) : Prop := match tk with
  | .v t => k t
  | .fr ts => k (.lst ts)
  | .s i => match slotAt τ i with
    | some (.val t) => k t
    | some (.own ts) => k (.lst ts)
    | some (.io _ ts) => k (.lst ts)
    | none => False
theorem use_ok {v : V} {tk : Tok} {k : T → Prop} (n : Now K O io none α τ σ H) (r : TokOk K (Mu O α none) σ H v tk) (h : use τ tk k) : ∃ t, VC K (Mu O α none) H v t ∧ k t := by
  cases tk with
  | v t => exact ⟨t, .inl r, h⟩
  | fr ts => exact r.elim
  | s i =>
    have r : σ[i]? = some (some v) := r
    unfold use at h
    dsimp only at h
    split at h
    · next t e =>
      obtain ⟨v', e2, q⟩ := n.slot i _ (slotAt_iff.mp e)
      rw [r] at e2
      cases e2
      exact ⟨t, .inl q, h⟩
    · next ts e =>
      obtain ⟨a, vs, e1, e2, e3, q⟩ := n.slot i _ (slotAt_iff.mp e)
      rw [r] at e2
      cases e2
      exact ⟨_, .inr ⟨a, vs, ts, rfl, rfl, e3, q⟩, h⟩
    · next j ts e =>
      obtain ⟨a, vs, _, e1, e2, e3, q⟩ := n.slot i _ (slotAt_iff.mp e)
      rw [r] at e2
      cases e2
      exact ⟨_, .inr ⟨a, vs, ts, rfl, rfl, e3, q⟩, h⟩
    · exact h.elim
/-- from now on nobody writes it -/
def froze (τ : DSt) (tk : Tok) (k : T → DSt → Prop) : Prop := match tk with
  | .v t => k t τ
  | .fr ts => k (.lst ts) τ
  | .s i => match slotAt τ i with
    | some (.val t) => k t τ
    | some (.own ts) => k (.lst ts) (setSlot τ i (some (.val (.lst ts))))
    | _ => False
theorem getα {α : List (Option Addr)} {i j : Nat} {y z : Option Addr} (h : (α.set i y)[j]? = some z) : (j = i ∧ z = y) ∨ (j ≠ i ∧ α[j]? = some z) := by
  by_cases e : j = i
  · subst e
    have hl : j < (α.set j y).length := (List.getElem?_eq_some_iff.mp h).1
    rw [List.length_set] at hl
    rw [List.getElem?_set_self hl] at h
    cases h
    exact .inl ⟨rfl, rfl⟩
  · rw [List.getElem?_set_ne (Ne.symm e)] at h
    exact .inr ⟨e, h⟩
theorem Mu.dropped {i : Nat} : ∀ a, Mu O (α.set i none) tmp a → Mu O α tmp a := fun a h => by
  rcases h with h | ⟨j, h⟩ | h
  · exact .inl h
  · rcases getα h with ⟨_, z⟩ | ⟨_, z⟩
    · cases z
    · exact .inr (.inl ⟨j, z⟩)
  · exact .inr (.inr h)
/-- slot i takes a plain value; σ' is σ but for slot i -/
theorem Now.setVal {σ' : L2.St} {i : Nat} {v : V} {t : T} (n : Now K O io none α τ σ H) (hl : σ'.length = σ.length) (hne : ∀ j : Nat, j ≠ i → σ'[j]? = σ[j]?) (hi : i < τ.length → σ'[i]? = some (some v)) (h : VT K (Mu O (α.set i none) none) H v t) :
    Now K O io none (α.set i none) (setSlot τ i (some (.val t))) σ' H := by
  rw [setSlot_eq]
  have k : Kp0 (Mu O α none) H (Mu O (α.set i none) none) H := .of_anti Mu.dropped
  refine ⟨by rw [List.length_set, hl]; exact n.lenT, by rw [List.length_set, hl]; exact n.lenA, fun j s e => ?_, fun j1 j2 a e1 e2 => ?_, fun j a e => ?_, fun p z => (by cases z), fun a h => n.tr a (Mu.dropped a h), n.tb⟩
  · by_cases hj : j = i
    · subst hj
      have hl : j < (τ.set j (some (Slot.val t))).length := (List.getElem?_eq_some_iff.mp e).1
      rw [List.length_set] at hl
      rw [List.getElem?_set_self hl] at e
      cases e
      exact ⟨v, hi hl, h⟩
    · rw [List.getElem?_set_ne (Ne.symm hj)] at e
      have q := n.slot j s e
      have ea : (α.set i none)[j]? = α[j]? := List.getElem?_set_ne (Ne.symm hj)
      cases s with
      | val t => obtain ⟨v, e, h⟩ := q; exact ⟨v, by rw [hne j hj]; exact e, h.keep k⟩
      | own ts => obtain ⟨a, vs, e1, e2, e3, h⟩ := q; exact ⟨a, vs, by rw [ea]; exact e1, by rw [hne j hj]; exact e2, e3, h.keep k⟩
      | io m ts => obtain ⟨a, vs, e0, e1, e2, e3, h⟩ := q; exact ⟨a, vs, e0, by rw [ea]; exact e1, by rw [hne j hj]; exact e2, e3, h.keep k⟩
  · rcases getα e1 with ⟨_, z⟩ | ⟨_, z1⟩
    · cases z
    · rcases getα e2 with ⟨_, z⟩ | ⟨_, z2⟩
      · cases z
      · exact n.nd j1 j2 a z1 z2
  · rcases getα e with ⟨_, z⟩ | ⟨_, z⟩
    · cases z
    · exact n.nO j a z
theorem froze_ok {v : V} {tk : Tok} {k : T → DSt → Prop} (n : Now K O io none α τ σ H) (r : TokOk K (Mu O α none) σ H v tk) (h : froze τ tk k) :
    ∃ t α' τ', Now K O io none α' τ' σ H ∧ (∀ a, Mu O α' none a → Mu O α none a) ∧ VT K (Mu O α' none) H v t ∧ k t τ' := by
  cases tk with
  | v t => exact ⟨t, α, τ, n, fun _ h => h, r, h⟩
  | fr ts => exact r.elim
  | s i =>
    have r : σ[i]? = some (some v) := r
    unfold froze at h
    dsimp only at h
    split at h
    · next t e =>
      obtain ⟨v', e2, q⟩ := n.slot i _ (slotAt_iff.mp e)
      rw [r] at e2
      cases e2
      exact ⟨t, α, τ, n, fun _ h => h, q, h⟩
    · next ts e =>
      obtain ⟨a, vs, e1, e2, e3, q⟩ := n.slot i _ (slotAt_iff.mp e)
      rw [r] at e2
      cases e2
      have w : ¬ Mu O (α.set i none) none a := by
        rintro (z | ⟨j, z⟩ | z)
        · exact n.nO i a e1 z
        · rcases getα z with ⟨_, z⟩ | ⟨z1, z⟩
          · cases z
          · exact z1 (n.nd j i a z e1)
        · cases z
      have hv : VT K (Mu O (α.set i none) none) H (.ref a) (.lst ts) := .lst ⟨e3, w⟩ (q.keep (.of_anti Mu.dropped))
      exact ⟨_, α.set i none, _, n.setVal rfl (fun _ _ => rfl) (fun _ => r) hv, Mu.dropped, hv, h⟩
    · exact h.elim
end
end N1
namespace N1
open PySem PySem.Spec PyProof.Rows L2
variable {Z : List Addr}

/-! ### equality of plain values -/
mutual
def T.eq : T → T → Bool
  | .non, .non => true
  | .bl a, .bl b => a == b
  | .bl a, .int j => (if a then 1 else 0) == j
  | .int i, .bl b => i == (if b then 1 else 0)
  | .int i, .int j => i == j
  | .str x, .str y => x == y
  | .tup xs, .tup ys => T.eqs xs ys
  | .lst xs, .lst ys => T.eqs xs ys
  | .lst xs, .lsk ys => T.eqs xs ys
  | .lsk xs, .lst ys => T.eqs xs ys
  | .lsk xs, .lsk ys => T.eqs xs ys
  | _, _ => false
def T.eqs : List T → List T → Bool
  | [], [] => true
  | x :: xs, y :: ys => T.eq x y && T.eqs xs ys
  | _, _ => false
end
mutual
def T.py : T → PyData
  | .non => .none
  | .bl b => .bool b
  | .int i => .int i
  | .str x => .str x
  | .tup ts => .tuple (T.pys ts)
  | .lst ts => .list (T.pys ts)
  | .lsk ts => .list (T.pys ts)
  | .ty _ => .none
def T.pys : List T → List PyData
  | [] => []
  | t :: ts => T.py t :: T.pys ts
end
/-- no classes within, at most n deep -/
def T.fit : Nat → T → Bool
  | _, .non => true
  | _, .bl _ => true
  | _, .int _ => true
  | _, .str _ => true
  | n + 1, .tup ts => ts.all (T.fit n)
  | n + 1, .lst ts => ts.all (T.fit n)
  | n + 1, .lsk ts => ts.all (T.fit n)
  | _, _ => false
theorem fitc {n : Nat} {t : T} {ts : List T} (h : (t :: ts).all (T.fit n) = true) : T.fit n t = true ∧ ts.all (T.fit n) = true := by
  rw [List.all_cons, Bool.and_eq_true] at h
  exact h
mutual
theorem T.py_depth : ∀ (t : T) (n : Nat), T.fit n t = true → (T.py t).depth ≤ n
  | .non, _, _ => Nat.zero_le _
  | .bl _, _, _ => Nat.zero_le _
  | .int _, _, _ => Nat.zero_le _
  | .str _, _, _ => Nat.zero_le _
  | .ty _, n, h => by cases n <;> simp [T.fit] at h
  | .tup ts, 0, h => by simp [T.fit] at h
  | .lst ts, 0, h => by simp [T.fit] at h
  | .lsk ts, 0, h => by simp [T.fit] at h
  | .tup ts, n + 1, h => Nat.succ_le_succ (T.pys_depth ts n h)
  | .lst ts, n + 1, h => Nat.succ_le_succ (T.pys_depth ts n h)
  | .lsk ts, n + 1, h => Nat.succ_le_succ (T.pys_depth ts n h)
theorem T.pys_depth : ∀ (ts : List T) (n : Nat), ts.all (T.fit n) = true → PyData.depthAll (T.pys ts) ≤ n
  | [], _, _ => Nat.zero_le _
  | t :: ts, n, h => Nat.max_le.mpr ⟨T.py_depth t n (fitc h).1, T.pys_depth ts n (fitc h).2⟩
end
mutual
theorem T.eqv : ∀ (a b : T) (n m : Nat), T.fit n a = true → T.fit m b = true → PyData.eqv (T.py a) (T.py b) = T.eq a b
  | .non, b, n, m, h, g => by cases b <;> cases m <;> first | rfl | simp [T.fit] at g
  | .bl a, b, n, m, h, g => by cases b <;> cases m <;> first | rfl | simp [T.fit] at g
  | .int i, b, n, m, h, g => by cases b <;> cases m <;> first | rfl | simp [T.fit] at g
  | .str x, b, n, m, h, g => by cases b <;> cases m <;> first | rfl | simp [T.fit] at g
  | .ty _, _, n, _, h, _ => by cases n <;> simp [T.fit] at h
  | .tup xs, b, 0, _, h, _ => by simp [T.fit] at h
  | .lst xs, b, 0, _, h, _ => by simp [T.fit] at h
  | .lsk xs, b, 0, _, h, _ => by simp [T.fit] at h
  | .tup xs, b, n + 1, m, h, g => by
    cases b with
    | tup ys => cases m with
      | zero => simp [T.fit] at g
      | succ m => exact T.eqvs xs ys n m h g
    | ty _ => cases m <;> simp [T.fit] at g
    | _ => rfl
  | .lst xs, b, n + 1, m, h, g => by
    cases b with
    | lst ys => cases m with
      | zero => simp [T.fit] at g
      | succ m => exact T.eqvs xs ys n m h g
    | lsk ys => cases m with
      | zero => simp [T.fit] at g
      | succ m => exact T.eqvs xs ys n m h g
    | ty _ => cases m <;> simp [T.fit] at g
    | _ => rfl
  | .lsk xs, b, n + 1, m, h, g => by
    cases b with
    | lst ys => cases m with
      | zero => simp [T.fit] at g
      | succ m => exact T.eqvs xs ys n m h g
    | lsk ys => cases m with
      | zero => simp [T.fit] at g
      | succ m => exact T.eqvs xs ys n m h g
    | ty _ => cases m <;> simp [T.fit] at g
    | _ => rfl
theorem T.eqvs : ∀ (xs ys : List T) (n m : Nat), xs.all (T.fit n) = true → ys.all (T.fit m) = true → PyData.eqvAll (T.pys xs) (T.pys ys) = T.eqs xs ys
  | [], [], _, _, _, _ => rfl
  | [], _ :: _, _, _, _, _ => rfl
  | _ :: _, [], _, _, _, _ => rfl
  | x :: xs, y :: ys, n, m, h, g => by
    show (PyData.eqv (T.py x) (T.py y) && PyData.eqvAll (T.pys xs) (T.pys ys)) = (T.eq x y && T.eqs xs ys)
    rw [T.eqv x y n m (fitc h).1 (fitc g).1, T.eqvs xs ys n m (fitc h).2 (fitc g).2]
end
theorem pys_any (d : T) (n : Nat) (hd : T.fit n d = true) : ∀ (ts : List T) (m : Nat), ts.all (T.fit m) = true → (T.pys ts).any (fun z => PyData.eqv z (T.py d)) = ts.any fun z => T.eq z d
  | [], _, _ => rfl
  | t :: ts, m, h => by
    show (PyData.eqv (T.py t) (T.py d) || (T.pys ts).any _) = (T.eq t d || ts.any _)
    rw [T.eqv t d m n (fitc h).1 hd, pys_any d n hd ts m (fitc h).2]

section
variable {K : Fg} {M : Ms} {H : Hp}
mutual
theorem VT.dp : ∀ {v : V} {t : T} {n : Nat}, VT K M H v t → T.fit n t = true → Dp K H v (T.py t) ∧ (T.py t).canLay0 = true
  | _, _, _, .non, _ => ⟨.non, rfl⟩
  | _, _, _, .bl b, _ => ⟨.bl b, rfl⟩
  | _, _, _, .int i, _ => ⟨.int i, rfl⟩
  | _, _, _, .str x h, _ => ⟨.str x, h⟩
  | _, _, n, .ty _, h => by cases n <;> simp [T.fit] at h
  | _, _, 0, .tup _ _, h => by simp [T.fit] at h
  | _, _, 0, .lst _ _, h => by simp [T.fit] at h
  | _, _, 0, .lsk _ _, h => by simp [T.fit] at h
  | _, _, n + 1, .tup h hs, g => ⟨.tup h (VTs.dps hs g).1, (VTs.dps hs g).2⟩
  | _, _, n + 1, .lst h hs, g => ⟨.lst h.seq (VTs.dps hs g).1, (VTs.dps hs g).2⟩
  | _, _, n + 1, .lsk h hs, g => ⟨.lst h.seq (VTs.dps hs g).1, (VTs.dps hs g).2⟩
theorem VTs.dps : ∀ {vs : List V} {ts : List T} {n : Nat}, VTs K M H vs ts → ts.all (T.fit n) = true → DpAll K H vs (T.pys ts) ∧ PyData.canLayAll0 (T.pys ts) = true
  | _, _, _, .nil, _ => ⟨.nil, rfl⟩
  | _, _, _, .cons h hs, g => ⟨.cons (VT.dp h (fitc g).1).1 (VTs.dps hs (fitc g).2).1, by
    show (PyData.canLay0 _ && PyData.canLayAll0 _) = true
    rw [(VT.dp h (fitc g).1).2, (VTs.dps hs (fitc g).2).2]
    rfl⟩
end
theorem VC.dp {v : V} {t : T} {n : Nat} (h : VC K M H v t) (g : T.fit n t = true) : Dp K H v (T.py t) ∧ (T.py t).canLay0 = true := by
  rcases h with h | ⟨a, vs, ts, rfl, rfl, e, hs⟩
  · exact h.dp g
  · cases n with
    | zero => simp [T.fit] at g
    | succ n => exact ⟨.lst (.inl (.inl e)) (hs.dps g).1, (hs.dps g).2⟩
theorem VC.shaped {v : V} {t : T} (h : VC K M H v t) (g : T.fit 60 t = true) : SeqAt.shaped (T.py t) = true := by
  unfold SeqAt.shaped
  rw [(h.dp g).2, Bool.true_and]
  exact decide_eq_true (Nat.le_trans (T.py_depth t 60 g) (by decide))
end

/-! ### what an operation leaves -/
def ResQ (K : Fg) (O : Ms) (io : List Addr) (α : List (Option Addr)) (τ : DSt) (σ : L2.St) (H : Hp) (k : Tok → Prop) : VK := fun z H' =>
  ∃ tk tmp, Now K O io tmp α τ σ H' ∧ Kp O (Mu O α none) H (Mu O α tmp) H' ∧ Res K O α tmp σ H' z tk ∧ k tk
section
variable {K : Fg} {O : Ms} {io : List Addr} {α : List (Option Addr)} {τ : DSt} {σ : L2.St} {H : Hp} {k : Tok → Prop}
theorem ResQ.val {z : V} {t : T} (n : Now K O io none α τ σ H) (h : VT K (Mu O α none) H z t) (q : k (.v t)) : ResQ K O io α τ σ H k z H := ⟨.v t, none, n, .refl, ⟨rfl, h⟩, q⟩
theorem kp_new {tmp : Option Addr} {p : Addr} (n : Now K O io none α τ σ H) (hp : H p = none) (o : HO) (ht : tmp = none ∨ tmp = some p) : Kp O (Mu O α none) H (Mu O α tmp) (upd H p o) := by
  refine ⟨⟨fun a xs e => ?_, fun a ob u e => ?_, fun a xs e m => ⟨?_, ?_⟩, tab_new hp⟩, fun a h => ?_⟩
  · rw [upd_ne (ne_of_none e hp)]; exact e
  · rw [upd_ne (ne_of_none e hp)]; exact e
  · rw [upd_ne (ne_of_none e hp)]; exact e
  · rintro (z | z | z)
    · exact m (.inl z)
    · exact m (.inr (.inl z))
    · rcases ht with rfl | rfl
      · cases z
      · cases z
        rw [hp] at e
        cases e
  · obtain ⟨xs, e⟩ := n.tr a (.inl h)
    rw [upd_ne (ne_of_none e hp)]
theorem now_new {tmp : Option Addr} {p : Addr} (n : Now K O io none α τ σ H) (hp : H p = none) (o : HO) (ht : tmp = none ∨ tmp = some p) : Now K O io tmp α τ σ (upd H p o) := by
  refine n.keep (kp_new n hp o ht).toKp0 (fun a xs _ e => by rw [upd_ne (ne_of_none e hp)]; exact e) fun q e => ?_
  rcases ht with rfl | rfl
  · cases e
  · cases e
    refine ⟨fun z => ?_, fun i z => ?_⟩
    · obtain ⟨xs, e⟩ := n.tr p (.inl z)
      rw [hp] at e
      cases e
    · obtain ⟨xs, e⟩ := n.tr p (.inr (.inl ⟨i, z⟩))
      rw [hp] at e
      cases e
theorem ResQ.tup {vs : List V} {ts : List T} (n : Now K O io none α τ σ H) (h : VTs K (Mu O α none) H vs ts) (q : k (.v (.tup ts))) : ∀ p, H p = none → ResQ K O io α τ σ H k (.ref p) (upd H p (.tup vs)) := fun p hp =>
  have kp := kp_new n hp (.tup vs) (.inl rfl)
  ⟨.v (.tup ts), none, now_new n hp _ (.inl rfl), kp, ⟨rfl, .tup (SqT.of upd_same) (h.keep kp.toKp0)⟩, q⟩
theorem ResQ.lst {vs : List V} {ts : List T} (n : Now K O io none α τ σ H) (h : VTs K (Mu O α none) H vs ts) (q : k (.fr ts)) : ∀ p, H p = none → ResQ K O io α τ σ H k (.ref p) (upd H p (.lst vs)) := fun p hp =>
  have kp := kp_new n hp (.lst vs) (.inr rfl)
  ⟨.fr ts, some p, now_new n hp _ (.inr rfl), kp, ⟨p, vs, rfl, rfl, upd_same, h.keep kp.toKp0⟩, q⟩
end
/-- an operation on two values, by plain values -/
def OpD (Z : List Addr) (X : Cx) (f : Value → Value → Sem Value) (r : T → T → (Tok → Prop) → Prop) : Prop :=
  ∀ (pins : List (Addr × Obj)) (s : Shared) (σ : L2.St) (H : Hp) (x y : V) (v u : Value) (O : Ms) (io : List Addr) (α : List (Option Addr)) (τ : DSt) (ρ : L2.St) (a b : T) (k : Tok → Prop),
    Inv X pins σ H s → Now (kz Z X) O io none α τ ρ H → RelV x v → RelV y u → VC (kz Z X) (Mu O α none) H x a → VC (kz Z X) (Mu O α none) H y b → r a b k →
    wpAny (model X.prog X.w) X.A (f v u) (EP X pins σ (ResQ (kz Z X) O io α τ ρ H k)) X.xe s
/-! what stands at a list or a tuple now -/
section
variable {K : Fg} {M : Ms} {H : Hp} {v : V}
theorem VC.tup {ts : List T} (h : VC K M H v (.tup ts)) : ∃ a vs, v = .ref a ∧ SqT K H a vs ∧ VTs K M H vs ts := by
  rcases h with h | ⟨_, _, _, _, e, _⟩
  · cases h with
    | tup h hs => exact ⟨_, _, rfl, h, hs⟩
  · cases e
theorem VC.lst {ts : List T} (h : VC K M H v (.lst ts)) : ∃ a vs, v = .ref a ∧ H a = some (.lst vs) ∧ VTs K M H vs ts := by
  rcases h with h | ⟨a, vs, us, e1, e, e2, hs⟩
  · cases h with
    | lst h hs => exact ⟨_, _, rfl, h.1, hs⟩
  · cases e
    exact ⟨a, vs, e1, e2, hs⟩
theorem VC.lsk {ts : List T} (h : VC K M H v (.lsk ts)) : ∃ a vs, v = .ref a ∧ SqL K H a vs ∧ VTs K M H vs ts := by
  rcases h with h | ⟨_, _, _, _, e, _⟩
  · cases h with
    | lsk h hs => exact ⟨_, _, rfl, h.seq, hs⟩
  · cases e
theorem VC.int {i : Int} (h : VC K M H v (.int i)) : v = .int i := by
  rcases h with h | ⟨_, _, _, _, e, _⟩
  · cases h; rfl
  · cases e
theorem VC.bl {i : Bool} (h : VC K M H v (.bl i)) : v = .bl i := by
  rcases h with h | ⟨_, _, _, _, e, _⟩
  · cases h; rfl
  · cases e
theorem VC.str {i : Str} (h : VC K M H v (.str i)) : v = .str i ∧ PyData.strOk i = true := by
  rcases h with h | ⟨_, _, _, _, e, _⟩
  · cases h with
    | str _ h => exact ⟨rfl, h⟩
  · cases e
theorem VC.non (h : VC K M H v .non) : v = .non := by
  rcases h with h | ⟨_, _, _, _, e, _⟩
  · cases h; rfl
  · cases e
end
theorem strOk_append {x y : Str} (h : PyData.strOk x = true) (g : PyData.strOk y = true) : PyData.strOk (x ++ y) = true := by
  unfold PyData.strOk at *
  show (x.cps ++ y.cps).all _ = true
  rw [Array.all_append, h, g]
  rfl

/-! ### the operators -/
def opAdd : T → T → (Tok → Prop) → Prop
  | .int i, .int j, k => k (.v (.int (i + j)))
  | .str x, .str y, k => x.length + y.length ≤ sizeLine ∧ k (.v (.str (x ++ y)))
  | .tup xs, .tup ys, k => xs.length + ys.length ≤ sizeLine ∧ k (.v (.tup (xs ++ ys)))
  | .lst xs, .lst ys, k => xs.length + ys.length ≤ sizeLine ∧ k (.fr (xs ++ ys))
  | _, _, _ => False
def opSub : T → T → (Tok → Prop) → Prop
  | .int i, .int j, k => k (.v (.int (i - j)))
  | _, _, _ => False
def opMul : T → T → (Tok → Prop) → Prop
  | .int i, .int j, k => CMul i j ∧ k (.v (.int (i * j)))
  | .lst ts, .int j, k => (-(2 ^ 63) ≤ j ∧ j < 2 ^ 63 ∧ ts.length * j.toNat ≤ sizeLine) ∧ k (.fr (List.replicate j.toNat ts).flatten)
  | _, _, _ => False
def opMod : T → T → (Tok → Prop) → Prop
  | .int i, .int j, k => 0 < j ∧ k (.v (.int (i % j)))
  | _, _, _ => False
def opFdiv : T → T → (Tok → Prop) → Prop
  | .int i, .int j, k => CDiv i j ∧ k (.v (.int (i / j)))
  | _, _, _ => False
def opPow : T → T → (Tok → Prop) → Prop
  | .int i, .int j, k => CPow i j ∧ k (.v (.int (i ^ j.toNat)))
  | _, _, _ => False
def opBand : T → T → (Tok → Prop) → Prop
  | .int i, .int j, k => k (.v (.int (Builtin.bitAnd i j)))
  | _, _, _ => False
def opBor : T → T → (Tok → Prop) → Prop
  | .int i, .int j, k => k (.v (.int (Builtin.bitOr i j)))
  | _, _, _ => False
section
variable {X : Cx}
theorem opd_add : OpD Z X (binaryOp .Add) opAdd := by
  intro pins s σ H x y v u O io α τ ρ a b k I n rx ry ha hb h
  cases a <;> cases b <;> first | exact h.elim | skip
  · cases ha.int; cases hb.int
    exact op_add pins s σ H _ _ v u _ I rx ry ⟨_, _, rfl, rfl, .val n (.int _) h⟩
  · obtain ⟨rfl, o1⟩ := ha.str
    obtain ⟨rfl, o2⟩ := hb.str
    obtain ⟨h1, h2⟩ := h
    exact op_add_str pins s σ H _ _ v u _ I rx ry ⟨_, _, rfl, rfl, h1, .val n (.str _ (strOk_append o1 o2)) h2⟩
  · obtain ⟨a, vs, rfl, e, hs⟩ := ha.tup
    obtain ⟨b, ws, rfl, e2, hs2⟩ := hb.tup
    obtain ⟨h1, h2⟩ := h
    refine op_catA pins s σ H _ _ v u _ I rx ry ⟨_, _, vs, ws, rfl, rfl, e, e2, by rw [hs.length, hs2.length]; exact h1, fun z => ?_, fun _ z => ?_, fun _ _ => ResQ.tup n (hs.append hs2) h2⟩
    · subst z
      cases hs
      exact .val n (.tup e2 hs2) h2
    · subst z
      cases hs2
      rw [List.append_nil] at h2
      exact .val n (.tup e hs) h2
  · obtain ⟨a, vs, rfl, e, hs⟩ := ha.lst
    obtain ⟨b, ws, rfl, e2, hs2⟩ := hb.lst
    obtain ⟨h1, h2⟩ := h
    exact op_cat pins s σ H _ _ v u _ I rx ry ⟨_, _, vs, ws, rfl, rfl, e, e2, by rw [hs.length, hs2.length]; exact h1, ResQ.lst n (hs.append hs2) h2⟩
theorem opd_sub : OpD Z X (binaryOp .Sub) opSub := by
  intro pins s σ H x y v u O io α τ ρ a b k I n rx ry ha hb h
  cases a <;> cases b <;> first | exact h.elim | skip
  cases ha.int; cases hb.int
  exact op_sub pins s σ H _ _ v u _ I rx ry ⟨_, _, rfl, rfl, .val n (.int _) h⟩
theorem VTs.rep {K : Fg} {M : Ms} {H : Hp} {vs : List V} {ts : List T} (h : VTs K M H vs ts) : ∀ k : Nat, VTs K M H (List.replicate k vs).flatten (List.replicate k ts).flatten
  | 0 => .nil
  | k + 1 => by
    rw [List.replicate_succ, List.replicate_succ, List.flatten_cons, List.flatten_cons]
    exact h.append (VTs.rep h k)
theorem opd_mul : OpD Z X (binaryOp .Mult) opMul := by
  intro pins s σ H x y v u O io α τ ρ a b k I n rx ry ha hb h
  cases a <;> cases b <;> first | exact h.elim | skip
  · cases ha.int; cases hb.int
    exact op_mul pins s σ H _ _ v u _ I rx ry ⟨_, _, rfl, rfl, h.1, .val n (.int _) h.2⟩
  · cases hb.int
    obtain ⟨p, vs, rfl, e, hs⟩ := ha.lst
    obtain ⟨⟨h1, h2, h3⟩, h⟩ := h
    exact op_rep pins s σ H _ _ v u _ I rx ry ⟨_, _, _, rfl, rfl, e, h1, h2, by rw [hs.length]; exact h3, ResQ.lst n (hs.rep _) h⟩
theorem opd_mod : OpD Z X (binaryOp .Mod) opMod := by
  intro pins s σ H x y v u O io α τ ρ a b k I n rx ry ha hb h
  cases a <;> cases b <;> first | exact h.elim | skip
  cases ha.int; cases hb.int
  exact op_mod pins s σ H _ _ v u _ I rx ry ⟨_, _, rfl, rfl, h.1, .val n (.int _) h.2⟩
theorem opd_fdiv : OpD Z X (binaryOp .FloorDiv) opFdiv := by
  intro pins s σ H x y v u O io α τ ρ a b k I n rx ry ha hb h
  cases a <;> cases b <;> first | exact h.elim | skip
  cases ha.int; cases hb.int
  exact op_fdiv pins s σ H _ _ v u _ I rx ry ⟨_, _, rfl, rfl, h.1, .val n (.int _) h.2⟩
theorem opd_pow : OpD Z X (binaryOp .Pow) opPow := by
  intro pins s σ H x y v u O io α τ ρ a b k I n rx ry ha hb h
  cases a <;> cases b <;> first | exact h.elim | skip
  cases ha.int; cases hb.int
  exact op_pow pins s σ H _ _ v u _ I rx ry ⟨_, _, rfl, rfl, h.1, .val n (.int _) h.2⟩
theorem opd_band : OpD Z X (binaryOp .BitAnd) opBand := by
  intro pins s σ H x y v u O io α τ ρ a b k I n rx ry ha hb h
  cases a <;> cases b <;> first | exact h.elim | skip
  cases ha.int; cases hb.int
  exact op_and pins s σ H _ _ v u _ I rx ry ⟨_, _, rfl, rfl, .val n (.int _) h⟩
theorem opd_bor : OpD Z X (binaryOp .BitOr) opBor := by
  intro pins s σ H x y v u O io α τ ρ a b k I n rx ry ha hb h
  cases a <;> cases b <;> first | exact h.elim | skip
  cases ha.int; cases hb.int
  exact op_or pins s σ H _ _ v u _ I rx ry ⟨_, _, rfl, rfl, .val n (.int _) h⟩
end

/-! ### comparisons -/
/-- a pair that a comparison compares at once -/
def scalT : T → T → Option Bool
  | .int i, .int j => some (decide (i = j))
  | .str x, .str y => some (decide (x = y))
  | .bl a, .bl b => some (decide (a = b))
  | _, _ => none
def opEq (a b : T) (k : Tok → Prop) : Prop := match scalT a b with
  | some c => k (.v (.bl c))
  | none => T.fit 60 a = true ∧ T.fit 60 b = true ∧ k (.v (.bl (T.eq a b)))
def opNe (a b : T) (k : Tok → Prop) : Prop := match scalT a b with
  | some c => k (.v (.bl !c))
  | none => T.fit 60 a = true ∧ T.fit 60 b = true ∧ k (.v (.bl !(T.eq a b)))
def opLt : T → T → (Tok → Prop) → Prop
  | .int i, .int j, k => k (.v (.bl (decide (i < j))))
  | .str i, .str j, k => k (.v (.bl (decide (i.cps.toList < j.cps.toList))))
  | _, _, _ => False
def opLe : T → T → (Tok → Prop) → Prop
  | .int i, .int j, k => k (.v (.bl (decide (i ≤ j))))
  | _, _, _ => False
def opGt : T → T → (Tok → Prop) → Prop
  | .int i, .int j, k => k (.v (.bl (decide (j < i))))
  | _, _, _ => False
def opGe : T → T → (Tok → Prop) → Prop
  | .int i, .int j, k => k (.v (.bl (decide (j ≤ i))))
  | _, _, _ => False
def T.isNon : T → Bool
  | .non => true
  | _ => false
/-- is None; is True, is False of a bool -/
def isT : T → T → Option Bool
  | a, .non => some a.isNon
  | .bl a, .bl b => some (decide (a = b))
  | _, _ => none
def opIs (a b : T) (k : Tok → Prop) : Prop := match isT a b with
  | some c => k (.v (.bl c))
  | none => False
def opIsNot (a b : T) (k : Tok → Prop) : Prop := match isT a b with
  | some c => k (.v (.bl !c))
  | none => False
def itemsOf : T → Option (List T)
  | .tup ts => some ts
  | .lst ts => some ts
  | .lsk ts => some ts
  | _ => none
def T.has (x : T) (ts : List T) : Bool := ts.any fun z => T.eq z x
def opIn (x c : T) (k : Tok → Prop) : Prop := match c with
  | .tup ts => T.fit 60 x = true ∧ ts.all (T.fit 60) = true ∧ k (.v (.bl (T.has x ts)))
  | .lst ts => T.fit 60 x = true ∧ ts.all (T.fit 60) = true ∧ k (.v (.bl (T.has x ts)))
  | .lsk ts => T.fit 60 x = true ∧ ts.all (T.fit 60) = true ∧ k (.v (.bl (T.has x ts)))
  | .str y => match x with
    | .str z => k (.v (.bl (!(Builtin.Str.occurrences y z 0 y.length 1).isEmpty)))
    | _ => False
  | _ => False
def opNotIn (x c : T) (k : Tok → Prop) : Prop := opIn x c fun tk => match tk with
  | .v (.bl b) => k (.v (.bl !b))
  | _ => False
theorem decV {a b : V} {p : Prop} [Decidable p] (h : a = b ↔ p) : decide (a = b) = decide p := decide_eq_decide.mpr h
theorem decI (i j : Int) : decide (V.int i = V.int j) = decide (i = j) := decV ⟨V.int.inj, congrArg _⟩
theorem decS (i j : Str) : decide (V.str i = V.str j) = decide (i = j) := decV ⟨V.str.inj, congrArg _⟩
theorem decB (i j : Bool) : decide (V.bl i = V.bl j) = decide (i = j) := decV ⟨V.bl.inj, congrArg _⟩
section
variable {X : Cx}
theorem opd_eq (hu : X.A.units + 64 < cLine) : OpD Z X (compareOp .Eq) opEq := by
  intro pins s σ H x y v u O io α τ ρ a b k I n rx ry ha hb h
  unfold opEq at h
  split at h
  · next c e =>
    unfold scalT at e
    split at e <;> try contradiction
    · cases ha.int; cases hb.int
      cases e
      exact op_eq pins s σ H _ _ v u _ I rx ry ⟨rfl, .val n (.bl _) (by rw [decI]; exact h)⟩
    · obtain ⟨rfl, o1⟩ := ha.str
      obtain ⟨rfl, o2⟩ := hb.str
      cases e
      exact op_eq pins s σ H _ _ v u _ I rx ry ⟨rfl, .val n (.bl _) (by rw [decS]; exact h)⟩
    · cases ha.bl; cases hb.bl
      cases e
      exact op_eq pins s σ H _ _ v u _ I rx ry ⟨rfl, .val n (.bl _) (by rw [decB]; exact h)⟩
  · obtain ⟨h1, h2, h⟩ := h
    refine op_eqD hu pins s σ H _ _ v u _ I rx ry ⟨_, _, (ha.dp h1).1, (hb.dp h2).1, ha.shaped h1, hb.shaped h2, .val n (.bl _) ?_⟩
    rw [T.eqv a b 60 60 h1 h2]
    exact h
theorem opd_ne (hu : X.A.units + 64 < cLine) : OpD Z X (compareOp .NotEq) opNe := by
  intro pins s σ H x y v u O io α τ ρ a b k I n rx ry ha hb h
  unfold opNe at h
  split at h
  · next c e =>
    unfold scalT at e
    split at e <;> try contradiction
    · cases ha.int; cases hb.int
      cases e
      exact op_ne pins s σ H _ _ v u _ I rx ry ⟨rfl, .val n (.bl _) (by rw [decI]; exact h)⟩
    · obtain ⟨rfl, o1⟩ := ha.str
      obtain ⟨rfl, o2⟩ := hb.str
      cases e
      exact op_ne pins s σ H _ _ v u _ I rx ry ⟨rfl, .val n (.bl _) (by rw [decS]; exact h)⟩
    · cases ha.bl; cases hb.bl
      cases e
      exact op_ne pins s σ H _ _ v u _ I rx ry ⟨rfl, .val n (.bl _) (by rw [decB]; exact h)⟩
  · obtain ⟨h1, h2, h⟩ := h
    refine op_neD hu pins s σ H _ _ v u _ I rx ry ⟨_, _, (ha.dp h1).1, (hb.dp h2).1, ha.shaped h1, hb.shaped h2, .val n (.bl _) ?_⟩
    rw [T.eqv a b 60 60 h1 h2]
    exact h
theorem opd_lt : OpD Z X (compareOp .Lt) opLt := by
  intro pins s σ H x y v u O io α τ ρ a b k I n rx ry ha hb h
  cases a <;> cases b <;> first | exact h.elim | skip
  · cases ha.int; cases hb.int
    exact op_lt pins s σ H _ _ v u _ I rx ry ⟨_, _, rfl, rfl, .val n (.bl _) h⟩
  · obtain ⟨rfl, o1⟩ := ha.str
    obtain ⟨rfl, o2⟩ := hb.str
    exact op_lt_str pins s σ H _ _ v u _ I rx ry ⟨_, _, rfl, rfl, .val n (.bl _) h⟩
theorem opd_le : OpD Z X (compareOp .LtE) opLe := by
  intro pins s σ H x y v u O io α τ ρ a b k I n rx ry ha hb h
  cases a <;> cases b <;> first | exact h.elim | skip
  cases ha.int; cases hb.int
  exact op_le pins s σ H _ _ v u _ I rx ry ⟨_, _, rfl, rfl, .val n (.bl _) h⟩
theorem opd_gt : OpD Z X (compareOp .Gt) opGt := by
  intro pins s σ H x y v u O io α τ ρ a b k I n rx ry ha hb h
  cases a <;> cases b <;> first | exact h.elim | skip
  cases ha.int; cases hb.int
  exact op_gt pins s σ H _ _ v u _ I rx ry ⟨_, _, rfl, rfl, .val n (.bl _) h⟩
theorem opd_ge : OpD Z X (compareOp .GtE) opGe := by
  intro pins s σ H x y v u O io α τ ρ a b k I n rx ry ha hb h
  cases a <;> cases b <;> first | exact h.elim | skip
  cases ha.int; cases hb.int
  exact op_ge pins s σ H _ _ v u _ I rx ry ⟨_, _, rfl, rfl, .val n (.bl _) h⟩
theorem VC.notty {K : Fg} {M : Ms} {H : Hp} {v : V} {t : T} (h : VC K M H v t) (e : v = .non) : t = .non := by
  rcases h with h | ⟨_, _, _, e', _, _⟩
  · subst e
    cases h
    rfl
  · rw [e] at e'
    cases e'
theorem is_cases {a b : T} {c : Bool} (e : isT a b = some c) : (b = .non ∧ c = a.isNon) ∨ ∃ p q, a = .bl p ∧ b = .bl q ∧ c = decide (p = q) := by
  unfold isT at e
  split at e <;> cases e
  · exact .inl ⟨rfl, rfl⟩
  · exact .inr ⟨_, _, rfl, rfl, rfl⟩
theorem VC.is_non {K : Fg} {M : Ms} {H : Hp} {v : V} {t : T} (h : VC K M H v t) : decide (v = .non) = t.isNon := by
  by_cases e : v = .non
  · rw [decide_eq_true e, h.notty e]
    rfl
  · rw [decide_eq_false e]
    cases t <;> first | rfl | exact absurd h.non e
theorem opd_is : OpD Z X (compareOp .Is) opIs := by
  intro pins s σ H x y v u O io α τ ρ a b k I n rx ry ha hb h
  unfold opIs at h
  split at h
  · next c e =>
    rcases is_cases e with ⟨rfl, ec⟩ | ⟨p, q, rfl, rfl, ec⟩
    · refine op_isN pins s σ H _ _ v u _ I rx ry ⟨hb.non, .val n (.bl _) ?_⟩
      rw [ha.is_non, ← ec]
      exact h
    · cases ha.bl; cases hb.bl
      exact op_isBl pins s σ H _ _ v u _ I rx ry ⟨_, _, rfl, rfl, .val n (.bl _) (by rw [← ec]; exact h)⟩
  · exact h.elim
theorem opd_isnot : OpD Z X (compareOp .IsNot) opIsNot := by
  intro pins s σ H x y v u O io α τ ρ a b k I n rx ry ha hb h
  unfold opIsNot at h
  split at h
  · next c e =>
    rcases is_cases e with ⟨rfl, ec⟩ | ⟨p, q, rfl, rfl, ec⟩
    · refine op_notN pins s σ H _ _ v u _ I rx ry ⟨hb.non, .val n (.bl _) ?_⟩
      rw [ha.is_non, ← ec]
      exact h
    · cases ha.bl; cases hb.bl
      exact op_notBl pins s σ H _ _ v u _ I rx ry ⟨_, _, rfl, rfl, .val n (.bl _) (by rw [← ec]; exact h)⟩
  · exact h.elim
theorem fits_all {n : Nat} : ∀ {ts : List T}, ts.all (T.fit n) = true → PyData.depthAll (T.pys ts) ≤ n := fun {ts} h => T.pys_depth ts n h
theorem in_items {pins : List (Addr × Obj)} {s : Shared} {σ : L2.St} {H : Hp} {x y : V} {v u : Value} {M : Ms} {a : T} {ts : List T} {neg : Bool} {Q : VK} (hu : X.A.units + 64 < cLine) (I : Inv X pins σ H s) (rx : RelV x v) (ry : RelV y u) (ha : VC (kz Z X) M H x a) (fa : T.fit 60 a = true) (fs : ts.all (T.fit 60) = true)
    (hb : (∃ p vs, y = .ref p ∧ (SqL (kz Z X) H p vs ∨ SqT (kz Z X) H p vs) ∧ VTs (kz Z X) M H vs ts)) (q : Q (.bl (if neg then !T.has a ts else T.has a ts)) H) :
    wpAny (model X.prog X.w) X.A (compareOp (if neg then .NotIn else .In) v u) (EP X pins σ Q) X.xe s := by
  obtain ⟨p, vs, rfl, hq, hs⟩ := hb
  obtain ⟨as, r1⟩ := Dp.reads I _ x v (ha.dp fa).1 rx
  have hroom : X.A.units + 1 + min (PyData.depthAll (T.pys ts)) (T.py a).depth < cLine := by
    have h1 : min (PyData.depthAll (T.pys ts)) (T.py a).depth ≤ (T.py a).depth := Nat.min_le_right _ _
    have h2 := T.py_depth a 60 fa
    omega
  have e : (T.pys ts).any (fun z => PyData.eqv z (T.py a)) = T.has a ts := pys_any a 60 fa ts 60 fs
  rcases hq with hq | hq
  · obtain ⟨bs, r2⟩ := Dp.reads I (.list (T.pys ts)) (.ref p) u (.lst hq (hs.dps fs).1) ry
    cases neg with
    | false => exact SeqAt.in_list_reads r2 r1 (hs.dps fs).2 (ha.dp fa).2 hroom ⟨.bl _, H, I, rfl, by rw [e]; exact q⟩
    | true => exact SeqAt.notIn_list_reads r2 r1 (hs.dps fs).2 (ha.dp fa).2 hroom ⟨.bl _, H, I, rfl, by rw [e]; exact q⟩
  · obtain ⟨bs, r2⟩ := Dp.reads I (.tuple (T.pys ts)) (.ref p) u (.tup hq (hs.dps fs).1) ry
    cases neg with
    | false => exact SeqAt.in_tuple_reads r2 r1 (hs.dps fs).2 (ha.dp fa).2 hroom ⟨.bl _, H, I, rfl, by rw [e]; exact q⟩
    | true => exact SeqAt.notIn_tuple_reads r2 r1 (hs.dps fs).2 (ha.dp fa).2 hroom ⟨.bl _, H, I, rfl, by rw [e]; exact q⟩
theorem opd_in (hu : X.A.units + 64 < cLine) : OpD Z X (compareOp .In) opIn := by
  intro pins s σ H x y v u O io α τ ρ a b k I n rx ry ha hb h
  cases b with
  | tup ts =>
    obtain ⟨p, vs, e, hq, hs⟩ := hb.tup
    exact in_items (neg := false) hu I rx ry ha h.1 h.2.1 ⟨p, vs, e, .inr hq, hs⟩ (.val n (.bl _) h.2.2)
  | lst ts =>
    obtain ⟨p, vs, e, hq, hs⟩ := hb.lst
    exact in_items (neg := false) hu I rx ry ha h.1 h.2.1 ⟨p, vs, e, .inl (SqL.of hq), hs⟩ (.val n (.bl _) h.2.2)
  | lsk ts =>
    obtain ⟨p, vs, e, hq, hs⟩ := hb.lsk
    exact in_items (neg := false) hu I rx ry ha h.1 h.2.1 ⟨p, vs, e, .inl hq, hs⟩ (.val n (.bl _) h.2.2)
  | str z =>
    cases a with
    | str w =>
      obtain ⟨rfl, o1⟩ := ha.str
      obtain ⟨rfl, o2⟩ := hb.str
      exact op_in_str pins s σ H _ _ v u _ I rx ry ⟨_, _, rfl, rfl, .val n (.bl _) h⟩
    | _ => exact h.elim
  | _ => exact h.elim
theorem opd_notin (hu : X.A.units + 64 < cLine) : OpD Z X (compareOp .NotIn) opNotIn := by
  intro pins s σ H x y v u O io α τ ρ a b k I n rx ry ha hb h
  unfold opNotIn at h
  cases b with
  | tup ts =>
    obtain ⟨p, vs, e, hq, hs⟩ := hb.tup
    exact in_items (neg := true) hu I rx ry ha h.1 h.2.1 ⟨p, vs, e, .inr hq, hs⟩ (.val n (.bl _) h.2.2)
  | lst ts =>
    obtain ⟨p, vs, e, hq, hs⟩ := hb.lst
    exact in_items (neg := true) hu I rx ry ha h.1 h.2.1 ⟨p, vs, e, .inl (SqL.of hq), hs⟩ (.val n (.bl _) h.2.2)
  | lsk ts =>
    obtain ⟨p, vs, e, hq, hs⟩ := hb.lsk
    exact in_items (neg := true) hu I rx ry ha h.1 h.2.1 ⟨p, vs, e, .inl hq, hs⟩ (.val n (.bl _) h.2.2)
  | str z =>
    cases a with
    | str w =>
      obtain ⟨rfl, o1⟩ := ha.str
      obtain ⟨rfl, o2⟩ := hb.str
      exact op_notin_str pins s σ H _ _ v u _ I rx ry ⟨_, _, rfl, rfl, .val n (.bl _) h⟩
    | _ => exact h.elim
  | _ => exact h.elim
end
end N1
namespace N1
open PySem PySem.Spec PyProof.Rows L2
variable {Z : List Addr}

/-- an open way: what is wanted where the test is True, where it is False -/
structure Br (c : Bool) (A B : Prop) : Prop where
  t : c = true → A
  f : c = false → B

section
variable {K : Fg} {O : Ms} {io : List Addr} {α : List (Option Addr)} {τ : DSt} {σ : L2.St} {H : Hp}
theorem use_weak {τ : DSt} {tk : Tok} {k : T → Prop} : use τ (weak tk) k = use τ tk k := by cases tk <;> rfl
theorem froze_weak {τ : DSt} {tk : Tok} {k : T → DSt → Prop} : froze τ (weak tk) k = froze τ tk k := by cases tk <;> rfl
/-- one operand, then Qv -/
theorem one {ta : DE} {C : Tok → DSt → Prop} {Qv : V → Hp → Prop} (n : Now K O io none α τ σ H) (h : ta τ C)
    (fin : ∀ v tk α' τ' H', Now K O io none α' τ' σ H' → Kp O (Mu O α none) H (Mu O α' none) H' → TokOk K (Mu O α' none) σ H' v (weak tk) → C tk τ' → Qv v H') : liftE K ta σ H Qv :=
  ⟨O, io, α, τ, C, n, h, fun v tk tmp α' τ' H' n' k r c => let ⟨n2, k2, r2⟩ := r.tok n' k; fin v tk α' τ' H' n2 k2 r2 c⟩
theorem two {ta tb : DE} {C : Tok → Tok → DSt → Prop} {Qv : V → V → Hp → Prop} (n : Now K O io none α τ σ H) (h : ta τ fun x τ1 => tb τ1 fun y τ2 => C x y τ2)
    (fin : ∀ v u x y α' τ' H', Now K O io none α' τ' σ H' → Kp O (Mu O α none) H (Mu O α' none) H' → TokOk K (Mu O α' none) σ H' v (weak x) → TokOk K (Mu O α' none) σ H' u (weak y) → C x y τ' → Qv v u H') :
    liftE K ta σ H fun v H1 => liftE K tb σ H1 fun u H2 => Qv v u H2 :=
  one n h fun v x α1 τ1 H1 n1 k1 r1 c1 => one n1 c1 fun u y α2 τ2 H2 n2 k2 r2 c2 => fin v u x y α2 τ2 H2 n2 (k1.trans k2) (r1.keep k2.toKp0) r2 c2
end

/-! ### names, constants -/
def dVar (i : Nat) : DE := fun τ Q => match slotAt τ i with
  | some (.val t) => Q (.v t) τ
  | some (.own _) => Q (.s i) τ
  | some (.io _ _) => Q (.s i) τ
  | none => False
def dC (t : T) : DE := fun τ Q => Q (.v t) τ
section
variable {X : Cx} {e : Expr}
theorem qe_var {i : Nat} (h : PE X e (tVar i)) : QE Z X e (dVar i) := PEmono h fun σ H Q ⟨O, io, α, τ, R, n, h, fin⟩ => by
  unfold dVar at h
  split at h
  · next t e =>
    obtain ⟨v, e2, q⟩ := n.slot i _ (slotAt_iff.mp e)
    exact ⟨v, e2, fin v (.v t) none α τ H n .refl ⟨rfl, q⟩ h⟩
  · next ts e =>
    obtain ⟨a, vs, e1, e2, e3, q⟩ := n.slot i _ (slotAt_iff.mp e)
    exact ⟨_, e2, fin _ (.s i) none α τ H n .refl ⟨rfl, e2⟩ h⟩
  · next j ts e =>
    obtain ⟨a, vs, e0, e1, e2, e3, q⟩ := n.slot i _ (slotAt_iff.mp e)
    exact ⟨_, e2, fin _ (.s i) none α τ H n .refl ⟨rfl, e2⟩ h⟩
  · exact h.elim
theorem qe_const {v : V} {t : T} (h : PE X e (tC v)) (r : ∀ M H, VT (kz Z X) M H v t) : QE Z X e (dC t) := PEmono h fun σ H Q ⟨O, io, α, τ, R, n, h, fin⟩ =>
  fin v (.v t) none α τ H n .refl ⟨rfl, r _ _⟩ h
theorem qe_int {i j pos} : QE Z X (.Constant (.int i) j pos) (dC (.int i)) := qe_const pe_int fun _ _ => .int i
theorem qe_bl {b j pos} : QE Z X (.Constant (.bool b) j pos) (dC (.bl b)) := qe_const pe_bl fun _ _ => .bl b
theorem qe_non {j pos} : QE Z X (.Constant .none j pos) (dC .non) := qe_const pe_non fun _ _ => .non
theorem qe_str {x j pos} (h : PyData.strOk x = true := by decide +kernel) : QE Z X (.Constant (.str x) j pos) (dC (.str x)) := qe_const pe_str fun _ _ => .str x h
end

/-! ### lists of operands -/
def dNil : DA := fun τ Q => Q [] τ
def dCons (te : DE) (ta : DA) : DA := fun τ Q => te τ fun tk τ1 => ta τ1 fun tks τ2 => Q (weak tk :: tks) τ2
def useAll (τ : DSt) : List Tok → (List T → Prop) → Prop
  | [], k => k []
  | tk :: r, k => use τ tk fun t => useAll τ r fun ts => k (t :: ts)
def frozeAll : DSt → List Tok → (List T → DSt → Prop) → Prop
  | τ, [], k => k [] τ
  | τ, tk :: r, k => froze τ tk fun t τ1 => frozeAll τ1 r fun ts τ2 => k (t :: ts) τ2
inductive VCs (K : Fg) (M : Ms) (H : Hp) : List V → List T → Prop
  | nil : VCs K M H [] []
  | cons {v : V} {vs : List V} {t : T} {ts : List T} : VC K M H v t → VCs K M H vs ts → VCs K M H (v :: vs) (t :: ts)
section
variable {K : Fg} {O : Ms} {io : List Addr} {α : List (Option Addr)} {τ : DSt} {σ : L2.St} {H : Hp}
theorem useAll_ok (n : Now K O io none α τ σ H) : ∀ {vs : List V} {tks : List Tok} {k : List T → Prop}, ToksOk K (Mu O α none) σ H vs tks → useAll τ tks k → ∃ ts, VCs K (Mu O α none) H vs ts ∧ k ts
  | _, _, k, .nil, h => ⟨[], .nil, h⟩
  | _, _, k, .cons r rs, h => by
    obtain ⟨t, c, h⟩ := use_ok n r h
    obtain ⟨ts, cs, h⟩ := useAll_ok n rs h
    exact ⟨t :: ts, .cons c cs, h⟩
theorem frozeAll_ok : ∀ {vs : List V} {tks : List Tok} {α : List (Option Addr)} {τ : DSt} {k : List T → DSt → Prop}, Now K O io none α τ σ H → ToksOk K (Mu O α none) σ H vs tks → frozeAll τ tks k →
    ∃ ts α' τ', Now K O io none α' τ' σ H ∧ (∀ a, Mu O α' none a → Mu O α none a) ∧ VTs K (Mu O α' none) H vs ts ∧ k ts τ'
  | _, _, α, τ, k, n, .nil, h => ⟨[], α, τ, n, fun _ z => z, .nil, h⟩
  | _, _, α, τ, k, n, .cons r rs, h => by
    obtain ⟨t, α1, τ1, n1, a1, q1, h1⟩ := froze_ok n r h
    obtain ⟨ts, α2, τ2, n2, a2, q2, h2⟩ := frozeAll_ok n1 (rs.keep (.of_anti a1)) h1
    exact ⟨t :: ts, α2, τ2, n2, fun a z => a1 a (a2 a z), .cons (q1.keep (.of_anti a2)) q2, h2⟩
theorem ToksOk.length {M : Ms} {vs : List V} {tks : List Tok} (h : ToksOk K M σ H vs tks) : vs.length = tks.length := by
  induction h with
  | nil => rfl
  | cons _ _ ih => exact congrArg (· + 1) ih
end
section
variable {X : Cx} {e : Expr} {es : List Expr} {te : DE} {ta : DA} {pos : Pos}
theorem qa_nil : QA Z X [] dNil := PAmono pa_nil fun σ H Q ⟨O, io, α, τ, R, n, h, fin⟩ => fin [] [] α τ H n .refl .nil h
theorem qa_cons (he : QE Z X e te) (ha : QA Z X es ta) (hs : starEach (e :: es) X.env = (false, eval e X.env) :: starEach es X.env := by rfl) : QA Z X (e :: es) (dCons te ta) :=
  PAmono (pa_cons he ha hs) fun σ H Q ⟨O, io, α, τ, R, n, h, fin⟩ =>
    one n h fun v tk α1 τ1 H1 n1 k1 r1 c1 => ⟨O, io, α1, τ1, _, n1, c1, fun vs tks α2 τ2 H2 n2 k2 r2 c2 => fin (v :: vs) (weak tk :: tks) α2 τ2 H2 n2 (k1.trans k2) (.cons (r1.keep k2.toKp0) r2) c2⟩

/-! ### tuples, lists that are written -/
def dTup (m : Nat) (ta : DA) : DE := fun τ Q => ta τ fun tks τ1 => tks.length = m ∧ frozeAll τ1 tks fun ts τ2 => Q (.v (.tup ts)) τ2
def dLst (m : Nat) (ta : DA) : DE := fun τ Q => ta τ fun tks τ1 => tks.length = m ∧ frozeAll τ1 tks fun ts τ2 => Q (.fr ts) τ2
theorem small_line {n : Nat} (h : n ≤ 1000) : n ≤ sizeLine := Nat.le_trans h (by decide)
theorem qe_tup {x1} (m : Nat) (h : QA Z X es ta) (hm : m ≤ 1000 := by decide) : QE Z X (.Tuple es x1 pos) (dTup m ta) :=
  PEmono (pe_tup h) fun σ H Q ⟨O, io, α, τ, R, n, h, fin⟩ => ⟨O, io, α, τ, _, n, h, fun vs tks α1 τ1 H1 n1 k1 r1 ⟨hl, c1⟩ => by
    obtain ⟨ts, α2, τ2, n2, a2, q2, c2⟩ := frozeAll_ok n1 r1 c1
    refine ⟨by rw [r1.length, hl]; exact small_line hm, fun p hp => ?_⟩
    have kp := kp_new n2 hp (.tup vs) (.inl rfl)
    exact fin (.ref p) (.v (.tup ts)) none α2 τ2 _ (now_new n2 hp _ (.inl rfl)) ((k1.trans (.of_anti a2)).trans kp) ⟨rfl, .tup (SqT.of upd_same) (q2.keep kp.toKp0)⟩ c2⟩
theorem qe_lst (m : Nat) (h : QA Z X es ta) (hm : m ≤ 1000 := by decide) : QE Z X (.List es pos) (dLst m ta) :=
  PEmono (pe_lst h) fun σ H Q ⟨O, io, α, τ, R, n, h, fin⟩ => ⟨O, io, α, τ, _, n, h, fun vs tks α1 τ1 H1 n1 k1 r1 ⟨hl, c1⟩ => by
    obtain ⟨ts, α2, τ2, n2, a2, q2, c2⟩ := frozeAll_ok n1 r1 c1
    refine ⟨by rw [r1.length, hl]; exact small_line hm, fun p hp => ?_⟩
    have kp := kp_new n2 hp (.lst vs) (.inr rfl)
    exact fin (.ref p) (.fr ts) (some p) α2 τ2 _ (now_new n2 hp _ (.inr rfl)) ((k1.trans (.of_anti a2)).trans kp) ⟨p, vs, rfl, rfl, upd_same, q2.keep kp.toKp0⟩ c2⟩
end

/-! ### operators -/
def dOp (r : T → T → (Tok → Prop) → Prop) (ta tb : DE) : DE := fun τ Q => ta τ fun x τ1 => tb τ1 fun y τ2 => use τ2 x fun a => use τ2 y fun b => r a b fun z => Q z τ2
def rD (K : Fg) (r : T → T → (Tok → Prop) → Prop) : R2 := fun x y H Q => ∃ (O : Ms) (io : List Addr) (α : List (Option Addr)) (τ : DSt) (ρ : L2.St) (a b : T) (k : Tok → Prop),
  Now K O io none α τ ρ H ∧ VC K (Mu O α none) H x a ∧ VC K (Mu O α none) H y b ∧ r a b k ∧ ∀ z H', ResQ K O io α τ ρ H k z H' → Q z H'
section
variable {X : Cx} {a b : Expr} {ta tb : DE} {pos : Pos} {r : T → T → (Tok → Prop) → Prop}
theorem EPmono {pins : List (Addr × Obj)} {σ : L2.St} {Q Q' : VK} {u : Value} {s : Shared} (h : EP X pins σ Q u s) (m : ∀ v H, Q v H → Q' v H) : EP X pins σ Q' u s :=
  let ⟨v, H', I, r, q⟩ := h; ⟨v, H', I, r, m v H' q⟩
theorem OpD.opr {f : Value → Value → Sem Value} (h : OpD Z X f r) : OpR X f (rD (kz Z X) r) := fun pins s σ H x y v u Q I rx ry ⟨O, io, α, τ, ρ, a, b, k, n, ca, cb, q, fin⟩ =>
  thn (h pins s σ H x y v u O io α τ ρ a b k I n rx ry ca cb q) fun _ _ z => EPmono z fin
theorem dop_lift {σ : L2.St} {H : Hp} {Q : VK} (h : liftE (kz Z X) (dOp r ta tb) σ H Q) : tOp (rD (kz Z X) r) (liftE (kz Z X) ta) (liftE (kz Z X) tb) σ H Q := by
  obtain ⟨O, io, α, τ, R, n, h, fin⟩ := h
  refine two n h fun v u x y α1 τ1 H1 n1 k1 r1 r2 c => ?_
  rw [← use_weak] at c
  obtain ⟨a, ca, c⟩ := use_ok n1 r1 c
  rw [← use_weak] at c
  obtain ⟨b, cb, c⟩ := use_ok n1 r2 c
  exact ⟨O, io, α1, τ1, σ, a, b, _, n1, ca, cb, c, fun z H' ⟨tk, tmp, n2, k2, r3, q⟩ => fin z tk tmp α1 τ1 H' n2 (k1.trans k2) r3 q⟩
theorem qe_op {op : Operator} (ho : OpD Z X (binaryOp op) r) (ha : QE Z X a ta) (hb : QE Z X b tb) : QE Z X (.BinOp a op b pos) (dOp r ta tb) := PEmono (pe_op ho.opr ha hb) fun _ _ _ => dop_lift
theorem qe_cmp {op : CmpOp} (ho : OpD Z X (compareOp op) r) (ha : QE Z X a ta) (hb : QE Z X b tb) (hm : behindInMarks op b = false) : QE Z X (.Compare a [op] [b] pos) (dOp r ta tb) := PEmono (pe_cmpR ho.opr ha hb hm) fun _ _ _ => dop_lift
/-- a comparison as a test -/
def dTest (t : DE) : DT := fun τ Q => t τ fun tk τ1 => match tk with
  | .v (.bl c) => Q c τ1
  | _ => False
theorem VTbl {K : Fg} {M : Ms} {H : Hp} {v : V} {c : Bool} (h : VT K M H v (.bl c)) : v = .bl c := by cases h; rfl
theorem dtest_lift {t : DE} {t' : TE} {σ : L2.St} {H : Hp} {Q : Bool → Hp → Prop} (m : ∀ σ H Q, liftE (kz Z X) t σ H Q → t' σ H Q) (h : liftT (kz Z X) (dTest t) σ H Q) : tTest t' σ H Q := by
  obtain ⟨O, io, α, τ, R, n, h, fin⟩ := h
  refine m _ _ _ ⟨O, io, α, τ, _, n, h, fun v tk tmp α' τ' H' n' k' r c => ?_⟩
  cases tk with
  | v t =>
    obtain ⟨e, r⟩ := r
    cases e
    cases t with
    | bl b => exact ⟨b, VTbl r, fin b α' τ' H' n' k' c⟩
    | _ => exact c.elim
  | _ => exact c.elim
theorem qt_cmp {op : CmpOp} (ho : OpD Z X (compareOp op) r) (ha : QE Z X a ta) (hb : QE Z X b tb) (hm : behindInMarks op b = false) : QT Z X (.Compare a [op] [b] pos) (dTest (dOp r ta tb)) :=
  PTmono (pt_cmpR ho.opr ha hb hm) fun _ _ _ => dtest_lift fun _ _ _ => dop_lift

/-! ### a op b op c -/
def dChain (r r' : T → T → (Tok → Prop) → Prop) (ta tb tc : DE) : DE := fun τ Q => ta τ fun x τ1 => tb τ1 fun y τ2 => use τ2 x fun a => use τ2 y fun b => r a b fun z => match z with
  | .v (.bl k) => Br k (tc τ2 fun w τ3 => use τ3 y fun b => use τ3 w fun c => r' b c fun z' => Q z' τ3) (Q (.v (.bl false)) τ2)
  | _ => False
theorem dchain_lift {c : Expr} {tc : DE} {r' : T → T → (Tok → Prop) → Prop} {σ : L2.St} {H : Hp} {Q : VK} (h : liftE (kz Z X) (dChain r r' ta tb tc) σ H Q) : tChain (rD (kz Z X) r) (rD (kz Z X) r') (liftE (kz Z X) ta) (liftE (kz Z X) tb) (liftE (kz Z X) tc) σ H Q := by
  obtain ⟨O, io, α, τ, R, n, h, fin⟩ := h
  refine two n h fun v u x y α1 τ1 H1 n1 k1 r1 r2 c => ?_
  rw [← use_weak] at c
  obtain ⟨a, ca, c⟩ := use_ok n1 r1 c
  rw [← use_weak] at c
  obtain ⟨b, cb, c⟩ := use_ok n1 r2 c
  refine ⟨O, io, α1, τ1, σ, a, b, _, n1, ca, cb, c, fun z H' ⟨tk, tmp, n2, k2, r3, q⟩ => ?_⟩
  cases tk with
  | v t =>
    obtain ⟨e, r3⟩ := r3
    cases e
    cases t with
    | bl kk =>
      refine ⟨kk, VTbl r3, ?_⟩
      cases kk with
      | true =>
        refine iteT (one n2 (q.t rfl) fun w tk3 α3 τ3 H3 n3 k3 r4 c3 => ?_)
        rw [← use_weak] at c3
        obtain ⟨b', cb', c3⟩ := use_ok n3 ((r2.keep k2.toKp0).keep k3.toKp0) c3
        rw [← use_weak] at c3
        obtain ⟨c', cc', c3⟩ := use_ok n3 r4 c3
        exact ⟨O, io, α3, τ3, σ, b', c', _, n3, cb', cc', c3, fun z H' ⟨tk, tmp, n5, k5, r5, q⟩ => fin z tk tmp α3 τ3 H' n5 (((k1.trans k2).trans k3).trans k5) r5 q⟩
      | false => exact iteF (fin (.bl false) (.v (.bl false)) none α1 τ1 H' n2 (k1.trans k2) ⟨rfl, .bl false⟩ (q.f rfl))
    | _ => exact q.elim
  | _ => exact q.elim
theorem qe_chain {c : Expr} {tc : DE} {op op' : CmpOp} {r' : T → T → (Tok → Prop) → Prop} (ho : OpD Z X (compareOp op) r) (ho' : OpD Z X (compareOp op') r') (ha : QE Z X a ta) (hb : QE Z X b tb) (hc : QE Z X c tc)
    (hm : lastMarks [op, op'] [b, c] = false := by with_unfolding_all rfl) : QE Z X (.Compare a [op, op'] [b, c] pos) (dChain r r' ta tb tc) := PEmono (pe_chain ho.opr ho'.opr ha hb hc hm) fun _ _ _ => dchain_lift (c := c)
theorem qt_chain {c : Expr} {tc : DE} {op op' : CmpOp} {r' : T → T → (Tok → Prop) → Prop} (ho : OpD Z X (compareOp op) r) (ho' : OpD Z X (compareOp op') r') (ha : QE Z X a ta) (hb : QE Z X b tb) (hc : QE Z X c tc)
    (hm : lastMarks [op, op'] [b, c] = false := by with_unfolding_all rfl) : QT Z X (.Compare a [op, op'] [b, c] pos) (dTest (dChain r r' ta tb tc)) :=
  PTmono (pt_chain ho.opr ho'.opr ha hb hc hm) fun _ _ _ => dtest_lift fun _ _ _ => dchain_lift (c := c)

/-! ### truth, and, or, not -/
def truthOf : T → (Bool → Prop) → Prop
  | .non, k => k false
  | .bl b, k => k b
  | .int i, k => k (i != 0)
  | .str x, k => x.length ≤ sizeLine ∧ k ((x.length : Int) != 0)
  | .tup ts, k => k (!ts.isEmpty)
  | .lst ts, k => k (!ts.isEmpty)
  | .lsk ts, k => k (!ts.isEmpty)
  | .ty _, _ => False
def dTruth (te : DE) : DT := fun τ Q => te τ fun tk τ1 => use τ1 tk fun t => truthOf t fun b => Q b τ1
theorem VTs.empty {K : Fg} {M : Ms} {H : Hp} {vs : List V} {ts : List T} (h : VTs K M H vs ts) : (!vs.isEmpty) = !ts.isEmpty := by cases h <;> rfl
theorem truth_ok {K : Fg} {M : Ms} {H : Hp} {v : V} {t : T} {k : Bool → Prop} (c : VC K M H v t) (h : truthOf t k) : ∃ b, TruV K v H b ∧ k b := by
  cases t with
  | non => rw [c.non]; exact ⟨_, rfl, h⟩
  | bl b => cases c.bl; exact ⟨_, rfl, h⟩
  | int i => cases c.int; exact ⟨_, rfl, h⟩
  | str x => obtain ⟨rfl, _⟩ := c.str; exact ⟨_, ⟨h.1, rfl⟩, h.2⟩
  | tup ts => obtain ⟨a, vs, rfl, e, hs⟩ := c.tup; exact ⟨_, .inr (.inl ⟨vs, e, rfl⟩), by rw [hs.empty]; exact h⟩
  | lst ts => obtain ⟨a, vs, rfl, e, hs⟩ := c.lst; exact ⟨_, .inl ⟨vs, SqL.of e, rfl⟩, by rw [hs.empty]; exact h⟩
  | lsk ts => obtain ⟨a, vs, rfl, e, hs⟩ := c.lsk; exact ⟨_, .inl ⟨vs, e, rfl⟩, by rw [hs.empty]; exact h⟩
  | ty n => exact h.elim
theorem qt_truth (ha : QE Z X a ta) (he : ∀ whole, isTrue a X.env whole = (do let v ← whole; standAt a.pos; holding [v] (truthy v)) := by intro _; rfl) : QT Z X a (dTruth ta) :=
  PTmono (pt_truth ha he) fun σ H Q ⟨O, io, α, τ, R, n, h, fin⟩ => one n h fun v tk α1 τ1 H1 n1 k1 r1 c => by
    rw [← use_weak] at c
    obtain ⟨t, ct, c⟩ := use_ok n1 r1 c
    obtain ⟨b, tb, c⟩ := truth_ok ct c
    exact ⟨b, tb, fin b α1 τ1 H1 n1 k1 c⟩
def dAnd (t u : DT) : DT := fun τ Q => t τ fun c τ1 => Br c (u τ1 Q) (Q false τ1)
def dOr (t u : DT) : DT := fun τ Q => t τ fun c τ1 => Br c (Q true τ1) (u τ1 Q)
def dNot (t : DT) : DT := fun τ Q => t τ fun c τ1 => Q (!c) τ1
variable {tA tB : DT} {rest : List Expr}
theorem qw_and1 (ha : QT Z X a tA) : QW Z X (.BoolOp .And [a] pos) tA := pw_and1 ha
theorem qw_or1 (ha : QT Z X a tA) : QW Z X (.BoolOp .Or [a] pos) tA := pw_or1 ha
theorem qw_and (ha : QT Z X a tA) (hb : QW Z X (.BoolOp .And (b :: rest) pos) tB) : QW Z X (.BoolOp .And (a :: b :: rest) pos) (dAnd tA tB) :=
  PWmono (pw_and ha hb) fun σ H Q ⟨O, io, α, τ, R, n, h, fin⟩ => ⟨O, io, α, τ, _, n, h, fun c α1 τ1 H1 n1 k1 q => by
    cases c with
    | true => exact iteT ⟨O, io, α1, τ1, R, n1, q.t rfl, fun b α2 τ2 H2 n2 k2 q2 => fin b α2 τ2 H2 n2 (k1.trans k2) q2⟩
    | false => exact iteF (fin false α1 τ1 H1 n1 k1 (q.f rfl))⟩
theorem qw_or (ha : QT Z X a tA) (hb : QW Z X (.BoolOp .Or (b :: rest) pos) tB) : QW Z X (.BoolOp .Or (a :: b :: rest) pos) (dOr tA tB) :=
  PWmono (pw_or ha hb) fun σ H Q ⟨O, io, α, τ, R, n, h, fin⟩ => ⟨O, io, α, τ, _, n, h, fun c α1 τ1 H1 n1 k1 q => by
    cases c with
    | true => exact iteT (fin true α1 τ1 H1 n1 k1 (q.t rfl))
    | false => exact iteF ⟨O, io, α1, τ1, R, n1, q.f rfl, fun b α2 τ2 H2 n2 k2 q2 => fin b α2 τ2 H2 n2 (k1.trans k2) q2⟩⟩
theorem qt_not (ha : QT Z X a tA) : QT Z X (.UnaryOp .Not a pos) (dNot tA) :=
  PTmono (pt_not ha) fun σ H Q ⟨O, io, α, τ, R, n, h, fin⟩ => ⟨O, io, α, τ, _, n, h, fun c α1 τ1 H1 n1 k1 q => fin (!c) α1 τ1 H1 n1 k1 q⟩
/-- as values, of bools -/
def dBool (t : DE) (k : Bool → DSt → Prop) (τ : DSt) : Prop := t τ fun tk τ1 => use τ1 tk fun t => match t with
  | .bl c => k c τ1
  | _ => False
theorem dbool_ok {K : Fg} {O : Ms} {io : List Addr} {α : List (Option Addr)} {τ : DSt} {σ : L2.St} {H : Hp} {t : DE} {k : Bool → DSt → Prop} {Q : V → Hp → Prop} (n : Now K O io none α τ σ H) (h : dBool t k τ)
    (fin : ∀ c α1 τ1 H1, Now K O io none α1 τ1 σ H1 → Kp O (Mu O α none) H (Mu O α1 none) H1 → k c τ1 → Q (.bl c) H1) : liftE K t σ H Q :=
  one n h fun v tk α1 τ1 H1 n1 k1 r1 c => by
    rw [← use_weak] at c
    obtain ⟨t, ct, c⟩ := use_ok n1 r1 c
    cases t with
    | bl b => cases ct.bl; exact fin b α1 τ1 H1 n1 k1 c
    | _ => exact c.elim
def dAndV (ta tb : DE) : DE := fun τ Q => dBool ta (fun c τ1 => Br c (tb τ1 Q) (Q (.v (.bl false)) τ1)) τ
def dOrV (ta tb : DE) : DE := fun τ Q => dBool ta (fun c τ1 => Br c (Q (.v (.bl true)) τ1) (tb τ1 Q)) τ
def dNotV (ta : DE) : DE := fun τ Q => dBool ta (fun c τ1 => Q (.v (.bl !c)) τ1) τ
theorem qe_one {op} (h : QE Z X a ta) : QE Z X (.BoolOp op [a] pos) ta := pe_one h
theorem qe_and (ha : QE Z X a ta) (hb : QE Z X (.BoolOp .And (b :: rest) pos) tb) : QE Z X (.BoolOp .And (a :: b :: rest) pos) (dAndV ta tb) :=
  PEmono (pe_and ha hb) fun σ H Q ⟨O, io, α, τ, R, n, h, fin⟩ => dbool_ok n h fun c α1 τ1 H1 n1 k1 q => ⟨c, rfl, by
    cases c with
    | true => exact iteT ⟨O, io, α1, τ1, R, n1, q.t rfl, fun v tk tmp α2 τ2 H2 n2 k2 => fin v tk tmp α2 τ2 H2 n2 (k1.trans k2)⟩
    | false => exact iteF (fin (.bl false) (.v (.bl false)) none α1 τ1 H1 n1 k1 ⟨rfl, .bl false⟩ (q.f rfl))⟩
theorem qe_or (ha : QE Z X a ta) (hb : QE Z X (.BoolOp .Or (b :: rest) pos) tb) : QE Z X (.BoolOp .Or (a :: b :: rest) pos) (dOrV ta tb) :=
  PEmono (pe_or ha hb) fun σ H Q ⟨O, io, α, τ, R, n, h, fin⟩ => dbool_ok n h fun c α1 τ1 H1 n1 k1 q => ⟨c, rfl, by
    cases c with
    | true => exact iteT (fin (.bl true) (.v (.bl true)) none α1 τ1 H1 n1 k1 ⟨rfl, .bl true⟩ (q.t rfl))
    | false => exact iteF ⟨O, io, α1, τ1, R, n1, q.f rfl, fun v tk tmp α2 τ2 H2 n2 k2 => fin v tk tmp α2 τ2 H2 n2 (k1.trans k2)⟩⟩
theorem qe_not (ha : QE Z X a ta) : QE Z X (.UnaryOp .Not a pos) (dNotV ta) :=
  PEmono (pe_not ha) fun σ H Q ⟨O, io, α, τ, R, n, h, fin⟩ => dbool_ok n h fun c α1 τ1 H1 n1 k1 q => ⟨c, rfl, fin (.bl !c) (.v (.bl !c)) none α1 τ1 H1 n1 k1 ⟨rfl, .bl _⟩ q⟩
/-- a if t else b -/
def dIfE (t : DT) (ta tb : DE) : DE := fun τ Q => t τ fun c τ1 => Br c (ta τ1 Q) (tb τ1 Q)
theorem qe_if {c : Expr} (hc : QT Z X c tA) (ha : QE Z X a ta) (hb : QE Z X b tb) : QE Z X (.IfExp c a b pos) (dIfE tA ta tb) :=
  PEmono (pe_ifExp hc ha hb) fun σ H Q ⟨O, io, α, τ, R, n, h, fin⟩ => ⟨O, io, α, τ, _, n, h, fun c α1 τ1 H1 n1 k1 q => by
    cases c with
    | true => exact iteT ⟨O, io, α1, τ1, R, n1, q.t rfl, fun v tk tmp α2 τ2 H2 n2 k2 => fin v tk tmp α2 τ2 H2 n2 (k1.trans k2)⟩
    | false => exact iteF ⟨O, io, α1, τ1, R, n1, q.f rfl, fun v tk tmp α2 τ2 H2 n2 k2 => fin v tk tmp α2 τ2 H2 n2 (k1.trans k2)⟩⟩
/-- -a -/
def dNeg (ta : DE) : DE := fun τ Q => ta τ fun tk τ1 => use τ1 tk fun t => match t with
  | .int i => Q (.v (.int (-i))) τ1
  | _ => False
theorem qe_neg (ha : QE Z X a ta) : QE Z X (.UnaryOp .USub a pos) (dNeg ta) :=
  PEmono (pe_un un_neg ha) fun σ H Q ⟨O, io, α, τ, R, n, h, fin⟩ => one n h fun v tk α1 τ1 H1 n1 k1 r1 c => by
    rw [← use_weak] at c
    obtain ⟨t, ct, c⟩ := use_ok n1 r1 c
    cases t with
    | int i => cases ct.int; exact ⟨i, rfl, fin _ (.v (.int (-i))) none α1 τ1 H1 n1 k1 ⟨rfl, .int _⟩ c⟩
    | _ => exact c.elim

/-! ### a place of a list, a tuple, a text -/
def atT {β : Type} : List β → Int → Option β
  | ts, .ofNat n => ts[n]?
  | ts, .negSucc n => if n < ts.length then ts[ts.length - 1 - n]? else none
theorem atT_eq {β : Type} (ts : List β) (i : Int) : atT ts i = atI ts i := by
  cases i with
  | ofNat n =>
    show ts[n]? = (ixN ts.length (n : Int)).bind fun j => ts[j]?
    by_cases h : n < ts.length
    · have e : ixN ts.length (n : Int) = some n := by
        unfold ixN
        rw [if_pos (Int.natCast_nonneg n), if_pos (show (n : Int) < ((ts.length : Nat) : Int) by omega)]
        rfl
      rw [e]
      rfl
    · have e : ixN ts.length (n : Int) = none := by
        unfold ixN
        rw [if_pos (Int.natCast_nonneg n), if_neg (show ¬ (n : Int) < ((ts.length : Nat) : Int) by omega)]
      rw [e, List.getElem?_eq_none (by omega)]
      rfl
  | negSucc n =>
    show (if n < ts.length then ts[ts.length - 1 - n]? else none) = (ixN ts.length (Int.negSucc n)).bind fun j => ts[j]?
    have h0 : ¬ 0 ≤ Int.negSucc n := by omega
    by_cases h : n < ts.length
    · have e : ixN ts.length (Int.negSucc n) = some (ts.length - 1 - n) := by
        unfold ixN
        rw [if_neg h0, if_pos (show -((ts.length : Nat) : Int) ≤ Int.negSucc n by omega)]
        congr 1
        omega
      rw [if_pos h, e]
      rfl
    · have e : ixN ts.length (Int.negSucc n) = none := by
        unfold ixN
        rw [if_neg h0, if_neg (show ¬ -((ts.length : Nat) : Int) ≤ Int.negSucc n by omega)]
      rw [if_neg h, e]
      rfl
/-- there is one, and it is as wanted -/
def ifSome {β : Type} (o : Option β) (k : β → Prop) : Prop := match o with
  | some t => k t
  | none => False
theorem ifSome_ok {β : Type} {o : Option β} {k : β → Prop} (h : ifSome o k) : ∃ t, o = some t ∧ k t := by
  cases o with
  | none => exact h.elim
  | some t => exact ⟨t, rfl, h⟩
theorem ifSome.of {β : Type} {o : Option β} {k : β → Prop} {t : β} (h : o = some t) (q : k t) : ifSome o k := by
  subst h
  exact q
def opIx : T → T → (Tok → Prop) → Prop
  | .tup ts, .int i, k => ifSome (atT ts i) fun t => k (.v t)
  | .lst ts, .int i, k => ifSome (atT ts i) fun t => k (.v t)
  | .lsk ts, .int i, k => ifSome (atT ts i) fun t => k (.v t)
  | .str x, .int i, k => x.length ≤ sizeLine ∧ ifSome (atT x.cps.toList i) fun c => k (.v (.str ⟨#[c]⟩))
  | _, _, _ => False
theorem VTs.at {K : Fg} {M : Ms} {H : Hp} {vs : List V} {ts : List T} {i : Int} {t : T} (h : VTs K M H vs ts) (e : atT ts i = some t) : ∃ v, atI vs i = some v ∧ VT K M H v t := by
  rw [atT_eq] at e
  unfold atI at e ⊢
  rw [h.length]
  cases q : ixN ts.length i with
  | none => rw [q] at e; cases e
  | some j =>
    rw [q] at e
    exact h.get e
theorem ixr : IxR X (rD (kz Z X) opIx) := by
  intro value slice pins s σ H x y v u Q I rx ry ⟨O, io, α, τ, ρ, a, b, k, n, ca, cb, q, fin⟩ hs
  cases a <;> cases b <;> first | exact q.elim | skip
  · obtain ⟨rfl, o1⟩ := ca.str
    cases cb.int
    obtain ⟨hz, q⟩ := q
    obtain ⟨c, e, q⟩ := ifSome_ok q
    rw [atT_eq] at e
    refine ix_str value slice pins s σ H _ _ v u Q I rx ry ⟨_, _, _, rfl, rfl, hz, e, fin _ _ (.val n (.str _ ?_) q)⟩ hs
    obtain ⟨j, _, e2, _⟩ := atI_get e
    have hm : c ∈ _ := List.mem_of_getElem? e2
    unfold PyData.strOk at o1 ⊢
    rw [Array.all_eq_true'] at o1
    simpa using o1 c (by simpa using hm)
  · obtain ⟨p, vs, rfl, e, hv⟩ := ca.tup
    cases cb.int
    obtain ⟨t, e2, q⟩ := ifSome_ok q
    obtain ⟨w', e3, h3⟩ := hv.at e2
    exact ix_tup value slice pins s σ H _ _ v u Q I rx ry ⟨_, _, _, _, rfl, rfl, e, e3, fin _ _ (.val n h3 q)⟩ hs
  · obtain ⟨p, vs, rfl, e, hv⟩ := ca.lst
    cases cb.int
    obtain ⟨t, e2, q⟩ := ifSome_ok q
    obtain ⟨w', e3, h3⟩ := hv.at e2
    exact ix_list value slice pins s σ H _ _ v u Q I rx ry ⟨_, _, _, _, rfl, rfl, SqL.of e, e3, fin _ _ (.val n h3 q)⟩ hs
  · obtain ⟨p, vs, rfl, e, hv⟩ := ca.lsk
    cases cb.int
    obtain ⟨t, e2, q⟩ := ifSome_ok q
    obtain ⟨w', e3, h3⟩ := hv.at e2
    exact ix_list value slice pins s σ H _ _ v u Q I rx ry ⟨_, _, _, _, rfl, rfl, e, e3, fin _ _ (.val n h3 q)⟩ hs
theorem qe_ix (ha : QE Z X a ta) (hb : QE Z X b tb) (hs : PlainIx b) : QE Z X (.Subscript a b pos) (dOp opIx ta tb) := PEmono (pe_ix ixr ha hb hs) fun _ _ _ => dop_lift
end
end N1
namespace N1
open PySem PySem.Spec PyProof.Rows L2
variable {Z : List Addr}

section
variable {K : Fg} {O M M' : Ms} {io : List Addr} {H H' : Hp}
theorem Lk.after {E : DSt → Prop} {D : L2.St → Hp → Prop} (l : Lk K O io M H E D) (k : Kp O M H M' H') : Lk K O io M' H' E D := fun α' τ' σ' H2 n k2 e => l α' τ' σ' H2 n (k.trans k2) e
theorem Rk.after {E : DK} {D : VK} (l : Rk K O io M H E D) (k : Kp O M H M' H') : Rk K O io M' H' E D := fun v tk tmp α' τ' σ' H2 n k2 r e => l v tk tmp α' τ' σ' H2 n (k.trans k2) r e
end

/-! ### blocks -/
def dNext : DS := fun D τ => D.nx τ
def dSeq (t u : DS) : DS := fun D τ => t { D with nx := u D } τ
def dNever : DS := fun _ _ => False
def dBreak : DS := fun D τ => D.bk τ
def dCont : DS := fun D τ => D.ct τ
section
variable {X : Cx} {st : Stmt} {rest : List Stmt} {t u : DS} {e : Expr} {te : DE} {pos : Pos}
theorem qss_nil : QSs Z X [] dNext := PSsmono pss_nil fun D σ H ⟨O, io, α, τ, E, n, h, l1, _, _, _⟩ => l1 α τ σ H n .refl h
theorem qss_cons (h1 : QS Z X st t) (h2 : QSs Z X rest u) : QSs Z X (st :: rest) (dSeq t u) := PSsmono (pss_cons h1 h2) fun D σ H ⟨O, io, α, τ, E, n, h, l1, l2, l3, l4⟩ =>
  ⟨O, io, α, τ, { E with nx := u E }, n, h, fun α' τ' σ' H' n' k e => ⟨O, io, α', τ', E, n', e, l1.after k, l2.after k, l3.after k, l4.after k⟩, l2, l3, l4⟩
theorem qss_one (h1 : QS Z X st t) : QSs Z X [st] t := pss_one h1
theorem qs_pass : QS Z X (.Pass pos) dNext := PSmono ps_pass fun D σ H ⟨O, io, α, τ, E, n, h, l1, _, _, _⟩ => l1 α τ σ H n .refl h
theorem qs_doc {x j pos pos'} : QS Z X (.Expr (.Constant (.str x) j pos) pos') dNext := PSmono ps_doc fun D σ H ⟨O, io, α, τ, E, n, h, l1, _, _, _⟩ => l1 α τ σ H n .refl h
theorem qs_break : QS Z X (.Break pos) dBreak := PSmono ps_break fun D σ H ⟨O, io, α, τ, E, n, h, _, _, l, _⟩ => l α τ σ H n .refl h
theorem qs_continue : QS Z X (.Continue pos) dCont := PSmono ps_continue fun D σ H ⟨O, io, α, τ, E, n, h, _, _, _, l⟩ => l α τ σ H n .refl h
theorem qs_never : QS Z X st dNever := PSmono ps_never fun D σ H ⟨_, _, _, _, _, _, h, _⟩ => h.elim
theorem qss_never {sts : List Stmt} : QSs Z X sts dNever := PSsmono pss_never fun D σ H ⟨_, _, _, _, _, _, h, _⟩ => h.elim
/-! an expression for its effect; return -/
def dExpr (te : DE) : DS := fun D τ => te τ fun _ τ1 => D.nx τ1
theorem qs_expr (he : QE Z X e te) (hs : swapsWith e none pos.line X.env = pure false := by rfl) : QS Z X (.Expr e pos) (dExpr te) := PSmono (ps_expr he hs) fun D σ H ⟨O, io, α, τ, E, n, h, l1, _, _, _⟩ =>
  one n h fun v tk α1 τ1 H1 n1 k1 r1 c => l1 α1 τ1 σ H1 n1 k1 c
def dRet (te : DE) : DS := fun D τ => te τ D.rt
theorem qs_ret (he : QE Z X e te) : QS Z X (.Return (some e) pos) (dRet te) := PSmono (ps_ret he) fun D σ H ⟨O, io, α, τ, E, n, h, _, l2, _, _⟩ =>
  ⟨O, io, α, τ, E.rt, n, h, fun v tk tmp α' τ' H' n' k r c => l2 v tk tmp α' τ' σ H' n' k r c⟩
def dRetN : DS := fun D τ => D.rt (.v .non) τ
theorem qs_retN : QS Z X (.Return none pos) dRetN := PSmono ps_retN fun D σ H ⟨O, io, α, τ, E, n, h, _, l2, _, _⟩ => l2 .non (.v .non) none α τ σ H n .refl ⟨rfl, .non⟩ h
/-! if -/
def dIf (c : DT) (t u : DS) : DS := fun D τ => c τ fun b τ1 => Br b (t D τ1) (u D τ1)
theorem qs_if {c : Expr} {a b : List Stmt} {tc : DT} (hc : QT Z X c tc) (ha : QSs Z X a t) (hb : QSs Z X b u) : QS Z X (.If c a b pos) (dIf tc t u) := PSmono (ps_if hc ha hb) fun D σ H ⟨O, io, α, τ, E, n, h, l1, l2, l3, l4⟩ =>
  ⟨O, io, α, τ, _, n, h, fun b α1 τ1 H1 n1 k q => by
    cases b with
    | true => exact iteT ⟨O, io, α1, τ1, E, n1, q.t rfl, l1.after k, l2.after k, l3.after k, l4.after k⟩
    | false => exact iteF ⟨O, io, α1, τ1, E, n1, q.f rfl, l1.after k, l2.after k, l3.after k, l4.after k⟩⟩
end

/-! ### a name takes a value -/
section
variable {K : Fg} {O : Ms} {io : List Addr} {tmp : Option Addr} {α : List (Option Addr)} {τ : DSt} {σ : L2.St} {H : Hp}
theorem set_at {β : Type} {l : List β} {i : Nat} {x : β} (h : i < l.length) : (l.set i x)[i]? = some x := List.getElem?_set_self h
theorem set_off {β : Type} {l : List β} {i j : Nat} {x : β} (h : j ≠ i) : (l.set i x)[j]? = l[j]? := List.getElem?_set_ne (Ne.symm h)
/-- .. a plain one -/
theorem Now.asg {i : Nat} {v : V} {t : T} (n : Now K O io none α τ σ H) (h : VT K (Mu O α none) H v t) : Now K O io none (α.set i none) (setSlot τ i (some (.val t))) (σ.set i (some v)) H :=
  n.setVal (by rw [List.length_set]) (fun j hj => set_off hj) (fun hi => set_at (by rw [← n.lenT]; exact hi)) (h.keep (.of_anti Mu.dropped))
theorem Mu.taken {i : Nat} {p : Addr} : ∀ a, Mu O (α.set i (some p)) none a → Mu O α (some p) a := fun a h => by
  rcases h with h | ⟨j, h⟩ | h
  · exact .inl h
  · rcases getα h with ⟨_, z⟩ | ⟨_, z⟩
    · exact .inr (.inr z.symm)
    · exact .inr (.inl ⟨j, z⟩)
  · cases h
/-- .. a new list -/
theorem Now.asgNew {i : Nat} {p : Addr} {vs : List V} {ts : List T} (n : Now K O io (some p) α τ σ H) (e : H p = some (.lst vs)) (h : VTs K (Mu O α (some p)) H vs ts) :
    Now K O io none (α.set i (some p)) (setSlot τ i (some (.own ts))) (σ.set i (some (.ref p))) H := by
  rw [setSlot_eq]
  have k : Kp0 (Mu O α (some p)) H (Mu O (α.set i (some p)) none) H := .of_anti Mu.taken
  obtain ⟨t1, t2⟩ := n.tm p rfl
  refine ⟨by simp only [List.length_set]; exact n.lenT, by simp only [List.length_set]; exact n.lenA, fun j s es => ?_, fun j1 j2 a e1 e2 => ?_, fun j a ea => ?_, fun p z => (by cases z), fun a ha => ?_, n.tb⟩
  · by_cases hj : j = i
    · subst hj
      have hl : j < (τ.set j (some (Slot.own ts))).length := (List.getElem?_eq_some_iff.mp es).1
      rw [List.length_set] at hl
      rw [set_at hl] at es
      cases es
      exact ⟨p, vs, set_at (by rw [n.lenA, ← n.lenT]; exact hl), set_at (by rw [← n.lenT]; exact hl), e, h.keep k⟩
    · rw [set_off hj] at es
      have q := n.slot j s es
      cases s with
      | val t => obtain ⟨v, e, h⟩ := q; exact ⟨v, by rw [set_off hj]; exact e, h.keep k⟩
      | own ts => obtain ⟨a, vs, e1, e2, e3, h⟩ := q; exact ⟨a, vs, by rw [set_off hj]; exact e1, by rw [set_off hj]; exact e2, e3, h.keep k⟩
      | io m ts => obtain ⟨a, vs, e0, e1, e2, e3, h⟩ := q; exact ⟨a, vs, e0, by rw [set_off hj]; exact e1, by rw [set_off hj]; exact e2, e3, h.keep k⟩
  · rcases getα e1 with ⟨x1, z1⟩ | ⟨x1, z1⟩ <;> rcases getα e2 with ⟨x2, z2⟩ | ⟨x2, z2⟩
    · rw [x1, x2]
    · cases z1; exact absurd z2 (t2 j2)
    · cases z2; exact absurd z1 (t2 j1)
    · exact n.nd j1 j2 a z1 z2
  · rcases getα ea with ⟨_, z⟩ | ⟨_, z⟩
    · cases z; exact t1
    · exact n.nO j a z
  · rcases Mu.taken a ha with z | z | z
    · exact n.tr a (.inl z)
    · exact n.tr a (.inr (.inl z))
    · cases z; exact ⟨vs, e⟩
end
/-- x = what has come: a new list becomes this frame's own, a list of another name is frozen -/
def asgTo (i : Nat) (k : DSt → Prop) : DK := fun tk τ => match tk with
  | .fr ts => k (setSlot τ i (some (.own ts)))
  | tk => froze τ tk fun t τ1 => k (setSlot τ1 i (some (.val t)))
theorem asg_ok {K : Fg} {O : Ms} {io : List Addr} {tmp : Option Addr} {α α0 : List (Option Addr)} {τ : DSt} {σ : L2.St} {H H0 : Hp} {i : Nat} {v : V} {tk : Tok} {E : DSt → Prop} {D : L2.St → Hp → Prop}
    (n : Now K O io tmp α τ σ H) (k : Kp O (Mu O α0 none) H0 (Mu O α tmp) H) (r : Res K O α tmp σ H v tk) (h : asgTo i E tk τ) (l : Lk K O io (Mu O α0 none) H0 E D) : D (σ.set i (some v)) H := by
  have other : ∀ (tk' : Tok), TokOk K (Mu O α none) σ H v tk' → Now K O io none α τ σ H → Kp O (Mu O α0 none) H0 (Mu O α none) H → froze τ tk' (fun t τ1 => E (setSlot τ1 i (some (.val t)))) → D (σ.set i (some v)) H := fun tk' r n k h => by
    obtain ⟨t, α', τ', n', a', q, h⟩ := froze_ok n r h
    exact l _ _ _ _ (n'.asg q) ((k.trans (.of_anti a')).trans (.of_anti Mu.dropped)) h
  cases tk with
  | v t => obtain ⟨e, r⟩ := r; subst e; exact other (.v t) r n k h
  | s j => obtain ⟨e, r⟩ := r; subst e; exact other (.s j) r n k h
  | fr ts =>
    obtain ⟨p, vs, rfl, rfl, e, hv⟩ := r
    exact l _ _ _ _ (n.asgNew e hv) (k.trans (.of_anti Mu.taken)) h
def dAsg (i : Nat) (te : DE) : DS := fun D τ => te τ fun tk τ1 => asgTo i D.nx tk τ1
section
variable {X : Cx} {pos : Pos}
theorem dasg_lift {i : Nat} {te : DE} {D : Ends} {σ : L2.St} {H : Hp} (h : liftS (kz Z X) (dAsg i te) D σ H) : tAsg (liftE (kz Z X) te) (gName i) D σ H := by
  obtain ⟨O, io, α, τ, E, n, h, l1, _, _, _⟩ := h
  exact ⟨O, io, α, τ, _, n, h, fun v tk tmp α' τ' H' n' k r c => asg_ok n' k r c l1⟩
theorem qs_set {i : Nat} {x : Str} {e : Expr} {te : DE} {pos' : Pos} (hN : X.N.Nodup) (hi : X.N[i]? = some x) (hx : Loc X.env.scope x) (he : QE Z X e te) (hs : swapsWith e (some (.Name x pos')) pos.line X.env = pure false := by rfl)
    (hf : X.fn x = true ∨ X.env.scope.names.lookup x = some .local := by first | exact .inl rfl | exact .inr rfl | assumption) : QS Z X (.Assign [.Name x pos'] e pos) (dAsg i te) :=
  PSmono (ps_set hN hi hx he hs hf) fun _ _ _ => dasg_lift
/-! x op= e -/
def dAug (i : Nat) (r : T → T → (Tok → Prop) → Prop) (te : DE) : DS := fun D τ => match slotAt τ i with
  | some (.val a) => te τ fun tk τ1 => use τ1 tk fun b => r a b fun z => asgTo i D.nx z τ1
  | _ => False
theorem aug_set {op : Operator} {r : T → T → (Tok → Prop) → Prop} (ho : OpD Z X (inplaceOp op) r) {i : Nat} {x : Str} {e : Expr} {te : DE} {pos' : Pos} (hN : X.N.Nodup) (hi : X.N[i]? = some x) (hx : Loc X.env.scope x) (he : QE Z X e te)
    (hf : X.fn x = true ∨ X.env.scope.names.lookup x = some .local := by first | exact .inl rfl | exact .inr rfl | assumption) : QS Z X (.AugAssign (.Name x pos') op e pos) (dAug i r te) :=
  PSmono (ps_aug hN hi hx he ho.opr hf) fun D σ H ⟨O, io, α, τ, E, n, h, l1, _, _, _⟩ => by
    unfold dAug at h
    split at h
    · next a ea =>
      obtain ⟨v, e2, q⟩ := n.slot i _ (slotAt_iff.mp ea)
      refine ⟨v, e2, one n h fun u tk α1 τ1 H1 n1 k1 r1 c => ?_⟩
      rw [← use_weak] at c
      obtain ⟨b, cb, c⟩ := use_ok n1 r1 c
      exact ⟨O, io, α1, τ1, σ, a, b, _, n1, .inl (q.keep k1.toKp0), cb, c, fun z H2 ⟨tk2, tmp, n2, k2, r2, c2⟩ => asg_ok n2 (k1.trans k2) r2 c2 l1⟩
    · exact h.elim
theorem ip_add : OpD Z X (inplaceOp .Add) (fun a b k => match a, b with | .int i, .int j => k (.v (.int (i + j))) | _, _ => False) := by
  intro pins s σ H x y v u O io α τ ρ a b k I n rx ry ha hb h
  cases a <;> cases b <;> first | exact h.elim | skip
  cases ha.int; cases hb.int
  exact iop_add pins s σ H _ _ v u _ I rx ry ⟨_, _, rfl, rfl, .val n (.int _) h⟩
theorem ip_sub : OpD Z X (inplaceOp .Sub) opSub := by
  intro pins s σ H x y v u O io α τ ρ a b k I n rx ry ha hb h
  cases a <;> cases b <;> first | exact h.elim | skip
  cases ha.int; cases hb.int
  exact iop_sub pins s σ H _ _ v u _ I rx ry ⟨_, _, rfl, rfl, .val n (.int _) h⟩
end

/-! ### an own list changes -/
/-- the list that slot i holds to be written, and how to put another there -/
def ownOf : Option Slot → Option (List T × (List T → Slot))
  | some (.own ts) => some (ts, .own)
  | some (.io k ts) => some (ts, .io k)
  | _ => none
section
variable {K : Fg} {O : Ms} {io : List Addr} {α : List (Option Addr)} {τ : DSt} {σ : L2.St} {H : Hp}
theorem own_at {i : Nat} {ts : List T} {mk : List T → Slot} (n : Now K O io none α τ σ H) (h : ownOf (slotAt τ i) = some (ts, mk)) :
    ∃ a vs, α[i]? = some (some a) ∧ σ[i]? = some (some (.ref a)) ∧ H a = some (.lst vs) ∧ VTs K (Mu O α none) H vs ts ∧ ∀ vs' ts', VTs K (Mu O α none) H vs' ts' →
      Now K O io none α (setSlot τ i (some (mk ts'))) σ (upd H a (.lst vs')) ∧ Kp O (Mu O α none) H (Mu O α none) (upd H a (.lst vs')) := by
  have main : ∀ (s : Slot) (a : Addr) (vs : List V), τ[i]? = some (some s) → α[i]? = some (some a) → σ[i]? = some (some (.ref a)) → H a = some (.lst vs) → VTs K (Mu O α none) H vs ts →
      (∀ vs' ts' H', H' a = some (.lst vs') → VTs K (Mu O α none) H' vs' ts' → SlotOk K (Mu O α none) io H' σ α i (mk ts')) →
      ∃ a vs, α[i]? = some (some a) ∧ σ[i]? = some (some (.ref a)) ∧ H a = some (.lst vs) ∧ VTs K (Mu O α none) H vs ts ∧ ∀ vs' ts', VTs K (Mu O α none) H vs' ts' →
      Now K O io none α (setSlot τ i (some (mk ts'))) σ (upd H a (.lst vs')) ∧ Kp O (Mu O α none) H (Mu O α none) (upd H a (.lst vs')) := fun s a vs es ea eσ eH hv mkOk => by
    refine ⟨a, vs, ea, eσ, eH, hv, fun vs' ts' hv' => ?_⟩
    have kp : Kp O (Mu O α none) H (Mu O α none) (upd H a (.lst vs')) := by
      refine ⟨⟨fun b xs e => ?_, fun b ob u e => ?_, fun b xs e m => ⟨?_, m⟩, tab_set eH⟩, fun b hb => ?_⟩
      · rw [upd_ne (ne_of e eH (by intro z; cases z))]; exact e
      · rw [upd_ne (ne_of e eH (by intro z; cases z))]; exact e
      · rw [upd_ne (show b ≠ a from fun z => m (z ▸ .inr (.inl ⟨i, ea⟩)))]; exact e
      · rw [upd_ne (show b ≠ a from fun z => n.nO i a ea (z ▸ hb))]
    refine ⟨?_, kp⟩
    rw [setSlot_eq]
    refine ⟨by rw [List.length_set]; exact n.lenT, n.lenA, fun j sl e => ?_, n.nd, n.nO, n.tm, fun b hb => ?_, fun P hP => kp.tab P (n.tb P hP)⟩
    · by_cases hj : j = i
      · subst hj
        have hl : j < (τ.set j (some (mk ts'))).length := (List.getElem?_eq_some_iff.mp e).1
        rw [List.length_set] at hl
        rw [set_at hl] at e
        cases e
        exact mkOk vs' ts' _ upd_same (hv'.keep kp.toKp0)
      · rw [set_off hj] at e
        exact (n.slot j sl e).keep kp.toKp0 fun b ws e1 e2 => by rw [upd_ne (show b ≠ a from fun z => hj (n.nd j i a (z ▸ e1) ea))]; exact e2
    · by_cases h : b = a
      · subst h; exact ⟨vs', upd_same⟩
      · obtain ⟨xs, e⟩ := n.tr b hb
        exact ⟨xs, by rw [upd_ne h]; exact e⟩
  cases hs : slotAt τ i with
  | none => rw [hs] at h; cases h
  | some s =>
    rw [hs] at h
    have es := slotAt_iff.mp hs
    cases s with
    | val t => cases h
    | own us =>
      cases h
      obtain ⟨a, vs, e1, e2, e3, q⟩ := n.slot i _ es
      exact main _ a vs es e1 e2 e3 q fun vs' ts' H' e hv => ⟨a, vs', e1, e2, e, hv⟩
    | io m us =>
      cases h
      obtain ⟨a, vs, e0, e1, e2, e3, q⟩ := n.slot i _ es
      exact main _ a vs es e1 e2 e3 q fun vs' ts' H' e hv => ⟨a, vs', e0, e1, e2, e, hv⟩
end
/-! x.append(e) -/
def dAppend (i : Nat) (te : DE) : DS := fun D τ => (ownOf (slotAt τ i)).isSome = true ∧ te τ fun tk τ1 => froze τ1 tk fun t τ2 => match ownOf (slotAt τ2 i) with
  | some (ts, mk) => ts.length < sizeLine ∧ D.nx (setSlot τ2 i (some (mk (ts ++ [t]))))
  | none => False
/-! x[j] = e -/
def setAt (ts : List T) (i : Int) (t : T) : Option (List T) := match i with
  | .ofNat n => if n < ts.length then some (ts.set n t) else none
  | .negSucc n => if n < ts.length then some (ts.set (ts.length - 1 - n) t) else none
theorem setAt_ix {ts us : List T} {i : Int} {t : T} (h : setAt ts i t = some us) : ∃ m, ixN ts.length i = some m ∧ us = ts.set m t := by
  unfold setAt at h
  cases i with
  | ofNat n =>
    dsimp only at h
    split at h
    · next hn =>
      refine ⟨n, ?_, (Option.some.inj h).symm⟩
      show ixN ts.length (n : Int) = some n
      unfold ixN
      rw [if_pos (Int.natCast_nonneg n), if_pos (show (n : Int) < ((ts.length : Nat) : Int) by omega)]
      rfl
    · cases h
  | negSucc n =>
    dsimp only at h
    split at h
    · next hn =>
      refine ⟨ts.length - 1 - n, ?_, (Option.some.inj h).symm⟩
      unfold ixN
      rw [if_neg (show ¬ 0 ≤ Int.negSucc n by omega), if_pos (show -((ts.length : Nat) : Int) ≤ Int.negSucc n by omega)]
      congr 1
      omega
    · cases h
def dSetIx (i : Nat) (tj te : DE) : DS := fun D τ => te τ fun tk τ1 => (ownOf (slotAt τ1 i)).isSome = true ∧ tj τ1 fun jk τ2 => froze τ2 tk fun t τ3 => use τ3 jk fun j => match j, ownOf (slotAt τ3 i) with
  | .int z, some (ts, mk) => ifSome (setAt ts z t) fun us => D.nx (setSlot τ3 i (some (mk us)))
  | _, _ => False
section
variable {X : Cx} {pos : Pos}
theorem own_is {K : Fg} {O : Ms} {io : List Addr} {α : List (Option Addr)} {τ : DSt} {σ : L2.St} {H : Hp} {i : Nat} (n : Now K O io none α τ σ H) (h : (ownOf (slotAt τ i)).isSome = true) : ∃ a vs, σ[i]? = some (some (.ref a)) ∧ H a = some (.lst vs) := by
  obtain ⟨⟨ts, mk⟩, e⟩ := Option.isSome_iff_exists.mp h
  obtain ⟨a, vs, _, e2, e3, _⟩ := own_at n e
  exact ⟨a, vs, e2, e3⟩
theorem qs_append {i : Nat} {x e : Expr} {te : DE} {apos cpos : Pos} (hx : PE X x (tVar i)) (he : QE Z X e te)
    (hbase : attributeBase x "append" X.env (eval x X.env) = eval x X.env := by rfl)
    (hfew : ((backTo cpos (starEach [e] X.env)).all (fun x => !x.1) && (backToKw cpos (keywordEach [] X.env)).all (fun x => x.1.isSome)
      && decide ([e].length + ([] : List Keyword).length + (if ([] : List Keyword).isEmpty then 0 else 1) < 30)) = true := by rfl)
    (hline : (apos.endLine == cpos.line) = true := by rfl) (hplain : (backTo cpos (starEach [] X.env)).any (·.1) = false := by rfl)
    (hs : swapsWith (.Call (.Attribute x "append" apos) [e] [] cpos) none pos.line X.env = pure false := by rfl) (hse : starEach [e] X.env = (false, eval e X.env) :: starEach [] X.env := by rfl) :
    QS Z X (.Expr (.Call (.Attribute x "append" apos) [e] [] cpos) pos) (dAppend i te) :=
  PSmono (ps_expr (pe_bm PySem.F.plainAttrs_list PySem.F.slot_list_append PySem.F.type_list_append mt_append hx (pa_cons he pa_nil hse) hbase hfew hline hse hplain) hs) fun D σ H ⟨O, io, α, τ, E, n, h, l1, _, _, _⟩ => by
    obtain ⟨h0, h⟩ := h
    obtain ⟨a, vs, e1, e2⟩ := own_is n h0
    refine ⟨.ref a, e1, .inl ⟨rfl, vs, SqL.of e2⟩, one n h fun v tk α1 τ1 H1 n1 k1 r1 c => ?_⟩
    rw [← froze_weak] at c
    obtain ⟨t, α2, τ2, n2, a2, q, c⟩ := froze_ok n1 r1 c
    split at c
    · next ts mk em =>
      obtain ⟨b, ws, _, e3, e4, hv, step⟩ := own_at n2 em
      rw [e1] at e3
      cases e3
      obtain ⟨n3, k3⟩ := step (ws ++ [v]) (ts ++ [t]) (hv.append (.cons q .nil))
      exact ⟨a, ws, v, rfl, rfl, e4, by rw [hv.length]; exact c.1, l1 α2 _ σ _ n3 ((k1.trans (.of_anti a2)).trans k3) c.2⟩
    · exact c.elim
theorem qs_setix {i : Nat} {x j e : Expr} {tj te : DE} {pos' : Pos} (hx : PE X x (tVar i)) (hj : QE Z X j tj) (he : QE Z X e te)
    (ha : ∀ v, assign (.Subscript x j pos') X.env v = (do
      let ov ← holding [v] (eval x X.env)
      let iv ← holding [v, ov] (eval j X.env)
      standAt pos'
      holding [v, ov, iv] (setItem ov iv v)
      release [v, ov, iv] []) := by intro _; rfl)
    (hs : swapsWithSole [.Subscript x j pos'] e pos.line X.env = pure false := by rfl) (hw : swappedStores [.Subscript x j pos'] e X.env = pure none := by rfl)
    (h1 : (assignEach [.Subscript x j pos'] X.env).map (·.2) = [assign (.Subscript x j pos') X.env] := by rfl) : QS Z X (.Assign [.Subscript x j pos'] e pos) (dSetIx i tj te) :=
  PSmono (ps_asg he (pg_sub hx hj set_list ha) hs hw h1) fun D σ H ⟨O, io, α, τ, E, n, h, l1, _, _, _⟩ => one n h fun v tk α1 τ1 H1 n1 k1 r1 ⟨h0, c⟩ => by
    obtain ⟨a, vs, e1, e2⟩ := own_is n1 h0
    refine ⟨.ref a, e1, one n1 c fun u jk α2 τ2 H2 n2 k2 r2 c => ?_⟩
    rw [← froze_weak] at c
    obtain ⟨t, α3, τ3, n3, a3, q, c⟩ := froze_ok n2 (r1.keep k2.toKp0) c
    rw [← use_weak] at c
    obtain ⟨b, cb, c⟩ := use_ok n3 (r2.keep (.of_anti a3)) c
    split at c
    · next z ts mk em =>
      cases cb.int
      obtain ⟨b, ws, _, e3, e4, hv, step⟩ := own_at n3 em
      rw [e1] at e3
      cases e3
      obtain ⟨us, eu, c⟩ := ifSome_ok c
      obtain ⟨m, ei, rfl⟩ := setAt_ix eu
      obtain ⟨n4, k4⟩ := step (ws.set m v) (ts.set m t) (hv.set m q)
      exact ⟨a, ws, z, m, rfl, rfl, e4, by rw [hv.length]; exact ei, l1 α3 _ σ _ n4 (((k1.trans k2).trans (.of_anti a3)).trans k4) c⟩
    · exact c.elim
end
end N1
namespace N1
open PySem PySem.Spec PyProof.Rows L2
variable {Z : List Addr}

/-! ### targets -/
abbrev DG := T → DSt → (DSt → Prop) → Prop
abbrev DGs := List T → DSt → (DSt → Prop) → Prop
/-- (only the names vs are touched) -/
def liftG (K : Fg) (vs : List Nat) (g : DG) : TG := fun v σ H Q => ∃ (O : Ms) (io : List Addr) (α : List (Option Addr)) (τ : DSt) (t : T) (R : DSt → Prop), Now K O io none α τ σ H ∧ VT K (Mu O α none) H v t ∧ g t τ R ∧
  ∀ α' τ' σ' H', Now K O io none α' τ' σ' H' → Kp O (Mu O α none) H (Mu O α' none) H' → L2.wipe σ' vs = L2.wipe σ vs → R τ' → Q σ' H'
def liftGs (K : Fg) (vs : List Nat) (g : DGs) : TGs := fun ws σ H Q => ∃ (O : Ms) (io : List Addr) (α : List (Option Addr)) (τ : DSt) (ts : List T) (R : DSt → Prop), Now K O io none α τ σ H ∧ VTs K (Mu O α none) H ws ts ∧ g ts τ R ∧
  ∀ α' τ' σ' H', Now K O io none α' τ' σ' H' → Kp O (Mu O α none) H (Mu O α' none) H' → L2.wipe σ' vs = L2.wipe σ vs → R τ' → Q σ' H'
def dgName (i : Nat) : DG := fun t τ Q => Q (setSlot τ i (some (.val t)))
def dgNil : DGs := fun _ τ Q => Q τ
def dgCons (g : DG) (r : DGs) : DGs := fun ts τ Q => match ts with
  | t :: us => g t τ fun τ1 => r us τ1 Q
  | [] => False
def dgTup (m : Nat) (g : DGs) : DG := fun t τ Q => match t with
  | .tup ts => ts.length = m ∧ g ts τ Q
  | _ => False
theorem wipe_off {σ : L2.St} {j : Nat} : ∀ {vs : List Nat}, j ∉ vs → (L2.wipe σ vs)[j]? = σ[j]?
  | [], _ => rfl
  | v :: vs, h => by
    show ((L2.wipe σ vs).set v none)[j]? = _
    rw [set_off (show j ≠ v from fun z => h (z ▸ List.mem_cons_self)), wipe_off fun z => h (List.mem_cons_of_mem _ z)]
theorem gName_keeps {i : Nat} {vs : List Nat} (h : i ∈ vs) : ∀ (σ : L2.St) (v : V), L2.wipe (σ.set i (some v)) vs = L2.wipe σ vs := by
  induction vs with
  | nil => simp at h
  | cons w vs ih =>
    intro σ v
    show (L2.wipe (σ.set i (some v)) vs).set w none = (L2.wipe σ vs).set w none
    by_cases hi : i ∈ vs
    · rw [ih hi]
    · have e : i = w := (List.mem_cons.mp h).resolve_right hi
      subst e
      refine List.ext_getElem? fun j => ?_
      by_cases hj : j = i
      · subst hj
        by_cases hl : j < σ.length
        · rw [set_at (by rw [wipe_length, List.length_set]; exact hl), set_at (by rw [wipe_length]; exact hl)]
        · rw [List.getElem?_eq_none (by rw [List.length_set, wipe_length, List.length_set]; omega), List.getElem?_eq_none (by rw [List.length_set, wipe_length]; omega)]
      · rw [set_off hj, set_off hj]
        by_cases hv : j ∈ vs
        · have : ∀ (σ : L2.St) (vs : List Nat), j ∈ vs → (L2.wipe σ vs)[j]? = if j < σ.length then some none else none := by
            intro σ vs
            induction vs with
            | nil => intro h; simp at h
            | cons u vs ih2 =>
              intro h
              show ((L2.wipe σ vs).set u none)[j]? = _
              by_cases hu : j = u
              · subst hu
                by_cases hl : j < σ.length
                · rw [set_at (by rw [wipe_length]; exact hl), if_pos hl]
                · rw [List.getElem?_eq_none (by rw [List.length_set, wipe_length]; omega), if_neg hl]
              · rw [set_off hu, ih2 ((List.mem_cons.mp h).resolve_left hu)]
          rw [this _ _ hv, this _ _ hv, List.length_set]
        · rw [wipe_off hv, wipe_off hv, set_off hj]
abbrev QG (Z : List Addr) (X : Cx) (vs : List Nat) (tg : Expr) (g : DG) : Prop := PG X tg (liftG (kz Z X) vs g)
abbrev QGs (Z : List Addr) (X : Cx) (vs : List Nat) (tgs : List Expr) (n : Nat) (g : DGs) : Prop := PGs X tgs (fun ws σ H Q => ws.length = n ∧ liftGs (kz Z X) vs g ws σ H Q)
section
variable {X : Cx} {pos : Pos} {is : List Nat}
theorem PGmono {tg : Expr} {t t' : TG} (h : PG X tg t) (m : ∀ v σ H Q, t' v σ H Q → t v σ H Q) : PG X tg t' := ⟨fun pins s σ H v u Q I r q => h.run pins s σ H v u Q I r (m v σ H Q q)⟩
theorem PGsmono {tg : List Expr} {t t' : TGs} (h : PGs X tg t) (m : ∀ v σ H Q, t' v σ H Q → t v σ H Q) : PGs X tg t' := ⟨fun pins s σ H v u Q I r q => h.run pins s σ H v u Q I r (m v σ H Q q)⟩
theorem qg_name {i : Nat} {x : Expr} (h : PG X x (gName i)) (hi : i ∈ is := by decide) : QG Z X is x (dgName i) := PGmono h fun v σ H Q ⟨O, io, α, τ, t, R, n, hv, h, l⟩ => l _ _ _ _ (n.asg hv) (.of_anti Mu.dropped) (gName_keeps hi σ v) h
theorem qgs_nil : QGs Z X is [] 0 dgNil := PGsmono pgs_nil fun vs σ H Q ⟨hl, O, io, α, τ, ts, R, n, hv, h, l⟩ => ⟨List.length_eq_zero_iff.mp hl, l _ _ _ _ n .refl rfl h⟩
theorem qgs_cons {e : Expr} {es : List Expr} {g : DG} {gs : DGs} {m : Nat} (h1 : QG Z X is e g) (h2 : QGs Z X is es m gs) (hs : (assignEach (e :: es) X.env).map (·.2) = assign e X.env :: (assignEach es X.env).map (·.2) := by rfl) : QGs Z X is (e :: es) (m + 1) (dgCons g gs) :=
  PGsmono (pgs_cons h1 h2 hs) fun vs σ H Q ⟨hl, O, io, α, τ, ts, R, n, hv, h, l⟩ => by
    cases hv with
    | nil => exact h.elim
    | cons hv hvs => exact ⟨_, _, rfl, O, io, α, τ, _, _, n, hv, h, fun α1 τ1 σ1 H1 n1 k1 w1 q => ⟨Nat.succ.inj hl, O, io, α1, τ1, _, R, n1, hvs.keep k1.toKp0, q, fun α2 τ2 σ2 H2 n2 k2 w2 q2 => l α2 τ2 σ2 H2 n2 (k1.trans k2) (w2.trans w1) q2⟩⟩
theorem qg_tup {es : List Expr} {k m : Nat} {g : DGs} (hc : X.calm = true) (h : QGs Z X is es m g) (hn : (assignEach es X.env).length = m := by rfl) (hst : (assignEach es X.env).findIdx? (·.1) = none := by rfl) : QG Z X is (.Tuple es k pos) (dgTup m g) :=
  PGmono (pg_tup hc h hn hst) fun v σ H Q ⟨O, io, α, τ, t, R, n, hv, h, l⟩ => by
    cases hv with
    | tup e hvs => exact ⟨_, _, rfl, e, by rw [hvs.length]; exact h.1, by rw [hvs.length]; exact h.1, O, io, α, τ, _, R, n, hvs, h.2, l⟩
    | _ => exact h.elim
/-! a, b = e -/
def dAsgG (te : DE) (g : DG) : DS := fun D τ => te τ fun tk τ1 => froze τ1 tk fun t τ2 => g t τ2 D.nx
theorem qs_asgG {tg e : Expr} {te : DE} {g : DG} (he : QE Z X e te) (hg : QG Z X is tg g) (hs : swapsWithSole [tg] e pos.line X.env = pure false := by rfl) (hw : swappedStores [tg] e X.env = pure none := by rfl)
    (h1 : (assignEach [tg] X.env).map (·.2) = [assign tg X.env] := by rfl) : QS Z X (.Assign [tg] e pos) (dAsgG te g) :=
  PSmono (ps_asg he hg hs hw h1) fun D σ H ⟨O, io, α, τ, E, n, h, l1, _, _, _⟩ => one n h fun v tk α1 τ1 H1 n1 k1 r1 c => by
    rw [← froze_weak] at c
    obtain ⟨t, α2, τ2, n2, a2, q, c⟩ := froze_ok n1 r1 c
    exact ⟨O, io, α2, τ2, t, _, n2, q, c, fun α3 τ3 σ3 H3 n3 k3 _ q3 => l1 α3 τ3 σ3 H3 n3 ((k1.trans (.of_anti a2)).trans k3) q3⟩
end

/-! ### what a loop walks -/
/-- J yields the plain values ts, as long as what stood at M0, H0 is kept -/
structure Feed (K : Fg) (M0 : Ms) (H0 : Hp) (J : It) (ts : List T) : Prop where
  go : ∀ i M H, Kp0 M0 H0 M H → i < ts.length → J.go i H
  yld : ∀ i M H, Kp0 M0 H0 M H → i < ts.length → ∀ v H', J.yld i H v H' → (H' = H ∨ ∃ p xs, H p = none ∧ H' = upd H p (.tup xs)) ∧ ∃ t, ts[i]? = some t ∧ ((∀ a xs, H a = some xs → H' a = some xs) → VT K M H' v t)
  stop : ∀ i M H, Kp0 M0 H0 M H → ts.length ≤ i → J.stop i H
abbrev DI := DSt → (List T → DSt → Prop) → Prop
def liftI (K : Fg) (d : DI) : TI := fun σ H R => ∃ (O : Ms) (io : List Addr) (α : List (Option Addr)) (τ : DSt) (C : List T → DSt → Prop), Now K O io none α τ σ H ∧ d τ C ∧
  ∀ J ts α' τ' H', Now K O io none α' τ' σ H' → Kp O (Mu O α none) H (Mu O α' none) H' → Feed K (Mu O α' none) H' J ts → ts.length ≤ sizeLine → C ts τ' → R J H'
abbrev QI (Z : List Addr) (X : Cx) (tg iter : Expr) (d : DI) : Prop := PI X tg iter (liftI (kz Z X) d)
theorem PImono {X : Cx} {tg e : Expr} {t t' : TI} (h : PI X tg e t) (m : ∀ σ H Q, t' σ H Q → t σ H Q) : PI X tg e t' := ⟨fun pins s σ H Q I q => h.run pins s σ H Q I (m σ H Q q)⟩
theorem Kp0.new {M : Ms} {H : Hp} {p : Addr} {o : HO} (hp : H p = none) (hm : ∀ a, M a → ∃ xs, H a = some (.lst xs)) : Kp0 M H M (upd H p o) :=
  ⟨fun a xs e => by rw [upd_ne (ne_of_none e hp)]; exact e, fun a ob u e => by rw [upd_ne (ne_of_none e hp)]; exact e, fun a xs e m => ⟨by rw [upd_ne (ne_of_none e hp)]; exact e, m⟩, tab_new hp⟩
section
variable {K : Fg} {M : Ms} {H : Hp} {a : Addr} {vs : List V} {ts : List T}
theorem feed_seq {J : It} (hs : VTs K M H vs ts) (h1 : ∀ i H' v, vs[i]? = some v → (∀ M', Kp0 M H M' H' → J.go i H')) (h2 : ∀ i H' v H2, (∃ M', Kp0 M H M' H') → J.yld i H' v H2 → H2 = H' ∧ vs[i]? = some v) (h3 : ∀ i H', (∃ M', Kp0 M H M' H') → vs.length ≤ i → J.stop i H') : Feed K M H J ts :=
  ⟨fun i M' H' k hi => by
    obtain ⟨v, e, _⟩ := hs.get (List.getElem?_eq_getElem hi)
    exact h1 i H' v e M' k, fun i M' H' k hi v H2 y => by
    obtain ⟨e, ev⟩ := h2 i H' v H2 ⟨M', k⟩ y
    obtain ⟨t, et, ht⟩ := hs.getV ev
    subst e
    exact ⟨.inl rfl, t, et, fun _ => ht.keep k⟩, fun i M' H' k hi => h3 i H' ⟨M', k⟩ (by rw [hs.length]; exact hi)⟩
theorem feed_list (h : RdL M H a vs) (hs : VTs K M H vs ts) : Feed K M H (Itl K a) ts :=
  feed_seq hs (fun i H' v e M' k => ⟨vs, v, (h.keep k).seq, e⟩) (fun i H' v H2 ⟨M', k⟩ y => ⟨y.1, y.2 vs (h.keep k).seq⟩) fun i H' ⟨M', k⟩ hi => ⟨vs, (h.keep k).seq, hi⟩
theorem feed_lsk (h : RdK K H a vs) (hs : VTs K M H vs ts) : Feed K M H (Itl K a) ts :=
  feed_seq hs (fun i H' v e M' k => ⟨vs, v, (h.keep k).seq, e⟩) (fun i H' v H2 ⟨M', k⟩ y => ⟨y.1, y.2 vs (h.keep k).seq⟩) fun i H' ⟨M', k⟩ hi => ⟨vs, (h.keep k).seq, hi⟩
theorem feed_tup (h : SqT K H a vs) (hs : VTs K M H vs ts) : Feed K M H (Itt K a) ts :=
  feed_seq hs (fun i H' v e M' k => ⟨vs, v, KpT.seq k h, e⟩) (fun i H' v H2 ⟨M', k⟩ y => ⟨y.1, y.2 vs (KpT.seq k h)⟩) fun i H' ⟨M', k⟩ hi => ⟨vs, KpT.seq k h, hi⟩
end
def signs (x : Str) : List T := x.cps.toList.map fun c => .str ⟨#[c]⟩
theorem feed_str {K : Fg} {M : Ms} {H : Hp} {x : Str} (ho : PyData.strOk x = true) : Feed K M H (Its x) (signs x) := by
  have hl : (signs x).length = x.cps.size := by simp [signs]
  refine ⟨fun i M' H' k hi => by rw [hl] at hi; exact hi, fun i M' H' k hi v H2 ⟨e, c, ec, ev⟩ => ?_, fun i M' H' k hi => by rw [hl] at hi; exact hi⟩
  subst e; subst ev
  have ec' : x.cps.toList[i]? = some c := by simpa using ec
  refine ⟨.inl rfl, .str ⟨#[c]⟩, by unfold signs; rw [List.getElem?_map, ec']; rfl, fun _ => .str _ ?_⟩
  unfold PyData.strOk at ho ⊢
  rw [Array.all_eq_true'] at ho
  simpa using ho c (Array.mem_of_getElem? ec)
def intsFrom (lo : Int) : Nat → List T
  | 0 => []
  | n + 1 => .int lo :: intsFrom (lo + 1) n
theorem intsFrom_len (lo : Int) (n : Nat) : (intsFrom lo n).length = n := by
  induction n generalizing lo with
  | zero => rfl
  | succ n ih => rw [intsFrom, List.length_cons, ih]
theorem intsFrom_get : ∀ (n : Nat) (lo : Int) (i : Nat), i < n → (intsFrom lo n)[i]? = some (.int (lo + i))
  | 0, _, i, h => absurd h (Nat.not_lt_zero i)
  | n + 1, lo, 0, _ => by rw [intsFrom]; simp
  | n + 1, lo, i + 1, h => by
    rw [intsFrom, List.getElem?_cons_succ, intsFrom_get n (lo + 1) i (by omega)]
    congr 2
    omega
theorem feed_range {K : Fg} {M : Ms} {H : Hp} {lo : Int} {n : Nat} : Feed K M H (Itr lo n) (intsFrom lo n) := by
  refine ⟨fun i M' H' k hi => by rw [intsFrom_len] at hi; exact hi, fun i M' H' k hi v H2 ⟨e, ev⟩ => ?_, fun i M' H' k hi => by rw [intsFrom_len] at hi; exact hi⟩
  rw [intsFrom_len] at hi
  subst e; subst ev
  exact ⟨.inl rfl, _, intsFrom_get n lo i hi, fun _ => .int _⟩
/-! a list, a tuple or a text, as it comes -/
def iAny (K : Fg) (tl : TE) : TI := fun σ H R => tl σ H fun x H1 => (∃ a xs, x = .ref a ∧ SqL K H1 a xs ∧ (xs.length ≤ sizeLine → R (Itl K a) H1)) ∨ (∃ a xs, x = .ref a ∧ SqT K H1 a xs ∧ (xs.length ≤ sizeLine → R (Itt K a) H1)) ∨ ∃ z, x = .str z ∧ R (Its z) H1
theorem pi_any {X : Cx} {tg e : Expr} {tl : TE} (he : PE X e tl) : PI X tg e (iAny (kz Z X) tl) := by
  refine ⟨fun pins s σ H R I h => thn (he.run pins s σ H _ I h) fun v s1 ⟨x, H1, I1, r1, q1⟩ => ?_⟩
  rcases q1 with ⟨a, xs, rfl, hq, q⟩ | ⟨a, xs, rfl, hq, q⟩ | ⟨z, rfl, q⟩
  · cases r1
    obtain ⟨its, rv, pl, hz⟩ := I1.list hq
    exact wpAny_pyIter_list pl.isList (pi_one (tk := s1.toks) I1 _ (turn_list a _) ⟨_, Heap.get?_push_size _ rfl, rfl, rfl⟩ (q hz))
  · cases r1
    obtain ⟨its, rv, pl, hz⟩ := I1.tuple hq
    exact wpAny_pyIter_tuple pl (pi_one (tk := s1.toks) I1 _ (turn_tuple a _) ⟨_, Heap.get?_push_size _ rfl, rfl, rfl⟩ (q hz))
  · obtain ⟨t, rfl⟩ := r1
    cases ha : z.cps.all (· < 128) with
    | false => exact wpAny_pyIter_wide ha (pi_one (tk := s1.toks) I1 _ (turn_str _ z t "str_iterator" (.inr rfl)) ⟨_, Heap.get?_push_size _ rfl, rfl, rfl⟩ q)
    | true => exact wpAny_pyIter_ascii ha (pi_one (tk := s1.toks) I1 _ (turn_str _ z t "str_ascii_iterator" (.inl rfl)) ⟨_, Heap.get?_push_size _ rfl, rfl, rfl⟩ q)
def diAny (te : DE) : DI := fun τ R => te τ fun tk τ1 => froze τ1 tk fun t τ2 => match t with
  | .tup ts => R ts τ2
  | .lst ts => R ts τ2
  | .lsk ts => R ts τ2
  | .str x => x.length ≤ sizeLine ∧ R (signs x) τ2
  | _ => False
theorem qi_any {X : Cx} {tg e : Expr} {te : DE} (he : QE Z X e te) : QI Z X tg e (diAny te) := PImono (pi_any he) fun σ H R ⟨O, io, α, τ, C, n, h, fin⟩ => one n h fun v tk α1 τ1 H1 n1 k1 r1 c => by
  rw [← froze_weak] at c
  obtain ⟨t, α2, τ2, n2, a2, q, c⟩ := froze_ok n1 r1 c
  have k2 := k1.trans (Kp.of_anti (O := O) (H := H1) a2)
  cases q with
  | tup e hs => exact .inr (.inl ⟨_, _, rfl, e, fun z => fin _ _ α2 τ2 H1 n2 k2 (feed_tup e hs) (by rw [← hs.length]; exact z) c⟩)
  | lst e hs => exact .inl ⟨_, _, rfl, e.seq, fun z => fin _ _ α2 τ2 H1 n2 k2 (feed_list e hs) (by rw [← hs.length]; exact z) c⟩
  | lsk e hs => exact .inl ⟨_, _, rfl, e.seq, fun z => fin _ _ α2 τ2 H1 n2 k2 (feed_lsk e hs) (by rw [← hs.length]; exact z) c⟩
  | str x ho => exact .inr (.inr ⟨_, rfl, fin _ _ α2 τ2 H1 n2 k2 (feed_str ho) (by simp only [signs, List.length_map, Array.length_toList]; exact c.1) c.2⟩)
  | _ => exact c.elim
/-! ranges -/
def diRange1 (te : DE) : DI := fun τ R => te τ fun tk τ1 => use τ1 tk fun t => match t with
  | .int j => (-16777216 ≤ j ∧ j ≤ 16777216) ∧ R (intsFrom 0 j.toNat) τ1
  | _ => False
def diRange2 (ta tb : DE) : DI := fun τ R => ta τ fun x τ1 => tb τ1 fun y τ2 => use τ2 x fun a => use τ2 y fun b => match a, b with
  | .int i, .int j => (-(2 ^ 62) ≤ i ∧ j - i ≤ 16777216 ∧ j < 2 ^ 62 ∧ i < 2 ^ 62 ∧ -(2 ^ 62) ≤ j) ∧ R (intsFrom i (j - i).toNat) τ2
  | _, _ => False
theorem sl_eq : (sizeLine : Nat) = 16777216 := sizeLine_eq
theorem qi_range1 {X : Cx} {tg a : Expr} {ta : DE} {p pos : Pos} (hg : Gl X "range") (hm : X.mg "range" = none) (ha : QE Z X a ta) (hs : starEach [a] X.env = [(false, eval a X.env)] := by rfl) : QI Z X tg (.Call (.Name "range" p) [a] [] pos) (diRange1 ta) :=
  PImono (pi_range1 hg hm (pa_cons ha pa_nil hs) hs) fun σ H R ⟨O, io, α, τ, C, n, h, fin⟩ => one n h fun v tk α1 τ1 H1 n1 k1 r1 c => by
    rw [← use_weak] at c
    obtain ⟨t, ct, c⟩ := use_ok n1 r1 c
    cases t with
    | int j =>
      cases ct.int
      obtain ⟨⟨c0, c1⟩, c⟩ := c
      have hsl := sl_eq
      exact ⟨j, rfl, by omega, by omega, fin _ _ α1 τ1 H1 n1 k1 feed_range (by rw [intsFrom_len]; omega) c⟩
    | _ => exact c.elim
theorem qi_range2 {X : Cx} {tg a b : Expr} {ta tb : DE} {p pos : Pos} (hg : Gl X "range") (hm : X.mg "range" = none) (ha : QE Z X a ta) (hb : QE Z X b tb) (hs : starEach [a, b] X.env = [(false, eval a X.env), (false, eval b X.env)] := by rfl) (hs2 : starEach [b] X.env = [(false, eval b X.env)] := by rfl) :
    QI Z X tg (.Call (.Name "range" p) [a, b] [] pos) (diRange2 ta tb) :=
  PImono (pi_range2 hg hm (pa_cons ha (pa_cons hb pa_nil hs2) (by rw [hs, hs2])) hs hs2) fun σ H R ⟨O, io, α, τ, C, n, h, fin⟩ => two n h fun v u x y α1 τ1 H1 n1 k1 r1 r2 c => by
    rw [← use_weak] at c
    obtain ⟨a, ca, c⟩ := use_ok n1 r1 c
    rw [← use_weak] at c
    obtain ⟨b, cb, c⟩ := use_ok n1 r2 c
    cases a <;> cases b <;> first | exact c.elim | skip
    cases ca.int; cases cb.int
    obtain ⟨⟨c0, c1, c2, c3, c4⟩, c⟩ := c
    have hsl := sl_eq
    exact ⟨_, _, rfl, ⟨c0, c3, c4, c2⟩, fin _ _ α1 τ1 H1 n1 k1 feed_range (by rw [intsFrom_len]; omega) c⟩

/-! ### for -/
/-- what is walked by a rule of its own -/
@[irreducible] def Loop (p : Prop) : Prop := p
theorem Loop.eq (p : Prop) : Loop p = p := by unfold Loop; rfl
theorem Loop.mk {p : Prop} (h : p) : Loop p := by rw [Loop.eq]; exact h
def forL (g : DG) (tb : DS) (D : DEnds) : List T → DSt → Prop
  | [], τ => D.nx τ
  | t :: r, τ => g t τ fun τ1 => tb { D with nx := forL g tb D r, ct := forL g tb D r, bk := D.nx } τ1
def dFor (d : DI) (g : DG) (tb : DS) : DS := fun D τ => d τ fun ts τ1 => Loop (forL g tb D ts τ1)
theorem dFor_eq (d : DI) (g : DG) (tb : DS) : dFor d g tb = fun D τ => d τ fun ts τ1 => forL g tb D ts τ1 := by unfold dFor; simp only [Loop.eq]
theorem Feed.step {K : Fg} {O : Ms} {io : List Addr} {α : List (Option Addr)} {τ : DSt} {σ : L2.St} {M0 : Ms} {H0 H H' : Hp} {J : It} {ts : List T} {i : Nat} {v : V} (F : Feed K M0 H0 J ts) (n : Now K O io none α τ σ H) (k : Kp O M0 H0 (Mu O α none) H) (hi : i < ts.length) (y : J.yld i H v H') :
    Now K O io none α τ σ H' ∧ Kp O (Mu O α none) H (Mu O α none) H' ∧ VT K (Mu O α none) H' v ts[i] := by
  obtain ⟨hh, t, et, hv⟩ := F.yld i _ _ k.toKp0 hi v H' y
  rw [List.getElem?_eq_getElem hi] at et
  cases et
  rcases hh with rfl | ⟨p, xs, hp, rfl⟩
  · exact ⟨n, .refl, hv fun _ _ z => z⟩
  · have kp := kp_new n hp (.tup xs) (.inl rfl)
    exact ⟨now_new n hp _ (.inl rfl), kp, hv fun a xs e => by rw [upd_ne (ne_of_none e hp)]; exact e⟩
section
variable {X : Cx} {pos : Pos}
theorem qs_for {tg iter : Expr} {body : List Stmt} {d : DI} {g : DG} {tb : DS} {is : List Nat} (hp : PassesOwn (model X.prog X.w) X.A X.env X.xe) (hc : X.calm = true) (hi : QI Z X tg iter d) (hg : QG Z X is tg g) (hb : QSs Z X body tb)
    (hs : ∀ x, foldedSetIterable iter X.env x = pure x := by intro _; rfl) : QS Z X (.For tg iter body [] pos) (dFor d g tb) := by
  rw [dFor_eq]
  exact PSmono (ps_for hp hc hi hg hb hs) fun D σ H ⟨O, io, α, τ, E, n, h, l1, l2, l3, l4⟩ => ⟨O, io, α, τ, _, n, h, fun J ts α1 τ1 H1 n1 k1 F hz c =>
    ⟨fun i m σ H => (i ≤ ts.length ∧ m = ts.length - i) ∧ ∃ α τ, Now (kz Z X) O io none α τ σ H ∧ Kp O (Mu O α1 none) H1 (Mu O α none) H ∧ forL g tb E (ts.drop i) τ,
      ⟨ts.length, ⟨Nat.zero_le _, rfl⟩, α1, τ1, n1, .refl, c⟩, fun i m σ H ⟨⟨hi, hm⟩, α2, τ2, n2, k2, c2⟩ => by
      by_cases hlt : i < ts.length
      · rw [List.drop_eq_getElem_cons hlt] at c2
        refine .inr ⟨F.go i _ _ k2.toKp0 hlt, fun σ' H' => ∃ α τ, Now (kz Z X) O io none α τ σ' H' ∧ Kp O (Mu O α1 none) H1 (Mu O α none) H' ∧ forL g tb E (ts.drop (i + 1)) τ,
          fun σ' H' ⟨α3, τ3, n3, k3, c3⟩ => ⟨ts.length - (i + 1), by omega, ⟨hlt, rfl⟩, α3, τ3, n3, k3, c3⟩, fun x H' y => ?_⟩
        obtain ⟨n3, k3, hv⟩ := F.step n2 k2 hlt y
        refine ⟨O, io, α2, τ2, ts[i], _, n3, hv, c2, fun α4 τ4 σ4 H4 n4 k4 _ q => ?_⟩
        have k5 := (k2.trans k3).trans k4
        exact ⟨O, io, α4, τ4, _, n4, q, fun α6 τ6 σ6 H6 n6 k6 q6 => ⟨α6, τ6, n6, k5.trans k6, q6⟩, l2.after (k1.trans k5), l1.after (k1.trans k5), fun α6 τ6 σ6 H6 n6 k6 q6 => ⟨α6, τ6, n6, k5.trans k6, q6⟩⟩
      · have e : i = ts.length := by omega
        subst e
        rw [List.drop_length] at c2
        exact .inl ⟨F.stop _ _ _ k2.toKp0 (Nat.le_refl _), l1 α2 τ2 σ H n2 (k1.trans k2) c2⟩⟩⟩

/-! ### while: by an invariant and a measure -/
def dWhile (c : DT) (tb : DS) : DS := fun D τ => ∃ W : Nat → DSt → Prop, (∃ m, W m τ) ∧ ∀ m τ, W m τ →
  c τ fun b τ1 => if b = true then tb { D with nx := fun τ2 => ∃ m', m' < m ∧ W m' τ2, ct := fun τ2 => ∃ m', m' < m ∧ W m' τ2, bk := D.nx } τ1 else D.nx τ1
theorem qs_while {c : Expr} {body : List Stmt} {tc : DT} {tb : DS} (hp : PassesOwn (model X.prog X.w) X.A X.env X.xe) (hc : QT Z X c tc) (hb : QSs Z X body tb) : QS Z X (.While c body [] pos) (dWhile tc tb) :=
  PSmono (ps_while hp hc hb) fun D σ H ⟨O, io, α, τ, E, n, ⟨W, ⟨m0, w0⟩, turn⟩, l1, l2, l3, l4⟩ =>
    ⟨fun m σ' H' => ∃ α' τ', Now (kz Z X) O io none α' τ' σ' H' ∧ Kp O (Mu O α none) H (Mu O α' none) H' ∧ W m τ', ⟨m0, α, τ, n, .refl, w0⟩, fun m σ1 H1 ⟨α1, τ1, n1, k1, w1⟩ =>
      ⟨O, io, α1, τ1, _, n1, turn m τ1 w1, fun b α2 τ2 H2 n2 k2 q => by
        cases b with
        | true =>
          rw [if_pos rfl] at q ⊢
          have go : ∀ α' τ' σ' H', Now (kz Z X) O io none α' τ' σ' H' → Kp O (Mu O α2 none) H2 (Mu O α' none) H' → (∃ m', m' < m ∧ W m' τ') → ∃ m', m' < m ∧ ∃ α' τ', Now (kz Z X) O io none α' τ' σ' H' ∧ Kp O (Mu O α none) H (Mu O α' none) H' ∧ W m' τ' :=
            fun α' τ' σ' H' n' k' ⟨m', hm, w'⟩ => ⟨m', hm, α', τ', n', (k1.trans k2).trans k', w'⟩
          exact ⟨fun σ' H' => ∃ m', m' < m ∧ ∃ α' τ', Now (kz Z X) O io none α' τ' σ' H' ∧ Kp O (Mu O α none) H (Mu O α' none) H' ∧ W m' τ', fun σ' H' z => z,
            O, io, α2, τ2, _, n2, q, go, l2.after (k1.trans k2), l1.after (k1.trans k2), go⟩
        | false =>
          rw [if_neg (by decide)] at q ⊢
          exact l1 α2 τ2 σ1 H2 n2 (k1.trans k2) q⟩⟩
end

/-! ### comprehensions -/
def wipeT (τ : DSt) : List Nat → DSt
  | [] => τ
  | v :: vs => setSlot (wipeT τ vs) v none
def wipeA (α : List (Option Addr)) : List Nat → List (Option Addr)
  | [] => α
  | v :: vs => (wipeA α vs).set v none
/-- the state without the names vs: they may hold anything, or nothing -/
theorem Now.wipe {K : Fg} {O : Ms} {io : List Addr} {α : List (Option Addr)} {τ : DSt} {σ σ' : L2.St} {H : Hp} (vs : List Nat) (n : Now K O io none α τ σ H) (hl : σ'.length = σ.length) (he : ∀ j, j ∉ vs → σ'[j]? = σ[j]?) :
    Now K O io none (wipeA α vs) (wipeT τ vs) σ' H ∧ ∀ a, Mu O (wipeA α vs) none a → Mu O α none a := by
  have aAt : ∀ (vs : List Nat) (j : Nat), (j ∈ vs → ∀ a, (wipeA α vs)[j]? ≠ some (some a)) ∧ (j ∉ vs → (wipeA α vs)[j]? = α[j]?) := by
    intro vs
    induction vs with
    | nil => intro j; exact ⟨fun h => by simp at h, fun _ => rfl⟩
    | cons v vs ih =>
      intro j
      refine ⟨fun h a e => ?_, fun h => ?_⟩
      · rcases getα e with ⟨_, z⟩ | ⟨z1, z⟩
        · cases z
        · exact (ih j).1 ((List.mem_cons.mp h).resolve_left z1) a z
      · show ((wipeA α vs).set v none)[j]? = _
        rw [set_off (show j ≠ v from fun z => h (z ▸ List.mem_cons_self)), (ih j).2 fun z => h (List.mem_cons_of_mem _ z)]
  have tAt : ∀ (vs : List Nat) (j : Nat), (j ∈ vs → ∀ s, (wipeT τ vs)[j]? ≠ some (some s)) ∧ (j ∉ vs → (wipeT τ vs)[j]? = τ[j]?) := by
    intro vs
    induction vs with
    | nil => intro j; exact ⟨fun h => by simp at h, fun _ => rfl⟩
    | cons v vs ih =>
      intro j
      refine ⟨fun h s e => ?_, fun h => ?_⟩
      · unfold wipeT at e
        rw [setSlot_eq] at e
        by_cases z1 : j = v
        · subst z1
          have hl : j < ((wipeT τ vs).set j none).length := (List.getElem?_eq_some_iff.mp e).1
          rw [List.length_set] at hl
          rw [set_at hl] at e
          cases e
        · rw [set_off z1] at e
          exact (ih j).1 ((List.mem_cons.mp h).resolve_left z1) s e
      · unfold wipeT
        rw [setSlot_eq, set_off (show j ≠ v from fun z => h (z ▸ List.mem_cons_self)), (ih j).2 fun z => h (List.mem_cons_of_mem _ z)]
  have tl : ∀ vs, (wipeT τ vs).length = τ.length := by
    intro vs
    induction vs with
    | nil => rfl
    | cons v vs ih => unfold wipeT; rw [setSlot_eq, List.length_set, ih]
  have al : ∀ vs, (wipeA α vs).length = α.length := by
    intro vs
    induction vs with
    | nil => rfl
    | cons v vs ih => unfold wipeA; rw [List.length_set, ih]
  have mu : ∀ a, Mu O (wipeA α vs) none a → Mu O α none a := fun a h => by
    rcases h with h | ⟨j, h⟩ | h
    · exact .inl h
    · by_cases hj : j ∈ vs
      · exact absurd h ((aAt vs j).1 hj a)
      · rw [(aAt vs j).2 hj] at h
        exact .inr (.inl ⟨j, h⟩)
    · cases h
  have noA : ∀ {j : Nat} {a : Addr}, (wipeA α vs)[j]? = some (some a) → j ∉ vs ∧ α[j]? = some (some a) := fun {j a} h => by
    have hj : j ∉ vs := fun z => (aAt vs j).1 z a h
    exact ⟨hj, by rw [← (aAt vs j).2 hj]; exact h⟩
  refine ⟨⟨by rw [tl, hl]; exact n.lenT, by rw [al, hl]; exact n.lenA, fun j s e => ?_, fun i j a e1 e2 => n.nd i j a (noA e1).2 (noA e2).2, fun i a e => n.nO i a (noA e).2, fun p z => (by cases z), fun a h => n.tr a (mu a h), n.tb⟩, mu⟩
  have hj : j ∉ vs := fun z => (tAt vs j).1 z s e
  rw [(tAt vs j).2 hj] at e
  have q := n.slot j s e
  have k : Kp0 (Mu O α none) H (Mu O (wipeA α vs) none) H := .of_anti mu
  cases s with
  | val t => obtain ⟨v, e, h⟩ := q; exact ⟨v, by rw [he j hj]; exact e, h.keep k⟩
  | own ts => obtain ⟨a, ws, e1, e2, e3, h⟩ := q; exact ⟨a, ws, by rw [(aAt vs j).2 hj]; exact e1, by rw [he j hj]; exact e2, e3, h.keep k⟩
  | io m ts => obtain ⟨a, ws, e0, e1, e2, e3, h⟩ := q; exact ⟨a, ws, e0, by rw [(aAt vs j).2 hj]; exact e1, by rw [he j hj]; exact e2, e3, h.keep k⟩
def lcL (vs : List Nat) (g : DG) (tt : DT) (te : DE) (Q : DK) : List T → List T → DSt → Prop
  | [], acc, τ => Q (.fr acc) τ
  | t :: r, acc, τ => g t τ fun τ2 => tt τ2 fun b τ3 => Br b (te τ3 fun tk τ4 => froze τ4 tk fun y τ5 => lcL vs g tt te Q r (acc ++ [y]) (wipeT τ5 vs)) (lcL vs g tt te Q r acc (wipeT τ3 vs))
def dLc (vs : List Nat) (d : DI) (g : DG) (tt : DT) (te : DE) : DE := fun τ Q => d τ fun ts τ1 => Loop (lcL vs g tt te Q ts [] (wipeT τ1 vs))
theorem dLc_eq (vs : List Nat) (d : DI) (g : DG) (tt : DT) (te : DE) : dLc vs d g tt te = fun τ Q => d τ fun ts τ1 => lcL vs g tt te Q ts [] (wipeT τ1 vs) := by unfold dLc; simp only [Loop.eq]
/-! the comprehension's own rule -/
def dYes : DT := fun τ Q => Q true τ
abbrev QTs (Z : List Addr) (X : Cx) (ifs : List Expr) (t : DT) : Prop := PTs X ifs (liftT (kz Z X) t)
theorem PTsmono {X : Cx} {ifs : List Expr} {t t' : TT} (h : PTs X ifs t) (m : ∀ σ H Q, t' σ H Q → t σ H Q) : PTs X ifs t' := ⟨fun pins s σ H Q I q => h.run pins s σ H Q I (m σ H Q q)⟩
theorem qts_nil {X : Cx} : QTs Z X [] dYes := PTsmono pts_nil fun σ H Q ⟨O, io, α, τ, R, n, h, fin⟩ => fin true α τ H n .refl h
theorem qts_one {X : Cx} {c : Expr} {t : DT} (h : QT Z X c t) : QTs Z X [c] t := pts_one h
def Ov (O : Ms) (D : Addr) : Ms := fun a => O a ∨ a = D
section
variable {K : Fg} {O : Ms} {io : List Addr} {α : List (Option Addr)} {τ : DSt} {σ : L2.St} {H : Hp} {D : Addr}
theorem Ov.into : ∀ a, Mu (Ov O D) α none a → Mu O α (some D) a := fun a h => by
  rcases h with (h | h) | h | h
  · exact .inl h
  · exact .inr (.inr (h ▸ rfl))
  · exact .inr (.inl h)
  · cases h
theorem Ov.back : ∀ a, Mu O α (some D) a → Mu (Ov O D) α none a := fun a h => by
  rcases h with h | h | h
  · exact .inl (.inl h)
  · exact .inr (.inl h)
  · exact .inl (.inr (Option.some.inj h).symm)
theorem Now.over {vs : List V} (n : Now K O io (some D) α τ σ H) (e : H D = some (.lst vs)) : Now K (Ov O D) io none α τ σ H :=
  ⟨n.lenT, n.lenA, fun i s q => (n.slot i s q).keep (.of_anti Ov.into) fun _ _ _ z => z, n.nd, fun i a q z => by
    rcases z with z | z
    · exact n.nO i a q z
    · exact (n.tm D rfl).2 i (z ▸ q), fun _ z => (by cases z), fun a h => by
    rcases h with (h | h) | h | h
    · exact n.tr a (.inl h)
    · exact ⟨vs, h ▸ e⟩
    · exact n.tr a (.inr (.inl h))
    · (cases h), n.tb⟩
theorem Now.under (n : Now K (Ov O D) io none α τ σ H) (hD : ¬ O D) : Now K O io (some D) α τ σ H :=
  ⟨n.lenT, n.lenA, fun i s q => (n.slot i s q).keep (.of_anti Ov.back) fun _ _ _ z => z, n.nd, fun i a q z => n.nO i a q (.inl z), fun p z => by
    cases z
    exact ⟨hD, fun i q => n.nO i D q (.inr rfl)⟩, fun a h => by
    rcases h with h | h | h
    · exact n.tr a (.inl (.inl h))
    · exact n.tr a (.inr (.inl h))
    · (cases h), n.tb⟩
/-- the list at D, that only the comprehension writes -/
theorem Now.push {vs ws : List V} (n : Now K (Ov O D) io none α τ σ H) (hD : ¬ O D) : Now K (Ov O D) io none α τ σ (upd H D (.lst ws)) ∧ (H D = some (.lst vs) → Kp O (Mu (Ov O D) α none) H (Mu (Ov O D) α none) (upd H D (.lst ws))) := by
  obtain ⟨vs', e'⟩ := n.tr D (.inl (.inr rfl))
  have kp : Kp O (Mu (Ov O D) α none) H (Mu (Ov O D) α none) (upd H D (.lst ws)) := by
    refine ⟨⟨fun b xs e => ?_, fun b ob u e => ?_, fun b xs e m => ⟨?_, m⟩, tab_set e'⟩, fun b hb => ?_⟩
    · rw [upd_ne (ne_of e e' (by intro z; cases z))]; exact e
    · rw [upd_ne (ne_of e e' (by intro z; cases z))]; exact e
    · rw [upd_ne (show b ≠ D from fun z => m (.inl (.inr z)))]; exact e
    · rw [upd_ne (show b ≠ D from fun z => hD (z ▸ hb))]
  refine ⟨⟨n.lenT, n.lenA, fun i s q => (n.slot i s q).keep kp.toKp0 fun a xs e1 e2 => by rw [upd_ne (show a ≠ D from fun z => n.nO i a e1 (.inr z))]; exact e2, n.nd, n.nO, n.tm, fun a h => ?_, fun P hP => kp.tab P (n.tb P hP)⟩, fun _ => kp⟩
  by_cases z : a = D
  · subst z; exact ⟨ws, upd_same⟩
  · obtain ⟨xs, e⟩ := n.tr a h
    exact ⟨xs, by rw [upd_ne z]; exact e⟩
end
theorem lc_lift {K : Fg} {vs : List Nat} {d : DI} {g : DG} {tt : DT} {te : DE} {σ : L2.St} {H : Hp} {Q : VK} (h : liftE K (dLc vs d g tt te) σ H Q) : tLc (liftI K d) (liftG K vs g) (liftT K tt) (liftE K te) vs σ H Q := by
  rw [dLc_eq] at h
  obtain ⟨O, io, α, τ, R, n, h, fin⟩ := h
  refine ⟨O, io, α, τ, _, n, h, fun J ts α1 τ1 H1 n1 k1 F hz c D hD => ?_⟩
  have nOD : ¬ O D := fun z => by
    obtain ⟨xs, e⟩ := n1.tr D (.inl z)
    rw [hD] at e
    cases e
  have kD := kp_new n1 hD (.lst []) (.inr rfl)
  have nD := (now_new n1 hD (.lst []) (.inr rfl)).over upd_same
  have kD' : Kp O (Mu O α1 none) H1 (Mu (Ov O D) α1 none) (upd H1 D (.lst [])) := kD.anti Ov.into
  refine ⟨fun i m H => (i ≤ ts.length ∧ m = ts.length - i) ∧ ∃ (α' : List (Option Addr)) (τ' : DSt) (σ' : L2.St) (acc : List T) (ws : List V), Now K (Ov O D) io none α' τ' σ' H ∧ (σ'.length = σ.length ∧ ∀ j, j ∉ vs → σ'[j]? = σ[j]?) ∧
      Kp O (Mu O α1 none) H1 (Mu (Ov O D) α' none) H ∧ H D = some (.lst ws) ∧ VTs K (Mu (Ov O D) α' none) H ws acc ∧ acc.length ≤ i ∧ lcL vs g tt te R (ts.drop i) acc (wipeT τ' vs),
    ⟨ts.length, ⟨Nat.zero_le _, rfl⟩, α1, τ1, σ, [], [], nD, ⟨rfl, fun _ _ => rfl⟩, kD', upd_same, .nil, Nat.le_refl _, c⟩, fun i m H2 ⟨⟨hi, hm⟩, α2, τ2, σ2, acc, ws, n2, ⟨hl2, he2⟩, k2, eD, hacc, hle, c2⟩ => ?_⟩
  have hwl : (L2.wipe σ vs).length = σ.length := wipe_length σ vs
  by_cases hlt : i < ts.length
  · rw [List.drop_eq_getElem_cons hlt] at c2
    refine .inr ⟨F.go i _ _ k2.toKp0 hlt, fun H' => ∃ (α' : List (Option Addr)) (τ' : DSt) (σ' : L2.St) (acc : List T) (ws : List V), Now K (Ov O D) io none α' τ' σ' H' ∧ (σ'.length = σ.length ∧ ∀ j, j ∉ vs → σ'[j]? = σ[j]?) ∧
      Kp O (Mu O α1 none) H1 (Mu (Ov O D) α' none) H' ∧ H' D = some (.lst ws) ∧ VTs K (Mu (Ov O D) α' none) H' ws acc ∧ acc.length ≤ i + 1 ∧ lcL vs g tt te R (ts.drop (i + 1)) acc (wipeT τ' vs),
      fun H' z => ⟨ts.length - (i + 1), by omega, ⟨hlt, rfl⟩, z⟩, fun x H3 y => ?_⟩
    -- the state at the turn's start: the comprehension's names are wiped
    obtain ⟨nw, mw⟩ := n2.wipe (σ' := L2.wipe σ vs) vs (by rw [hwl, hl2]) fun j hj => by rw [wipe_off hj, he2 j hj]
    obtain ⟨hh, t, et, hv⟩ := F.yld i _ _ k2.toKp0 hlt x H3 y
    rw [List.getElem?_eq_getElem hlt] at et
    cases et
    have step3 : Now K (Ov O D) io none (wipeA α2 vs) (wipeT τ2 vs) (L2.wipe σ vs) H3 ∧ Kp (Ov O D) (Mu (Ov O D) α2 none) H2 (Mu (Ov O D) (wipeA α2 vs) none) H3 ∧ VT K (Mu (Ov O D) (wipeA α2 vs) none) H3 x ts[i] := by
      rcases hh with rfl | ⟨p, xs, hp, rfl⟩
      · exact ⟨nw, .of_anti mw, (hv fun _ _ z => z).keep (.of_anti mw)⟩
      · have kp := kp_new nw hp (.tup xs) (.inl rfl)
        exact ⟨now_new nw hp _ (.inl rfl), (Kp.of_anti mw).trans kp, (hv fun a xs e => by rw [upd_ne (ne_of_none e hp)]; exact e).keep (.of_anti mw)⟩
    obtain ⟨n3, k3, hv3⟩ := step3
    refine ⟨Ov O D, io, _, _, ts[i], _, n3, hv3, c2, fun α4 τ4 σ4 H4 n4 k4 w4 q4 => ⟨?_, ?_⟩⟩
    · rw [w4]
      refine List.ext_getElem? fun j => ?_
      by_cases hj : j ∈ vs
      · have := L2.wipe_length σ vs
        have wat : ∀ (ρ : L2.St) (us : List Nat), j ∈ us → (L2.wipe ρ us)[j]? = if j < ρ.length then some none else none := by
          intro ρ us
          induction us with
          | nil => intro h; simp at h
          | cons u us ih2 =>
            intro h
            show ((L2.wipe ρ us).set u none)[j]? = _
            by_cases hu : j = u
            · subst hu
              by_cases hl : j < ρ.length
              · rw [set_at (by rw [wipe_length]; exact hl), if_pos hl]
              · rw [List.getElem?_eq_none (by rw [List.length_set, wipe_length]; omega), if_neg hl]
            · rw [set_off hu, ih2 ((List.mem_cons.mp h).resolve_left hu)]
        rw [wat _ _ hj, wat _ _ hj, wipe_length]
      · rw [wipe_off hj]
    · have hl4 : σ4.length = σ.length := by rw [← wipe_length σ4 vs, w4, wipe_length, wipe_length]
      have he4 : ∀ j, j ∉ vs → σ4[j]? = σ[j]? := fun j hj => by rw [← wipe_off (σ := σ4) hj, w4, wipe_off hj, wipe_off hj]
      have k24 := k3.trans k4
      have eD4 : H4 D = some (.lst ws) := (k24.far D (.inr rfl)).trans eD
      refine ⟨Ov O D, io, α4, τ4, _, n4, q4, fun b α5 τ5 H5 n5 k5 q5 => ?_⟩
      have k25 := k24.trans k5
      have eD5 : H5 D = some (.lst ws) := (k25.far D (.inr rfl)).trans eD
      have far : ∀ {M M' : Ms} {H H' : Hp}, Kp (Ov O D) M H M' H' → Kp O M H M' H' := fun k => ⟨k.toKp0, fun a h => k.far a (.inl h)⟩
      cases b with
      | false =>
        refine iteF ?_
        exact ⟨α5, τ5, σ4, acc, ws, n5, ⟨hl4, he4⟩, k2.trans (far k25), eD5, hacc.keep k25.toKp0, by omega, q5.f rfl⟩
      | true =>
        refine iteT (one n5 (q5.t rfl) fun v tk α6 τ6 H6 n6 k6 r6 c6 => ?_)
        rw [← froze_weak] at c6
        obtain ⟨t, α7, τ7, n7, a7, q7, c7⟩ := froze_ok n6 r6 c6
        have k27 := (k25.trans k6).trans (Kp.of_anti (O := Ov O D) (H := H6) a7)
        have eD6 : H6 D = some (.lst ws) := (k27.far D (.inr rfl)).trans eD
        obtain ⟨n8, k8⟩ := n7.push (vs := ws) (ws := ws ++ [v]) nOD
        have hv8 : VTs K (Mu (Ov O D) α7 none) (upd H6 D (.lst (ws ++ [v]))) (ws ++ [v]) (acc ++ [t]) := ((hacc.keep k27.toKp0).append (.cons q7 .nil)).keep (k8 eD6).toKp0
        exact ⟨ws, eD6, by rw [hacc.length]; omega, α7, τ7, σ4, acc ++ [t], ws ++ [v], n8, ⟨hl4, he4⟩, (k2.trans (far k27)).trans (k8 eD6), upd_same, hv8, by rw [List.length_append]; exact Nat.succ_le_succ hle, c7⟩
  · have e : i = ts.length := by omega
    subst e
    rw [List.drop_length] at c2
    obtain ⟨nw, mw⟩ := n2.wipe (σ' := σ) vs hl2.symm fun j hj => (he2 j hj).symm
    have ku : Kp O (Mu (Ov O D) α2 none) H2 (Mu O (wipeA α2 vs) (some D)) H2 := .of_anti fun a h => mw a (Ov.back a h)
    exact .inl ⟨F.stop _ _ _ k2.toKp0 (Nat.le_refl _), fin (.ref D) (.fr acc) (some D) (wipeA α2 vs) _ H2 (nw.under nOD) ((k1.trans k2).trans ku) ⟨D, ws, rfl, rfl, eD, hacc.keep ku.toKp0⟩ c2⟩
theorem qe_lc {X : Cx} {elt tg iter : Expr} {ifs : List Expr} {scope : Scope} {own : List (Str × Nat)} {pos : Pos} {d : DI} {g : DG} {tt : DT} {te : DE} (hc : X.calm = true) (hN : X.N.Nodup) (hi : QI Z X tg iter d) (ok : BlkOk X.N X.env.scope scope own)
    (hg : ∀ (s : Shared) (H : Hp) (C : Addr) (cl : List (Str × Addr)) (fp : List Addr), QG Z (X.blk s H scope (compEnvC scope cl C X.env) fp) (own.map (·.2)) tg g)
    (ht : ∀ (s : Shared) (H : Hp) (C : Addr) (cl : List (Str × Addr)) (fp : List Addr), QTs Z (X.blk s H scope (compEnvC scope cl C X.env) fp) ifs tt)
    (he : ∀ (s : Shared) (H : Hp) (C : Addr) (cl : List (Str × Addr)) (fp : List Addr), QE Z (X.blk s H scope (compEnvC scope cl C X.env) fp) elt te) (hs : ∀ x, foldedSetIterable iter X.env x = pure x := by intro _; rfl) :
    QE Z X (.ListComp elt [⟨tg, iter, ifs, 0⟩] scope pos) (dLc (own.map (·.2)) d g tt te) := PEmono (pe_lc hc hN hi ok hg ht he hs) fun _ _ _ => lc_lift
end N1
namespace N1
open PySem PySem.Spec PyProof.Rows L2
variable {Z : List Addr}

/-! ### a call of a built-in, by plain values -/
def rCD (K : Fg) (r : List T → (Tok → Prop) → Prop) : List V → Hp → VK → Prop := fun xs H Q => ∃ (O : Ms) (io : List Addr) (α : List (Option Addr)) (τ : DSt) (ρ : L2.St) (ts : List T) (k : Tok → Prop),
  Now K O io none α τ ρ H ∧ VCs K (Mu O α none) H xs ts ∧ r ts k ∧ ∀ z H', ResQ K O io α τ ρ H k z H' → Q z H'
def CallD (Z : List Addr) (X : Cx) (f : Value) (r : List T → (Tok → Prop) → Prop) : Prop := CallR X f (rCD (kz Z X) r)
def dCallB (r : List T → (Tok → Prop) → Prop) (ta : DA) : DE := fun τ Q => ta τ fun tks τ1 => useAll τ1 tks fun ts => r ts fun z => Q z τ1
section
variable {X : Cx} {x : Str} {p pos : Pos} {e : Expr} {es : List Expr} {ta : DA} {id T : String} {r : List N1.T → (Tok → Prop) → Prop}
theorem dcallb_lift {σ : L2.St} {H : Hp} {Q : VK} (h : liftE (kz Z X) (dCallB r ta) σ H Q) : tCB (rCD (kz Z X) r) (liftA (kz Z X) ta) σ H Q := by
  obtain ⟨O, io, α, τ, R, n, h, fin⟩ := h
  refine ⟨O, io, α, τ, _, n, h, fun vs tks α1 τ1 H1 n1 k1 r1 c => ?_⟩
  obtain ⟨ts, cs, c⟩ := useAll_ok n1 r1 c
  exact ⟨O, io, α1, τ1, σ, ts, _, n1, cs, c, fun z H' ⟨tk, tmp, n2, k2, r3, q⟩ => fin z tk tmp α1 τ1 H' n2 (k1.trans k2) r3 q⟩
theorem qe_callB (hc : CallD Z X (.builtin id) r) (hg : Gl X x) (hm : X.mg x = none) (hv : bootBuiltins x = some (.builtin id)) (ha : QA Z X (e :: es) ta) (hn : x ≠ "__name__" := by decide) (hdb : (x == ("__debug__" : Str)) = false := by decide)
    (he : starEach (e :: es) X.env = (false, eval e X.env) :: starEach es X.env := by rfl) (hpl : (backTo pos (starEach es X.env)).any (·.1) = false := by rfl) : QE Z X (.Call (.Name x p) (e :: es) [] pos) (dCallB r ta) :=
  PEmono (pe_callB hc hg hm hv ha hn hdb he hpl) fun _ _ _ => dcallb_lift
theorem qe_callTy (hc : CallD Z X (.type T) r) (hg : Gl X x) (hm : X.mg x = none) (hv : bootBuiltins x = some (.type T)) (ha : QA Z X (e :: es) ta) (hn : x ≠ "__name__" := by decide) (hdb : (x == ("__debug__" : Str)) = false := by decide)
    (he : starEach (e :: es) X.env = (false, eval e X.env) :: starEach es X.env := by rfl) (hpl : (backTo pos (starEach es X.env)).any (·.1) = false := by rfl) : QE Z X (.Call (.Name x p) (e :: es) [] pos) (dCallB r ta) :=
  PEmono (pe_callTy hc hg hm hv ha hn hdb he hpl) fun _ _ _ => dcallb_lift
end
section
variable {K : Fg} {M : Ms} {H : Hp}
theorem VCs.one {xs : List V} {t : T} (h : VCs K M H xs [t]) : ∃ v, xs = [v] ∧ VC K M H v t := by
  cases h with
  | cons h hs => cases hs; exact ⟨_, rfl, h⟩
theorem VCs.two {xs : List V} {t u : T} (h : VCs K M H xs [t, u]) : ∃ v w, xs = [v, w] ∧ VC K M H v t ∧ VC K M H w u := by
  cases h with
  | cons h hs =>
    obtain ⟨w, rfl, hw⟩ := hs.one
    exact ⟨_, w, rfl, h, hw⟩
/-- a list or a tuple, whichever -/
theorem VC.items {v : V} {t : T} {ts : List T} (h : VC K M H v t) (e : itemsOf t = some ts) : ∃ a vs, v = .ref a ∧ (SqL K H a vs ∨ SqT K H a vs) ∧ VTs K M H vs ts := by
  cases t with
  | tup us => cases e; obtain ⟨a, vs, e1, e2, e3⟩ := h.tup; exact ⟨a, vs, e1, .inr e2, e3⟩
  | lst us => cases e; obtain ⟨a, vs, e1, e2, e3⟩ := h.lst; exact ⟨a, vs, e1, .inl (SqL.of e2), e3⟩
  | lsk us => cases e; obtain ⟨a, vs, e1, e2, e3⟩ := h.lsk; exact ⟨a, vs, e1, .inl e2, e3⟩
  | _ => cases e
end
def bLen : List T → (Tok → Prop) → Prop
  | [.tup ts], k => k (.v (.int ts.length))
  | [.lst ts], k => k (.v (.int ts.length))
  | [.lsk ts], k => k (.v (.int ts.length))
  | [.str x], k => x.length ≤ sizeLine ∧ k (.v (.int x.length))
  | _, _ => False
def bInt : List T → (Tok → Prop) → Prop
  | [.int i], k => k (.v (.int i))
  | [.bl b], k => k (.v (.int (if b then 1 else 0)))
  | _, _ => False
def bStr : List T → (Tok → Prop) → Prop
  | [.int i], k => (0 ≤ i ∧ i.natAbs.log2 < 1920) ∧ k (.v (.str (toString i)))
  | _, _ => False
def bTuple : List T → (Tok → Prop) → Prop
  | [.tup ts], k => k (.v (.tup ts))
  | [.lst ts], k => k (.v (.tup ts))
  | [.lsk ts], k => k (.v (.tup ts))
  | _, _ => False
def bList : List T → (Tok → Prop) → Prop
  | [.tup ts], k => k (.fr ts)
  | [.lst ts], k => k (.fr ts)
  | [.lsk ts], k => k (.fr ts)
  | _, _ => False
/-- a list of ints -/
def intsOf : List T → Option (List Int)
  | [] => some []
  | .int i :: r => (intsOf r).map (i :: ·)
  | _ => none
def strsOf : List T → Option (List Str)
  | [] => some []
  | .str x :: r => (strsOf r).map (x :: ·)
  | _ => none
def withInts (ts : List T) (c : List Int → Prop) : Prop := match intsOf ts with
  | some ns => c ns
  | none => False
theorem withInts_ok {ts : List T} {c : List Int → Prop} (h : withInts ts c) : ∃ ns, intsOf ts = some ns ∧ c ns := by
  unfold withInts at h
  split at h
  · exact ⟨_, by assumption, h⟩
  · exact h.elim
def withStrs (ts : List T) (c : List Str → Prop) : Prop := match strsOf ts with
  | some ns => c ns
  | none => False
theorem withStrs_ok {ts : List T} {c : List Str → Prop} (h : withStrs ts c) : ∃ ns, strsOf ts = some ns ∧ c ns := by
  unfold withStrs at h
  split at h
  · exact ⟨_, by assumption, h⟩
  · exact h.elim
def bSum : List T → (Tok → Prop) → Prop
  | [.lst ts], k => withInts ts fun ns => k (.v (.int ns.sum))
  | _, _ => False
def bMin : List T → (Tok → Prop) → Prop
  | [.int i, .int j], k => k (.v (.int (if j < i then j else i)))
  | [.lst ts], k => withInts ts fun ns => 0 < ns.length ∧ ∀ m, m ∈ ns → (∀ y, y ∈ ns → m ≤ y) → k (.v (.int m))
  | _, _ => False
def bMax : List T → (Tok → Prop) → Prop
  | [.int i, .int j], k => k (.v (.int (if j > i then j else i)))
  | [.lst ts], k => withInts ts fun ns => 0 < ns.length ∧ ∀ m, m ∈ ns → (∀ y, y ∈ ns → y ≤ m) → k (.v (.int m))
  | _, _ => False
def bSortedS : List T → (Tok → Prop) → Prop
  | [.lst ts], k => withStrs ts fun xs => xs.length < 64 ∧ ∀ ys : List Str, ys.Perm xs → sortedS ys = true → k (.fr (ys.map .str))
  | _, _ => False
section
variable {K : Fg} {M : Ms} {H : Hp}
theorem VTs.intsOf : ∀ {vs : List V} {ts : List T} {ns : List Int}, VTs K M H vs ts → N1.intsOf ts = some ns → vs = ns.map V.int
  | _, [], _, .nil, e => by cases e; rfl
  | _, t :: r, ns, .cons h hs, e => by
    cases t with
    | int i =>
      cases q : N1.intsOf r with
      | none => simp [N1.intsOf, q] at e
      | some ms =>
        simp [N1.intsOf, q] at e
        subst e
        cases h
        rw [hs.intsOf q]
        rfl
    | _ => simp [N1.intsOf] at e
theorem VTs.strsOf : ∀ {vs : List V} {ts : List T} {ns : List Str}, VTs K M H vs ts → N1.strsOf ts = some ns → vs = ns.map V.str ∧ ∀ x ∈ ns, PyData.strOk x = true
  | _, [], _, .nil, e => by cases e; exact ⟨rfl, fun x h => by simp at h⟩
  | _, t :: r, ns, .cons h hs, e => by
    cases t with
    | str x =>
      cases q : N1.strsOf r with
      | none => simp [N1.strsOf, q] at e
      | some ms =>
        simp [N1.strsOf, q] at e
        subst e
        cases h with
        | str _ ho =>
          obtain ⟨h1, h2⟩ := hs.strsOf q
          rw [h1]
          refine ⟨rfl, fun y hy => ?_⟩
          rcases List.mem_cons.mp hy with rfl | hy
          · exact ho
          · exact h2 y hy
    | _ => simp [N1.strsOf] at e
theorem VTs.ofStrs : ∀ {ys : List Str}, (∀ y ∈ ys, PyData.strOk y = true) → VTs K M H (ys.map V.str) (ys.map .str)
  | [], _ => .nil
  | y :: ys, h => .cons (.str y (h y List.mem_cons_self)) (VTs.ofStrs fun z hz => h z (List.mem_cons_of_mem _ hz))
end
theorem digitsOk {i : Int} (h : 0 ≤ i) : PyData.strOk (toString i) = true := by
  obtain ⟨m, rfl⟩ := Int.eq_ofNat_of_zero_le h
  unfold PyData.strOk
  rw [← Array.all_toList, PySem.W.KIN.signs_num m, List.all_map, List.all_eq_true]
  intro c _
  have hc : c.toNat < 0x110000 := by
    have := c.valid
    unfold UInt32.isValidChar Nat.isValidChar at this
    show c.val.toNat < _
    omega
  exact decide_eq_true hc
section
variable {X : Cx}
theorem cd_len : CallD Z X (.builtin "len") bLen := by
  intro pins s σ H xs us Q I rx ⟨O, io, α, τ, ρ, ts, k, n, c, q, fin⟩
  match ts, q with
  | [.tup ts], q =>
    obtain ⟨v, rfl, c1⟩ := c.one
    obtain ⟨a, vs, rfl, e, hs⟩ := c1.tup
    exact call_len_seq pins s σ H _ us Q I rx ⟨a, vs, rfl, .inr e, fin _ _ (.val n (.int _) (by rw [hs.length]; exact q))⟩
  | [.lst ts], q =>
    obtain ⟨v, rfl, c1⟩ := c.one
    obtain ⟨a, vs, rfl, e, hs⟩ := c1.lst
    exact call_len_seq pins s σ H _ us Q I rx ⟨a, vs, rfl, .inl (SqL.of e), fin _ _ (.val n (.int _) (by rw [hs.length]; exact q))⟩
  | [.lsk ts], q =>
    obtain ⟨v, rfl, c1⟩ := c.one
    obtain ⟨a, vs, rfl, e, hs⟩ := c1.lsk
    exact call_len_seq pins s σ H _ us Q I rx ⟨a, vs, rfl, .inl e, fin _ _ (.val n (.int _) (by rw [hs.length]; exact q))⟩
  | [.str z], q =>
    obtain ⟨v, rfl, c1⟩ := c.one
    obtain ⟨rfl, _⟩ := c1.str
    exact call_len_str pins s σ H _ us Q I rx ⟨z, rfl, q.1, fin _ _ (.val n (.int _) q.2)⟩
theorem cd_int : CallD Z X (.type "int") bInt := by
  intro pins s σ H xs us Q I rx ⟨O, io, α, τ, ρ, ts, k, n, c, q, fin⟩
  match ts, q with
  | [.int i], q =>
    obtain ⟨v, rfl, c1⟩ := c.one
    cases c1.int
    exact call_int1 pins s σ H _ us Q I rx (.inl ⟨i, rfl, fin _ _ (.val n (.int _) q)⟩)
  | [.bl b], q =>
    obtain ⟨v, rfl, c1⟩ := c.one
    cases c1.bl
    exact call_int1 pins s σ H _ us Q I rx (.inr ⟨b, rfl, fin _ _ (.val n (.int _) q)⟩)
theorem cd_str : CallD Z X (.type "str") bStr := by
  intro pins s σ H xs us Q I rx ⟨O, io, α, τ, ρ, ts, k, n, c, q, fin⟩
  match ts, q with
  | [.int i], q =>
    obtain ⟨v, rfl, c1⟩ := c.one
    cases c1.int
    exact call_str_int pins s σ H _ us Q I rx ⟨i, rfl, q.1.2, fin _ _ (.val n (.str _ (digitsOk q.1.1)) q.2)⟩
theorem cd_tuple : CallD Z X (.type "tuple") bTuple := by
  intro pins s σ H xs us Q I rx ⟨O, io, α, τ, ρ, ts, k, n, c, q, fin⟩
  match ts, q with
  | [.tup ts], q =>
    obtain ⟨v, rfl, c1⟩ := c.one
    obtain ⟨a, vs, rfl, e, hs⟩ := c1.tup
    exact call_tuple_of pins s σ H _ us Q I rx ⟨a, vs, rfl, .inr ⟨e, fin _ _ (.val n (.tup e hs) q)⟩⟩
  | [.lst ts], q =>
    obtain ⟨v, rfl, c1⟩ := c.one
    obtain ⟨a, vs, rfl, e, hs⟩ := c1.lst
    exact call_tuple_of pins s σ H _ us Q I rx ⟨a, vs, rfl, .inl ⟨SqL.of e, fun l hl => fin _ _ (ResQ.tup n hs q l hl)⟩⟩
  | [.lsk ts], q =>
    obtain ⟨v, rfl, c1⟩ := c.one
    obtain ⟨a, vs, rfl, e, hs⟩ := c1.lsk
    exact call_tuple_of pins s σ H _ us Q I rx ⟨a, vs, rfl, .inl ⟨e, fun l hl => fin _ _ (ResQ.tup n hs q l hl)⟩⟩
theorem cd_list : CallD Z X (.type "list") bList := by
  intro pins s σ H xs us Q I rx ⟨O, io, α, τ, ρ, ts, k, n, c, q, fin⟩
  match ts, q with
  | [.tup ts], q =>
    obtain ⟨v, rfl, c1⟩ := c.one
    obtain ⟨a, vs, rfl, e, hs⟩ := c1.tup
    exact call_list_of pins s σ H _ us Q I rx ⟨a, vs, rfl, .inr e, fun l hl => fin _ _ (ResQ.lst n hs q l hl)⟩
  | [.lst ts], q =>
    obtain ⟨v, rfl, c1⟩ := c.one
    obtain ⟨a, vs, rfl, e, hs⟩ := c1.lst
    exact call_list_of pins s σ H _ us Q I rx ⟨a, vs, rfl, .inl (SqL.of e), fun l hl => fin _ _ (ResQ.lst n hs q l hl)⟩
  | [.lsk ts], q =>
    obtain ⟨v, rfl, c1⟩ := c.one
    obtain ⟨a, vs, rfl, e, hs⟩ := c1.lsk
    exact call_list_of pins s σ H _ us Q I rx ⟨a, vs, rfl, .inl e, fun l hl => fin _ _ (ResQ.lst n hs q l hl)⟩
theorem cd_sum (hc : X.calm = true) : CallD Z X (.builtin "sum") bSum := by
  intro pins s σ H xs us Q I rx ⟨O, io, α, τ, ρ, ts, k, n, c, q, fin⟩
  match ts, q with
  | [.lst ts], q =>
    obtain ⟨v, rfl, c1⟩ := c.one
    obtain ⟨a, vs, rfl, e, hs⟩ := c1.lst
    obtain ⟨ns, en, q⟩ := withInts_ok q
    have ev := hs.intsOf en
    subst ev
    exact cr_sum hc pins s σ H _ us Q I rx ⟨a, ns, rfl, SqL.of e, fin _ _ (.val n (.int _) q)⟩
theorem cd_min (hc : X.calm = true) : CallD Z X (.builtin "min") bMin := by
  intro pins s σ H xs us Q I rx ⟨O, io, α, τ, ρ, ts, k, n, c, q, fin⟩
  match ts, q with
  | [.int i, .int j], q =>
    obtain ⟨v, w', rfl, c1, c2⟩ := c.two
    cases c1.int; cases c2.int
    exact call_min2 hc pins s σ H _ us Q I rx ⟨i, j, rfl, fin _ _ (.val n (.int _) q)⟩
  | [.lst ts], q =>
    obtain ⟨v, rfl, c1⟩ := c.one
    obtain ⟨a, vs, rfl, e, hs⟩ := c1.lst
    obtain ⟨ns, en, q⟩ := withInts_ok q
    have ev := hs.intsOf en
    subst ev
    exact cr_min hc pins s σ H _ us Q I rx ⟨a, ns, rfl, SqL.of e, q.1, fun m h1 h2 => fin _ _ (.val n (.int _) (q.2 m h1 h2))⟩
theorem cd_max (hc : X.calm = true) : CallD Z X (.builtin "max") bMax := by
  intro pins s σ H xs us Q I rx ⟨O, io, α, τ, ρ, ts, k, n, c, q, fin⟩
  match ts, q with
  | [.int i, .int j], q =>
    obtain ⟨v, w', rfl, c1, c2⟩ := c.two
    cases c1.int; cases c2.int
    exact call_max2 hc pins s σ H _ us Q I rx ⟨i, j, rfl, fin _ _ (.val n (.int _) q)⟩
  | [.lst ts], q =>
    obtain ⟨v, rfl, c1⟩ := c.one
    obtain ⟨a, vs, rfl, e, hs⟩ := c1.lst
    obtain ⟨ns, en, q⟩ := withInts_ok q
    have ev := hs.intsOf en
    subst ev
    exact cr_max hc pins s σ H _ us Q I rx ⟨a, ns, rfl, SqL.of e, q.1, fun m h1 h2 => fin _ _ (.val n (.int _) (q.2 m h1 h2))⟩
theorem cd_sortedS : CallD Z X (.builtin "sorted") bSortedS := by
  intro pins s σ H xs us Q I rx ⟨O, io, α, τ, ρ, ts, k, n, c, q, fin⟩
  match ts, q with
  | [.lst ts], q =>
    obtain ⟨v, rfl, c1⟩ := c.one
    obtain ⟨a, vs, rfl, e, hs⟩ := c1.lst
    obtain ⟨ns, en, q⟩ := withStrs_ok q
    obtain ⟨ev, ho⟩ := hs.strsOf en
    subst ev
    exact cr_sortedS pins s σ H _ us Q I rx ⟨a, ns, rfl, SqL.of e, q.1, fun ys p h1 h2 hp => fin _ _ (ResQ.lst n (VTs.ofStrs fun y hy => ho y (h1.mem_iff.mp hy)) (q.2 ys h1 h2) p hp)⟩
end
/-! methods of texts without arguments -/
def dM0 (r : Str → (Tok → Prop) → Prop) (to : DE) : DE := fun τ Q => to τ fun tk τ1 => use τ1 tk fun t => match t with
  | .str x => r x fun z => Q z τ1
  | _ => False
section
variable {X : Cx}
theorem qe_isdigit {o : Expr} {to : DE} {apos pos : Pos} (ho : QE Z X o to) (hbase : attributeBase o "isdigit" X.env (eval o X.env) = eval o X.env := by rfl) (hline : (apos.endLine == pos.line) = true := by rfl) :
    QE Z X (.Call (.Attribute o "isdigit" apos) [] [] pos) (dM0 (fun x k => k (.v (.bl (Txt.isdigit x)))) to) :=
  PEmono (pe_m0 PySem.F.slot_str_isdigit PySem.F.type_str_isdigit mt_isdigit ho hbase hline) fun σ H Q ⟨O, io, α, τ, R, n, h, fin⟩ => one n h fun v tk α1 τ1 H1 n1 k1 r1 c => by
    rw [← use_weak] at c
    obtain ⟨t, ct, c⟩ := use_ok n1 r1 c
    cases t with
    | str x =>
      obtain ⟨rfl, ho⟩ := ct.str
      exact ⟨⟨x, rfl⟩, x, rfl, rfl, trivial, fin _ (.v (.bl _)) none α1 τ1 H1 n1 k1 ⟨rfl, .bl _⟩ c⟩
    | _ => exact c.elim
/-! slices -/
abbrev DO := DSt → (Option Int → DSt → Prop) → Prop
def dNoPart : DO := fun τ Q => Q none τ
def dPart (te : DE) : DO := fun τ Q => te τ fun tk τ1 => use τ1 tk fun t => match t with
  | .int i => Q (some i) τ1
  | _ => False
def liftO (K : Fg) (t : DO) : TO := fun σ H Q => ∃ (O : Ms) (io : List Addr) (α : List (Option Addr)) (τ : DSt) (R : Option Int → DSt → Prop), Now K O io none α τ σ H ∧ t τ R ∧
  ∀ i α' τ' H', Now K O io none α' τ' σ H' → Kp O (Mu O α none) H (Mu O α' none) H' → R i τ' → Q i H'
abbrev QO (Z : List Addr) (X : Cx) (e : Option Expr) (t : DO) : Prop := PO X e (liftO (kz Z X) t)
theorem POmono {e : Option Expr} {t t' : TO} (h : PO X e t) (m : ∀ σ H Q, t' σ H Q → t σ H Q) : PO X e t' := ⟨fun pins s σ H Q I q => h.run pins s σ H Q I (m σ H Q q)⟩
theorem qo_none : QO Z X none dNoPart := POmono po_none fun σ H Q ⟨O, io, α, τ, R, n, h, fin⟩ => fin none α τ H n .refl h
theorem qo_some {e : Expr} {te : DE} (h : QE Z X e te) : QO Z X (some e) (dPart te) := POmono (po_some h) fun σ H Q ⟨O, io, α, τ, R, n, h, fin⟩ => one n h fun v tk α1 τ1 H1 n1 k1 r1 c => by
  rw [← use_weak] at c
  obtain ⟨t, ct, c⟩ := use_ok n1 r1 c
  cases t with
  | int i => cases ct.int; exact ⟨i, rfl, fin _ α1 τ1 H1 n1 k1 c⟩
  | _ => exact c.elim
def opSl : T → Option Int → Option Int → (Tok → Prop) → Prop
  | .str x, lo, hi, k => x.length ≤ sizeLine ∧ k (.v (.str (cutS x lo hi)))
  | .lst ts, lo, hi, k => k (.fr ((ts.drop (HT.sIx ts.length 0 lo)).take (HT.sIx ts.length ts.length hi - HT.sIx ts.length 0 lo)))
  | .lsk ts, lo, hi, k => k (.fr ((ts.drop (HT.sIx ts.length 0 lo)).take (HT.sIx ts.length ts.length hi - HT.sIx ts.length 0 lo)))
  | .tup ts, lo, hi, k => k (.v (.tup ((ts.drop (HT.sIx ts.length 0 lo)).take (HT.sIx ts.length ts.length hi - HT.sIx ts.length 0 lo))))
  | _, _, _, _ => False
theorem cutOk {x : Str} {lo hi : Option Int} (h : PyData.strOk x = true) : PyData.strOk (cutS x lo hi) = true := by
  unfold PyData.strOk at h ⊢
  rw [← Array.all_toList, List.all_eq_true] at h ⊢
  intro c hc
  exact h c (List.mem_of_mem_drop (List.mem_of_mem_take (by simpa [cutS] using hc)))
def rSlD (K : Fg) : V → Option Int → Option Int → Hp → VK → Prop := fun x lo hi H Q => ∃ (O : Ms) (io : List Addr) (α : List (Option Addr)) (τ : DSt) (ρ : L2.St) (a : N1.T) (k : Tok → Prop),
  Now K O io none α τ ρ H ∧ VC K (Mu O α none) H x a ∧ opSl a lo hi k ∧ ∀ z H', ResQ K O io α τ ρ H k z H' → Q z H'
theorem sl_any : SlR X (rSlD (kz Z X)) := by
  intro pins s σ H x v vl vu lo hi sl Q I rx hs pl pu ⟨O, io, α, τ, ρ, a, k, n, c, q, fin⟩
  cases a with
  | str z =>
    obtain ⟨rfl, ho⟩ := c.str
    exact sl_str pins s σ H _ v vl vu lo hi sl Q I rx hs pl pu ⟨z, rfl, q.1, fin _ _ (.val n (.str _ (cutOk ho)) q.2)⟩
  | lst ts =>
    obtain ⟨a, vs, rfl, e, hv⟩ := c.lst
    refine sl_list pins s σ H _ v vl vu lo hi sl Q I rx hs pl pu ⟨a, vs, rfl, SqL.of e, fun p hp => fin _ _ (ResQ.lst n ?_ q p hp)⟩
    unfold cutV
    rw [hv.length]
    exact (hv.drop _).take _
  | lsk ts =>
    obtain ⟨a, vs, rfl, e, hv⟩ := c.lsk
    refine sl_list pins s σ H _ v vl vu lo hi sl Q I rx hs pl pu ⟨a, vs, rfl, e, fun p hp => fin _ _ (ResQ.lst n ?_ q p hp)⟩
    unfold cutV
    rw [hv.length]
    exact (hv.drop _).take _
  | tup ts =>
    obtain ⟨a, vs, rfl, e, hv⟩ := c.tup
    refine sl_tupA pins s σ H _ v vl vu lo hi sl Q I rx hs pl pu ⟨a, vs, rfl, e, fun h => fin _ _ (.val n (.tup e hv) ?_), fun _ p hp => fin _ _ (ResQ.tup n ?_ q p hp)⟩
    · obtain ⟨h1, h2⟩ := h
      rw [hv.length] at h1 h2
      have q' : k (.v (.tup ((ts.drop (HT.sIx ts.length 0 lo)).take (HT.sIx ts.length ts.length hi - HT.sIx ts.length 0 lo)))) := q
      rw [h1, h2, List.drop_zero, Nat.sub_zero, List.take_length] at q'
      exact q'
    · unfold cutV
      rw [hv.length]
      exact (hv.drop _).take _
  | _ => exact q.elim
def dSl (te : DE) (tl th : DO) : DE := fun τ Q => te τ fun tk τ1 => tl τ1 fun lo τ2 => th τ2 fun hi τ3 => use τ3 tk fun t => opSl t lo hi fun z => Q z τ3
theorem qe_slice {e : Expr} {te : DE} {lo hi : Option Expr} {tl th : DO} {p2 pos : Pos} (he : QE Z X e te) (hl : QO Z X lo tl) (hu : QO Z X hi th) : QE Z X (.Subscript e (.Slice lo hi none p2) pos) (dSl te tl th) :=
  PEmono (pe_slice sl_any he hl hu) fun σ H Q ⟨O, io, α, τ, R, n, h, fin⟩ => one n h fun v tk α1 τ1 H1 n1 k1 r1 c =>
    ⟨O, io, α1, τ1, _, n1, c, fun lo α2 τ2 H2 n2 k2 c => ⟨O, io, α2, τ2, _, n2, c, fun hi α3 τ3 H3 n3 k3 c => by
      rw [← use_weak] at c
      obtain ⟨t, ct, c⟩ := use_ok n3 ((r1.keep k2.toKp0).keep k3.toKp0) c
      exact ⟨O, io, α3, τ3, σ, t, _, n3, ct, c, fun z H' ⟨tk2, tmp, n4, k4, r4, q⟩ => fin z tk2 tmp α3 τ3 H' n4 (((k1.trans k2).trans k3).trans k4) r4 q⟩⟩⟩
end
end N1
namespace N1
open PySem PySem.Spec PyProof.Rows L2
variable {Z : List Addr}

/-! ### what a def means: from its arguments to its result and to the lists that were lent -/
inductive Arg where
  | v (t : T) | io (ts : List T)
abbrev DSp := List Arg → (Tok → List (List T) → Prop) → Prop
def Arg.lent : Arg → Bool
  | .v _ => false
  | .io _ => true
def Me (O : Ms) (ios : List Addr) (tmp : Option Addr) : Ms := fun a => O a ∨ a ∈ ios ∨ tmp = some a
inductive ArgsOk (K : Fg) (M : Ms) (H : Hp) : List V → List Arg → List Addr → Prop
  | nil : ArgsOk K M H [] [] []
  | v {x : V} {t : T} {xs : List V} {as : List Arg} {ios : List Addr} : VT K M H x t → ArgsOk K M H xs as ios → ArgsOk K M H (x :: xs) (.v t :: as) ios
  | io {a : Addr} {vs : List V} {ts : List T} {xs : List V} {as : List Arg} {ios : List Addr} : H a = some (.lst vs) → VTs K M H vs ts → ArgsOk K M H xs as ios → ArgsOk K M H (.ref a :: xs) (.io ts :: as) (a :: ios)
inductive OutsOk (K : Fg) (M : Ms) (H : Hp) : List Addr → List (List T) → Prop
  | nil : OutsOk K M H [] []
  | cons {a : Addr} {vs : List V} {ts : List T} {ios : List Addr} {os : List (List T)} : H a = some (.lst vs) → VTs K M H vs ts → OutsOk K M H ios os → OutsOk K M H (a :: ios) (ts :: os)
def ResR (K : Fg) (M : Ms) (tmp : Option Addr) (H : Hp) (v : V) : Tok → Prop
  | .v t => tmp = none ∧ VT K M H v t
  | .s _ => False
  | .fr ts => ∃ p vs, tmp = some p ∧ v = .ref p ∧ H p = some (.lst vs) ∧ VTs K M H vs ts
def liftSp (K : Fg) (n : Nat) (d : DSp) : Sp := fun vs H Q _ => vs.length = n ∧ ∃ (O : Ms) (ios : List Addr) (args : List Arg) (R : Tok → List (List T) → Prop),
  ArgsOk K (Me O ios none) H vs args ios ∧ ios.Nodup ∧ (∀ a ∈ ios, ¬ O a) ∧ (∀ a, O a → ∃ xs, H a = some (.lst xs)) ∧ (∀ P ∈ K.tl, GxR.TabG H P) ∧ d args R ∧
  ∀ v tk tmp outs H', Kp O (Me O ios none) H (Me O ios tmp) H' → OutsOk K (Me O ios tmp) H' ios outs → ResR K (Me O ios tmp) tmp H' v tk → (∀ p, tmp = some p → ¬ O p ∧ p ∉ ios) → R tk outs → Q v H'

/-! ### a def's body -/
def slotsFrom : Nat → List Arg → DSt
  | _, [] => []
  | k, .v t :: r => some (.val t) :: slotsFrom k r
  | k, .io ts :: r => some (.io k ts) :: slotsFrom (k + 1) r
def nones : Nat → DSt
  | 0 => []
  | n + 1 => none :: nones n
def startT (n : Nat) (args : List Arg) : DSt := slotsFrom 0 args ++ nones (n - args.length)
def pioFrom : Nat → List Bool → List Nat
  | _, [] => []
  | i, true :: r => i :: pioFrom (i + 1) r
  | i, false :: r => pioFrom (i + 1) r
def outsOf (τ : DSt) : List Nat → Nat → (List (List T) → Prop) → Prop
  | [], _, k => k []
  | i :: r, j, k => match slotAt τ i with
    | some (.io m ts) => m = j ∧ outsOf τ r (j + 1) fun os => k (ts :: os)
    | _ => False
def retK (pio : List Nat) (R : Tok → List (List T) → Prop) : DK := fun tk τ => outsOf τ pio 0 fun outs => match tk with
  | .v t => R (.v t) outs
  | .fr ts => R (.fr ts) outs
  | .s i => match slotAt τ i with
    | some (.val t) => R (.v t) outs
    | some (.own ts) => R (.fr ts) outs
    | _ => False
def dFn (n : Nat) (modes : List Bool) (rd : DS) : DSp := fun args R => args.map Arg.lent = modes ∧ rd { nx := fun τ => retK (pioFrom 0 modes) R (.v .non) τ, rt := retK (pioFrom 0 modes) R } (startT n args)
def alFrom : List Arg → List Addr → List (Option Addr)
  | .v _ :: r, ios => none :: alFrom r ios
  | .io _ :: r, a :: ios => some a :: alFrom r ios
  | _, _ => []
section
variable {K : Fg} {M M' : Ms} {H H' : Hp}
theorem ArgsOk.lens : ∀ {vs : List V} {as : List Arg} {ios : List Addr} (k : Nat), ArgsOk K M H vs as ios → vs.length = as.length ∧ (alFrom as ios).length = as.length ∧ (slotsFrom k as).length = as.length ∧ (pioFrom k (as.map Arg.lent)).length = ios.length
  | _, _, _, _, .nil => ⟨rfl, rfl, rfl, rfl⟩
  | _, _, _, k, .v _ h => by
    obtain ⟨h1, h2, h3, _⟩ := h.lens k
    obtain ⟨_, _, _, h4⟩ := h.lens (k + 1)
    exact ⟨congrArg (· + 1) h1, congrArg (· + 1) h2, congrArg (· + 1) h3, h4⟩
  | _, _, _, k, .io _ _ h => by
    obtain ⟨h1, h2, h3, h4⟩ := h.lens (k + 1)
    exact ⟨congrArg (· + 1) h1, congrArg (· + 1) h2, congrArg (· + 1) h3, congrArg (· + 1) h4⟩
theorem ArgsOk.al : ∀ {vs : List V} {as : List Arg} {ios : List Addr}, ArgsOk K M H vs as ios → ∀ a, a ∈ ios ↔ ∃ i : Nat, (alFrom as ios)[i]? = some (some a)
  | _, _, _, .nil, a => ⟨fun h => by simp at h, fun ⟨i, h⟩ => by simp [alFrom] at h⟩
  | _, _, _, .v _ h, a => by
    rw [h.al a]
    exact ⟨fun ⟨i, e⟩ => ⟨i + 1, by simpa [alFrom] using e⟩, fun ⟨i, e⟩ => by
      cases i with
      | zero => simp [alFrom] at e
      | succ i => exact ⟨i, by simpa [alFrom] using e⟩⟩
  | _, _, _, .io (a := b) _ _ h, a => by
    rw [List.mem_cons, h.al a]
    refine ⟨fun z => ?_, fun ⟨i, e⟩ => ?_⟩
    · rcases z with rfl | ⟨i, e⟩
      · exact ⟨0, rfl⟩
      · exact ⟨i + 1, by simpa [alFrom] using e⟩
    · cases i with
      | zero => exact .inl (by simpa [alFrom] using e.symm)
      | succ i => exact .inr ⟨i, by simpa [alFrom] using e⟩
theorem ArgsOk.nd : ∀ {vs : List V} {as : List Arg} {ios : List Addr}, ArgsOk K M H vs as ios → ios.Nodup → ∀ (i j : Nat) (a : Addr), (alFrom as ios)[i]? = some (some a) → (alFrom as ios)[j]? = some (some a) → i = j
  | _, _, _, .nil, _, i, _, a, h, _ => by simp [alFrom] at h
  | _, _, _, .v _ h, n, i, j, a, e1, e2 => by
    cases i with
    | zero => simp [alFrom] at e1
    | succ i => cases j with
      | zero => simp [alFrom] at e2
      | succ j => rw [h.nd n i j a (by simpa [alFrom] using e1) (by simpa [alFrom] using e2)]
  | _, _, _, .io (a := b) _ _ h, n, i, j, a, e1, e2 => by
    obtain ⟨n1, n2⟩ := List.nodup_cons.mp n
    cases i with
    | zero =>
      cases j with
      | zero => rfl
      | succ j =>
        have e1' : b = a := by simpa [alFrom] using e1
        subst e1'
        exact absurd ((h.al b).mpr ⟨j, by simpa [alFrom] using e2⟩) n1
    | succ i =>
      cases j with
      | zero =>
        have e2' : b = a := by simpa [alFrom] using e2
        subst e2'
        exact absurd ((h.al b).mpr ⟨i, by simpa [alFrom] using e1⟩) n1
      | succ j => rw [h.nd n2 i j a (by simpa [alFrom] using e1) (by simpa [alFrom] using e2)]
theorem ArgsOk.slots : ∀ {vs : List V} {as : List Arg} {ios : List Addr}, ArgsOk K M H vs as ios → ∀ (k : Nat) (pre : List Addr), pre.length = k → ∀ (i : Nat) (s : Slot), (slotsFrom k as)[i]? = some (some s) →
    match s with
    | .val t => ∃ v, vs[i]? = some v ∧ VT K M H v t
    | .own _ => False
    | .io m ts => ∃ a ws, (pre ++ ios)[m]? = some a ∧ (alFrom as ios)[i]? = some (some a) ∧ vs[i]? = some (.ref a) ∧ H a = some (.lst ws) ∧ VTs K M H ws ts
  | _, _, _, .nil, _, _, _, i, s, h => by simp [slotsFrom] at h
  | _, _, _, .v hv h, k, pre, hp, i, s, e => by
    cases i with
    | zero =>
      simp [slotsFrom] at e
      subst e
      exact ⟨_, rfl, hv⟩
    | succ i =>
      have := h.slots k pre hp i s (by simpa [slotsFrom] using e)
      cases s <;> simpa [alFrom] using this
  | _, _, _, .io (a := b) (ios := ios) he hv h, k, pre, hp, i, s, e => by
    cases i with
    | zero =>
      simp [slotsFrom] at e
      subst e
      exact ⟨b, _, by rw [List.getElem?_append_right (by omega), hp, Nat.sub_self]; rfl, rfl, rfl, he, hv⟩
    | succ i =>
      have := h.slots (k + 1) (pre ++ [b]) (by simp [hp]) i s (by simpa [slotsFrom] using e)
      cases s <;> simpa [alFrom] using this
end
theorem nones_at : ∀ (n i : Nat), (nones n)[i]? = if i < n then some none else none
  | 0, i => by simp [nones]
  | n + 1, 0 => by simp [nones]
  | n + 1, i + 1 => by simp [nones, nones_at n i]
theorem nones_len : ∀ n, (nones n).length = n
  | 0 => rfl
  | n + 1 => congrArg (· + 1) (nones_len n)
section
variable {K : Fg} {O : Ms} {ios : List Addr} {H : Hp} {vs : List V} {args : List Arg}
def startA (n : Nat) (args : List Arg) (ios : List Addr) : List (Option Addr) := alFrom args ios ++ List.replicate (n - args.length) none
theorem startA_iff {n : Nat} (h : ArgsOk K (Me O ios none) H vs args ios) (i : Nat) (a : Addr) : (startA n args ios)[i]? = some (some a) ↔ (alFrom args ios)[i]? = some (some a) := by
  obtain ⟨_, h2, _, _⟩ := h.lens 0
  unfold startA
  by_cases hi : i < args.length
  · rw [List.getElem?_append_left (by omega)]
  · rw [List.getElem?_append_right (by omega)]
    rw [List.getElem?_eq_none (by omega : (alFrom args ios).length ≤ i)]
    rw [List.getElem?_replicate]
    split <;> simp
theorem start_now {N : List Str} (h : ArgsOk K (Me O ios none) H vs args ios) (nd : ios.Nodup) (nO : ∀ a ∈ ios, ¬ O a) (tr : ∀ a, O a → ∃ xs, H a = some (.lst xs)) (tb : ∀ P ∈ K.tl, GxR.TabG H P) (hn : vs.length ≤ N.length) :
    Now K O ios none (startA N.length args ios) (startT N.length args) (L2.start N vs) H ∧ ∀ a, Mu O (startA N.length args ios) none a ↔ Me O ios none a := by
  obtain ⟨h1, h2, h3, _⟩ := h.lens 0
  have mu : ∀ a, Mu O (startA N.length args ios) none a ↔ Me O ios none a := fun a => by
    unfold Mu Me
    rw [h.al a]
    simp only [startA_iff h]
  refine ⟨⟨?_, ?_, fun i s e => ?_, fun i j a e1 e2 => h.nd nd i j a ((startA_iff h i a).mp e1) ((startA_iff h j a).mp e2), fun i a e => nO a ((h.al a).mpr ⟨i, (startA_iff h i a).mp e⟩), fun _ z => (by cases z), fun a ha => ?_, tb⟩, mu⟩
  · simp only [startT, L2.start, List.length_append, List.length_map, List.length_replicate, h3, nones_len]
    omega
  · simp only [startA, L2.start, List.length_append, List.length_map, List.length_replicate, h2]
    omega
  · have hi : i < args.length := by
      refine Nat.lt_of_not_le fun hi => ?_
      unfold startT at e
      rw [List.getElem?_append_right (by omega), nones_at] at e
      split at e <;> cases e
    unfold startT at e
    rw [List.getElem?_append_left (by omega)] at e
    have eσ : ∀ v, vs[i]? = some v → (L2.start N vs)[i]? = some (some v) := fun v ev => by
      unfold L2.start
      rw [List.getElem?_append_left (by rw [List.length_map]; omega), List.getElem?_map, ev]
      rfl
    have q := h.slots 0 [] rfl i s e
    have k : Kp0 (Me O ios none) H (Mu O (startA N.length args ios) none) H := .of_anti fun a z => (mu a).mp z
    cases s with
    | val t => obtain ⟨v, e1, e2⟩ := q; exact ⟨v, eσ v e1, e2.keep k⟩
    | own ts => exact q.elim
    | io m ts =>
      obtain ⟨a, ws, e0, e1, e2, e3, e4⟩ := q
      exact ⟨a, ws, by simpa using e0, (startA_iff h i a).mpr e1, eσ _ e2, e3, e4.keep k⟩
  · rcases (mu a).mp ha with z | z | z
    · exact tr a z
    · have aux : ∀ {vs : List V} {args : List Arg} {ios : List Addr} {M : Ms}, ArgsOk K M H vs args ios → a ∈ ios → ∃ xs, H a = some (.lst xs) := by
        intro vs args ios M h
        induction h with
        | nil => intro z; simp at z
        | v _ _ ih => exact ih
        | io e _ _ ih =>
          intro z
          rcases List.mem_cons.mp z with rfl | z
          · exact ⟨_, e⟩
          · exact ih z
      exact aux h z
    · cases z
/-- the lists that were lent, at the end -/
theorem outs_ok {io : List Addr} {tmp : Option Addr} {α : List (Option Addr)} {τ : DSt} {σ : L2.St} (n : Now K O io tmp α τ σ H) : ∀ (pio : List Nat) (j : Nat) (k : List (List T) → Prop), outsOf τ pio j k → io.length ≤ pio.length + j →
    ∃ outs, (∀ M', (∀ a, M' a → Mu O α tmp a) → OutsOk K M' H (io.drop j) outs) ∧ k outs ∧ ∀ a ∈ io.drop j, ∃ (i m : Nat) (ts : List T), α[i]? = some (some a) ∧ slotAt τ i = some (.io m ts)
  | [], j, k, h, hl => ⟨[], fun M' _ => by rw [List.drop_eq_nil_of_le (by simpa using hl)]; exact .nil, h, fun a ha => by rw [List.drop_eq_nil_of_le (by simpa using hl)] at ha; simp at ha⟩
  | i :: r, j, k, h, hl => by
    unfold outsOf at h
    split at h
    · next m ts e =>
      obtain ⟨rfl, h⟩ := h
      obtain ⟨a, ws, e0, e1, e2, e3, e4⟩ := n.slot i _ (slotAt_iff.mp e)
      have hm : m < io.length := (List.getElem?_eq_some_iff.mp e0).1
      have ea : io[m] = a := by rw [List.getElem?_eq_getElem hm] at e0; exact Option.some.inj e0
      obtain ⟨outs, h1, h2, h3⟩ := outs_ok n r (m + 1) _ h (by simp at hl; omega)
      refine ⟨ts :: outs, fun M' hM => ?_, h2, fun b hb => ?_⟩
      · rw [List.drop_eq_getElem_cons hm, ea]
        exact .cons e3 (e4.keep (.of_anti hM)) (h1 M' hM)
      · rw [List.drop_eq_getElem_cons hm, ea] at hb
        rcases List.mem_cons.mp hb with rfl | hb
        · exact ⟨i, m, ts, e1, e⟩
        · exact h3 b hb
    · exact h.elim
theorem fn_end {α : List (Option Addr)} {tmp : Option Addr} {τ : DSt} {σ : L2.St} {H0 : Hp} {v : V} {tk : Tok} {pio : List Nat} {R : Tok → List (List T) → Prop} {Q : VK} (n : Now K O ios tmp α τ σ H) (k : Kp O (Me O ios none) H0 (Mu O α tmp) H) (r : Res K O α tmp σ H v tk) (h : retK pio R tk τ) (hl : ios.length ≤ pio.length)
    (fin : ∀ v tk tmp outs H', Kp O (Me O ios none) H0 (Me O ios tmp) H' → OutsOk K (Me O ios tmp) H' ios outs → ResR K (Me O ios tmp) tmp H' v tk → (∀ p, tmp = some p → ¬ O p ∧ p ∉ ios) → R tk outs → Q v H') : Q v H := by
  obtain ⟨outs, h1, h2, h3⟩ := outs_ok n pio 0 _ h (by simpa using hl)
  rw [List.drop_zero] at h1 h3
  have sub : ∀ tmp' : Option Addr, (∀ p, tmp' = some p → Mu O α tmp p) → ∀ a, Me O ios tmp' a → Mu O α tmp a := fun tmp' ht a ha => by
    rcases ha with z | z | z
    · exact .inl z
    · exact (let ⟨i, _, _, e, _⟩ := h3 a z; .inr (.inl ⟨i, e⟩))
    · exact ht a z
  cases tk with
  | v t =>
    obtain ⟨rfl, r⟩ := r
    have s0 := sub none fun _ z => (by cases z)
    exact fin v (.v t) none outs H (k.anti s0) (h1 _ s0) ⟨rfl, r.keep (.of_anti s0)⟩ (fun _ z => (by cases z)) h2
  | fr ts =>
    obtain ⟨p, ws, rfl, rfl, e, hv⟩ := r
    have s0 := sub (some p) fun q z => by cases z; exact .inr (.inr rfl)
    obtain ⟨t1, t2⟩ := n.tm p rfl
    exact fin _ (.fr ts) (some p) outs H (k.anti s0) (h1 _ s0) ⟨p, ws, rfl, rfl, e, hv.keep (.of_anti s0)⟩ (fun q z => by
      cases z
      exact ⟨t1, fun z => let ⟨i, _, _, e, _⟩ := h3 p z; t2 i e⟩) h2
  | s i =>
    obtain ⟨rfl, r⟩ := r
    dsimp only at h2
    split at h2
    · next t e =>
      obtain ⟨v', e2, q⟩ := n.slot i _ (slotAt_iff.mp e)
      rw [r] at e2
      cases e2
      have s0 := sub none fun _ z => (by cases z)
      exact fin v (.v t) none outs H (k.anti s0) (h1 _ s0) ⟨rfl, q.keep (.of_anti s0)⟩ (fun _ z => (by cases z)) h2
    · next ts e =>
      obtain ⟨a, ws, e1, e2, e3, q⟩ := n.slot i _ (slotAt_iff.mp e)
      rw [r] at e2
      cases e2
      have s0 := sub (some a) fun q z => by cases z; exact .inr (.inl ⟨i, e1⟩)
      refine fin _ (.fr ts) (some a) outs H (k.anti s0) (h1 _ s0) ⟨a, ws, rfl, rfl, e3, q.keep (.of_anti s0)⟩ (fun p z => ?_) h2
      cases z
      refine ⟨n.nO i a e1, fun z => ?_⟩
      obtain ⟨i2, m, us, e5, e6⟩ := h3 a z
      rw [n.nd i2 i a e5 e1, e] at e6
      cases e6
    · exact h2.elim
end
section
variable {P : Program} {w : World} {K : Fg} {mg : Str → Option Value} {base : Heap}
/-! the rule for a def -/
theorem fn_ok {x qual : Str} {st : Stmt} {f : Addr} {fd : FuncData} {N ps : List Str} {k : Nat} {modes : List Bool} {rd : DS} (F : Fun K x qual st f fd) (S : FnScope N ps (defScope st)) (hm : modes.length = ps.length)
    (hN : ps.length ≤ N.length) (hb : ∀ (cdv : Value) (A : Around) (outer : List Env) (s : Shared) (H : Hp) (E : XK), Room k (A.deeper (envOfC qual (defScope st) s.heap.objs.size f cdv)) →
      QSs K.tl (cxOf CX0 P w K mg base N qual (defScope st) f cdv A outer s H E).nox (defBody st) rd) : FnOk P w K mg base CX0 (k + 1) f fd ps (liftSp K ps.length (dFn N.length modes rd)) := by
  refine F.ok S (fun vs H Q E h => h.1) fun cdv A outer s H vs Q E hr ⟨hl, O, ios, args, R, ha, nd, nO, tr, tb, ⟨hmo, hd⟩, fin⟩ => ⟨_, hb cdv A outer s H E hr, ?_⟩
  obtain ⟨n, mu⟩ := start_now (N := N) ha nd nO tr tb (by rw [hl]; exact hN)
  have hlen : ios.length ≤ (pioFrom 0 modes).length := by
    obtain ⟨_, _, _, h4⟩ := ha.lens 0
    rw [← h4, hmo]
    exact Nat.le_refl _
  have k0 : ∀ {H1 : Hp} {M : Ms}, Kp O (Mu O (startA N.length args ios) none) H M H1 → Kp O (Me O ios none) H M H1 := fun {H1 M} k => (Kp.of_anti fun a z => (mu a).mp z).trans k
  exact ⟨O, ios, _, _, _, n, hd, fun α' τ' σ' H' n' k e => fn_end n' (k0 k) (tk := .v .non) ⟨rfl, .non⟩ e hlen fin, fun v tk tmp α' τ' σ' H' n' k r e => fn_end n' (k0 k) r e hlen fin, fun _ _ _ _ _ _ h => h, fun _ _ _ _ _ _ h => h⟩
end

/-! ### a call of a def -/
/-- an argument: a value, the list of a slot, a list made for the call alone -/
inductive PArg where
  | v (t : T) | s (i : Nat) | fr (ts : List T)
def frozeArgs : DSt → List Bool → List Tok → (List PArg → DSt → Prop) → Prop
  | τ, [], [], k => k [] τ
  | _, false :: _, .fr _ :: _, _ => False
  | τ, false :: m, tk :: r, k => froze τ tk fun t τ1 => frozeArgs τ1 m r fun ps τ2 => k (.v t :: ps) τ2
  | τ, true :: m, .s i :: r, k => frozeArgs τ m r fun ps τ2 => k (.s i :: ps) τ2
  | τ, true :: m, .fr ts :: r, k => frozeArgs τ m r fun ps τ2 => k (.fr ts :: ps) τ2
  | _, _, _, _ => False
def ioArgs (τ : DSt) : List PArg → (List Arg → List (Option Nat) → Prop) → Prop
  | [], k => k [] []
  | .v t :: r, k => ioArgs τ r fun as is => k (.v t :: as) is
  | .fr ts :: r, k => ioArgs τ r fun as is => k (.io ts :: as) (none :: is)
  | .s i :: r, k => match ownOf (slotAt τ i) with
    | some (ts, _) => ioArgs τ r fun as is => k (.io ts :: as) (some i :: is)
    | none => False
def putAll : DSt → List (Option Nat) → List (List T) → (DSt → Prop) → Prop
  | τ, [], [], k => k τ
  | τ, none :: r, _ :: o, k => putAll τ r o k
  | τ, some i :: r, ts :: o, k => match ownOf (slotAt τ i) with
    | some (_, mk) => putAll (setSlot τ i (some (mk ts))) r o k
    | none => False
  | _, _, _, _ => False
/-- f(..): the arguments as modes say (true: a list that is lent), the defaults dts behind -/
def dCall (d : DSp) (modes : List Bool) (dts : List T) (ta : DA) : DE := fun τ Q => ta τ fun tks τ1 => frozeArgs τ1 modes tks fun ps τ2 => ioArgs τ2 ps fun as is => is.Nodup ∧ d (as ++ dts.map .v) fun tk outs => putAll τ2 is outs fun τ3 => Q tk τ3
/-- .. with one list that is made for the call -/
def dConsF (te : DE) (ta : DA) : DA := fun τ Q => te τ fun tk τ1 => match tk with
  | .fr ts => ta τ1 fun tks τ2 => Q (.fr ts :: tks) τ2
  | _ => False
def Ovo (O : Ms) (tp : Option Addr) : Ms := fun a => O a ∨ tp = some a
theorem Ovo.none (O : Ms) : Ovo O none = O := funext fun a => propext ⟨fun h => h.elim id fun z => (by cases z), .inl⟩
inductive ToksF (K : Fg) (M : Ms) (σ : L2.St) (H : Hp) (tp : Option Addr) : List V → List Tok → Prop
  | nil : ToksF K M σ H tp [] []
  | cons {v : V} {vs : List V} {t : Tok} {ts : List Tok} : TokOk K M σ H v t → ToksF K M σ H tp vs ts → ToksF K M σ H tp (v :: vs) (t :: ts)
  | fr {p : Addr} {ws : List V} {us : List T} {vs : List V} {ts : List Tok} : tp = some p → H p = some (.lst ws) → VTs K M H ws us → ToksF K M σ H tp vs ts → ToksF K M σ H tp (.ref p :: vs) (.fr us :: ts)
def liftF (K : Fg) (t : DA) : TA := fun σ H Q => ∃ (O : Ms) (io : List Addr) (α : List (Option Addr)) (τ : DSt) (R : List Tok → DSt → Prop), Now K O io none α τ σ H ∧ t τ R ∧
  ∀ vs tks tp α' τ' H', Now K (Ovo O tp) io none α' τ' σ H' → (∀ p, tp = some p → ¬ O p) → Kp O (Mu O α none) H (Mu (Ovo O tp) α' none) H' → ToksF K (Mu (Ovo O tp) α' none) σ H' tp vs tks → R tks τ' → Q vs H'
abbrev QF (Z : List Addr) (X : Cx) (es : List Expr) (t : DA) : Prop := PA X es (liftF (kz Z X) t)
theorem ToksOk.toF {K : Fg} {M : Ms} {σ : L2.St} {H : Hp} {tp : Option Addr} {vs : List V} {tks : List Tok} (h : ToksOk K M σ H vs tks) : ToksF K M σ H tp vs tks := by
  induction h with
  | nil => exact .nil
  | cons h _ ih => exact .cons h ih
section
variable {X : Cx} {e : Expr} {es : List Expr} {te : DE} {ta : DA}
theorem qf_of (h : QA Z X es ta) : QF Z X es ta := PAmono h fun σ H Q ⟨O, io, α, τ, R, n, h, fin⟩ => ⟨O, io, α, τ, R, n, h, fun vs tks α' τ' H' n' k' r c =>
  fin vs tks none α' τ' H' (by rw [Ovo.none]; exact n') (fun _ z => (by cases z)) (by rw [Ovo.none]; exact k') (by rw [Ovo.none]; exact r.toF) c⟩
theorem Ovo.ov {O : Ms} {p : Addr} : Ov O p = Ovo O (some p) := funext fun a => propext ⟨fun h => h.imp id fun z => congrArg some z.symm, fun h => h.imp id fun z => (Option.some.inj z).symm⟩
theorem qf_here (he : QE Z X e te) (ha : QA Z X es ta) (hs : starEach (e :: es) X.env = (false, eval e X.env) :: starEach es X.env := by rfl) : QF Z X (e :: es) (dConsF te ta) :=
  PAmono (pa_cons he ha hs) fun σ H Q ⟨O, io, α, τ, R, n, h, fin⟩ => ⟨O, io, α, τ, _, n, h, fun v tk tmp α1 τ1 H1 n1 k1 r1 c1 => by
    cases tk with
    | fr us =>
      obtain ⟨p, ws, rfl, rfl, e1, hv⟩ := r1
      have nO := (n1.tm p rfl).1
      have n2 := n1.over e1
      have hv2 : VTs (kz Z X) (Mu (Ov O p) α1 none) H1 ws us := hv.keep (.of_anti Ov.into)
      refine ⟨Ov O p, io, α1, τ1, _, n2, c1, fun vs tks α2 τ2 H2 n3 k3 r3 c3 => ?_⟩
      have e2 : H2 p = some (.lst ws) := (k3.far p (.inr rfl)).trans e1
      have far : Kp O (Mu (Ov O p) α1 none) H1 (Mu (Ov O p) α2 none) H2 := ⟨k3.toKp0, fun a z => k3.far a (.inl z)⟩
      have kk := (k1.trans (Kp.of_anti (O := O) (H := H1) Ov.into)).trans far
      exact fin (.ref p :: vs) (.fr us :: tks) (some p) α2 τ2 H2 (by rw [← Ovo.ov]; exact n3) (fun q z => by cases z; exact nO) (by rw [← Ovo.ov]; exact kk) (by rw [← Ovo.ov]; exact .fr rfl e2 (hv2.keep k3.toKp0) r3.toF) c3
    | _ => exact c1.elim⟩
theorem qf_skip (he : QE Z X e te) (ha : QF Z X es ta) (hs : starEach (e :: es) X.env = (false, eval e X.env) :: starEach es X.env := by rfl) : QF Z X (e :: es) (dCons te ta) :=
  PAmono (pa_cons he ha hs) fun σ H Q ⟨O, io, α, τ, R, n, h, fin⟩ =>
    one n h fun v tk α1 τ1 H1 n1 k1 r1 c1 => ⟨O, io, α1, τ1, _, n1, c1, fun vs tks tp α2 τ2 H2 n2 hp k2 r2 c2 => fin (v :: vs) (weak tk :: tks) tp α2 τ2 H2 n2 hp (k1.trans k2) (.cons (r1.keep k2.toKp0) r2) c2⟩
end
inductive PArgsOk (K : Fg) (M : Ms) (σ : L2.St) (H : Hp) (tp : Option Addr) : List V → List PArg → Prop
  | nil : PArgsOk K M σ H tp [] []
  | v {x : V} {t : T} {xs : List V} {ps : List PArg} : VT K M H x t → PArgsOk K M σ H tp xs ps → PArgsOk K M σ H tp (x :: xs) (.v t :: ps)
  | s {x : V} {i : Nat} {xs : List V} {ps : List PArg} : σ[i]? = some (some x) → PArgsOk K M σ H tp xs ps → PArgsOk K M σ H tp (x :: xs) (.s i :: ps)
  | fr {p : Addr} {ws : List V} {us : List T} {xs : List V} {ps : List PArg} : tp = some p → H p = some (.lst ws) → VTs K M H ws us → PArgsOk K M σ H tp xs ps → PArgsOk K M σ H tp (.ref p :: xs) (.fr us :: ps)
section
variable {K : Fg} {O : Ms} {io : List Addr} {σ : L2.St} {H : Hp} {tp : Option Addr}
theorem ToksF.keep {M M' : Ms} {H' : Hp} {vs : List V} {tks : List Tok} (h : ToksF K M σ H tp vs tks) (k : Kp0 M H M' H') (w : ∀ p xs, tp = some p → H p = some (.lst xs) → H' p = some (.lst xs)) : ToksF K M' σ H' tp vs tks := by
  induction h with
  | nil => exact .nil
  | cons h _ ih => exact .cons (h.keep k) ih
  | fr e1 e2 h _ ih => exact .fr e1 (w _ _ e1 e2) (h.keep k) ih
theorem frozeArgs_ok : ∀ {vs : List V} {modes : List Bool} {tks : List Tok} {α : List (Option Addr)} {τ : DSt} {k : List PArg → DSt → Prop}, Now K O io none α τ σ H → ToksF K (Mu O α none) σ H tp vs tks → frozeArgs τ modes tks k →
    ∃ ps α' τ', Now K O io none α' τ' σ H ∧ (∀ a, Mu O α' none a → Mu O α none a) ∧ PArgsOk K (Mu O α' none) σ H tp vs ps ∧ vs.length = modes.length ∧ k ps τ'
  | _, [], [], α, τ, k, n, .nil, h => ⟨[], α, τ, n, fun _ z => z, .nil, rfl, h⟩
  | _, false :: m, .v u :: r, α, τ, k, n, .cons h1 hs, h => by
    obtain ⟨t, α1, τ1, n1, a1, q1, h⟩ := froze_ok (tk := .v u) n h1 h
    obtain ⟨ps, α2, τ2, n2, a2, q2, l2, h⟩ := frozeArgs_ok n1 (hs.keep (.of_anti a1) fun _ _ _ z => z) h
    exact ⟨_, α2, τ2, n2, fun a z => a1 a (a2 a z), .v (q1.keep (.of_anti a2)) q2, congrArg (· + 1) l2, h⟩
  | _, false :: m, .s i :: r, α, τ, k, n, .cons h1 hs, h => by
    obtain ⟨t, α1, τ1, n1, a1, q1, h⟩ := froze_ok (tk := .s i) n h1 h
    obtain ⟨ps, α2, τ2, n2, a2, q2, l2, h⟩ := frozeArgs_ok n1 (hs.keep (.of_anti a1) fun _ _ _ z => z) h
    exact ⟨_, α2, τ2, n2, fun a z => a1 a (a2 a z), .v (q1.keep (.of_anti a2)) q2, congrArg (· + 1) l2, h⟩
  | _, false :: m, .fr us :: r, α, τ, k, n, _, h => h.elim
  | _, true :: m, .s i :: r, α, τ, k, n, .cons h1 hs, h => by
    obtain ⟨ps, α2, τ2, n2, a2, q2, l2, h⟩ := frozeArgs_ok n hs h
    exact ⟨_, α2, τ2, n2, a2, .s h1 q2, congrArg (· + 1) l2, h⟩
  | _, true :: m, .fr us :: r, α, τ, k, n, .fr e1 e2 h1 hs, h => by
    obtain ⟨ps, α2, τ2, n2, a2, q2, l2, h⟩ := frozeArgs_ok n hs h
    exact ⟨_, α2, τ2, n2, a2, .fr e1 e2 (h1.keep (.of_anti a2)) q2, congrArg (· + 1) l2, h⟩
  | _, true :: m, .fr us :: r, α, τ, k, n, .cons h1 hs, h => h1.elim
  | _, true :: _, .v _ :: _, _, _, _, _, _, h => h.elim
  | _, [], _ :: _, _, _, _, _, _, h => h.elim
  | _, true :: _, [], _, _, _, _, _, h => h.elim
  | _, false :: _, [], _, _, _, _, _, h => h.elim
/-- the addresses of the slots is (none: of the list made for the call) -/
inductive AddrsOf (α : List (Option Addr)) (tp : Option Addr) : List (Option Nat) → List Addr → Prop
  | nil : AddrsOf α tp [] []
  | cons {i : Nat} {a : Addr} {is : List (Option Nat)} {as : List Addr} : α[i]? = some (some a) → AddrsOf α tp is as → AddrsOf α tp (some i :: is) (a :: as)
  | tmp {a : Addr} {is : List (Option Nat)} {as : List Addr} : tp = some a → AddrsOf α tp is as → AddrsOf α tp (none :: is) (a :: as)
theorem ioArgs_ok {α : List (Option Addr)} {τ : DSt} (n : Now K O io none α τ σ H) {M : Ms} (hM : ∀ a, M a → Mu O α none a) : ∀ {vs : List V} {ps : List PArg} {k : List Arg → List (Option Nat) → Prop}, PArgsOk K (Mu O α none) σ H tp vs ps → ioArgs τ ps k →
    ∃ as is ios, ArgsOk K M H vs as ios ∧ AddrsOf α tp is ios ∧ k as is
  | _, _, k, .nil, h => ⟨[], [], [], .nil, .nil, h⟩
  | _, _, k, .v h1 hs, h => by
    obtain ⟨as, is, ios, q1, q2, h⟩ := ioArgs_ok n hM hs h
    exact ⟨_, is, ios, .v (h1.keep (.of_anti hM)) q1, q2, h⟩
  | _, _, k, .fr e1 e2 hv hs, h => by
    obtain ⟨as, is, ios, q1, q2, h⟩ := ioArgs_ok n hM hs h
    exact ⟨_, _, _, .io e2 (hv.keep (.of_anti hM)) q1, .tmp e1 q2, h⟩
  | _, _, k, .s (i := i) h1 hs, h => by
    unfold ioArgs at h
    split at h
    · next ts mk e =>
      obtain ⟨a, ws, e1, e2, e3, hv, _⟩ := own_at n e
      rw [h1] at e2
      cases e2
      obtain ⟨as, is, ios, q1, q2, h⟩ := ioArgs_ok n hM hs h
      exact ⟨_, _, _, .io e3 (hv.keep (.of_anti hM)) q1, .cons e1 q2, h⟩
    · exact h.elim
theorem AddrsOf.mem {α : List (Option Addr)} : ∀ {is : List (Option Nat)} {as : List Addr}, AddrsOf α tp is as → ∀ a, a ∈ as → (∃ i, some i ∈ is ∧ α[i]? = some (some a)) ∨ (none ∈ is ∧ tp = some a)
  | _, _, .nil, a, h => by simp at h
  | _, _, .cons e h, a, z => by
    rcases List.mem_cons.mp z with rfl | z
    · exact .inl ⟨_, List.mem_cons_self, e⟩
    · rcases h.mem a z with ⟨i, h1, h2⟩ | ⟨h1, h2⟩
      · exact .inl ⟨i, List.mem_cons_of_mem _ h1, h2⟩
      · exact .inr ⟨List.mem_cons_of_mem _ h1, h2⟩
  | _, _, .tmp e h, a, z => by
    rcases List.mem_cons.mp z with rfl | z
    · exact .inr ⟨List.mem_cons_self, e⟩
    · rcases h.mem a z with ⟨i, h1, h2⟩ | ⟨h1, h2⟩
      · exact .inl ⟨i, List.mem_cons_of_mem _ h1, h2⟩
      · exact .inr ⟨List.mem_cons_of_mem _ h1, h2⟩
theorem AddrsOf.mem' {α : List (Option Addr)} : ∀ {is : List (Option Nat)} {as : List Addr}, AddrsOf α tp is as → ∀ i, some i ∈ is → ∃ a ∈ as, α[i]? = some (some a)
  | _, _, .nil, a, h => by simp at h
  | _, _, .cons e h, i, z => by
    rcases List.mem_cons.mp z with z | z
    · cases z; exact ⟨_, List.mem_cons_self, e⟩
    · obtain ⟨a, h1, h2⟩ := h.mem' i z
      exact ⟨a, List.mem_cons_of_mem _ h1, h2⟩
  | _, _, .tmp e h, i, z => by
    rcases List.mem_cons.mp z with z | z
    · cases z
    · obtain ⟨a, h1, h2⟩ := h.mem' i z
      exact ⟨a, List.mem_cons_of_mem _ h1, h2⟩
theorem AddrsOf.nodup {α : List (Option Addr)} (inj : ∀ (i j : Nat) (a : Addr), α[i]? = some (some a) → α[j]? = some (some a) → i = j) (hp : ∀ p (i : Nat), tp = some p → α[i]? ≠ some (some p)) : ∀ {is : List (Option Nat)} {as : List Addr}, AddrsOf α tp is as → is.Nodup → as.Nodup
  | _, _, .nil, _ => List.nodup_nil
  | _, _, .cons e h, n => by
    obtain ⟨n1, n2⟩ := List.nodup_cons.mp n
    refine List.nodup_cons.mpr ⟨fun z => ?_, h.nodup inj hp n2⟩
    rcases h.mem _ z with ⟨j, h1, h2⟩ | ⟨_, h2⟩
    · rw [inj _ _ _ e h2] at n1
      exact n1 h1
    · exact hp _ _ h2 e
  | _, _, .tmp e h, n => by
    obtain ⟨n1, n2⟩ := List.nodup_cons.mp n
    refine List.nodup_cons.mpr ⟨fun z => ?_, h.nodup inj hp n2⟩
    rcases h.mem _ z with ⟨j, h1, h2⟩ | ⟨h1, _⟩
    · exact hp _ _ e h2
    · exact n1 h1
theorem ownOf_mk {s : Option Slot} {ts : List T} {mk : List T → Slot} (h : ownOf s = some (ts, mk)) : ∀ us, ownOf (some (mk us)) = some (us, mk) := by
  unfold ownOf at h
  split at h <;> cases h <;> exact fun _ => rfl
theorem slotAt_set {τ : DSt} {i j : Nat} {y : Option Slot} (h : j ≠ i) : slotAt (setSlot τ i y) j = slotAt τ j := by
  cases e : slotAt τ j with
  | some s =>
    rw [slotAt_iff, setSlot_eq, set_off h]
    exact slotAt_iff.mp e
  | none =>
    cases e2 : slotAt (setSlot τ i y) j with
    | none => rfl
    | some s =>
      rw [slotAt_iff, setSlot_eq, set_off h, ← slotAt_iff, e] at e2
      cases e2
/-- the lists behind a call -/
theorem put_now {tmp : Option Addr} {α : List (Option Addr)} {H' : Hp} {M : Ms} (hM : ∀ a, Mu O α tmp a → M a) : ∀ {is : List (Option Nat)} {ios : List Addr} {outs : List (List T)} {τ : DSt} {k : DSt → Prop},
    AddrsOf α tp is ios → OutsOk K M H' ios outs → is.Nodup → putAll τ is outs k →
    (τ.length = σ.length) → (∀ i s, some i ∉ is → τ[i]? = some (some s) → SlotOk K (Mu O α tmp) io H' σ α i s) → (∀ i a, α[i]? = some (some a) → ∀ ts mk, ownOf (slotAt τ i) = some (ts, mk) → σ[i]? = some (some (.ref a)) ∧ ∀ m us, mk us = .io m us → io[m]? = some a) →
    ∃ τ', k τ' ∧ τ'.length = σ.length ∧ ∀ i s, τ'[i]? = some (some s) → SlotOk K (Mu O α tmp) io H' σ α i s
  | _, _, _, τ, k, .nil, .nil, _, h, hl, hs, _ => ⟨τ, h, hl, fun i s e => hs i s (by simp) e⟩
  | _, _, _, τ, k, .tmp _ hA, .cons _ _ hO, nd, h, hl, hs, ho => put_now hM hA hO (List.nodup_cons.mp nd).2 h hl (fun i s hi e => hs i s (fun z => (List.mem_cons.mp z).elim (fun z => by cases z) hi) e) ho
  | _, _, _, τ, k, .cons (i := i) (a := a) ea hA, .cons (vs := ws) (ts := ts) e hv hO, nd, h, hl, hs, ho => by
    obtain ⟨n1, n2⟩ := List.nodup_cons.mp nd
    unfold putAll at h
    split at h
    · next ts0 mk em =>
      obtain ⟨eσ, eio⟩ := ho i a ea _ _ em
      refine put_now hM hA hO n2 h (by rw [setSlot_eq, List.length_set]; exact hl) (fun j s hj es => ?_) fun j b eb us mk' em' => ?_
      · rw [setSlot_eq] at es
        by_cases hji : j = i
        · subst hji
          have hlt : j < (τ.set j (some (mk ts))).length := (List.getElem?_eq_some_iff.mp es).1
          rw [List.length_set] at hlt
          rw [set_at hlt] at es
          cases es
          have q := ownOf_mk em ts
          have hv' : VTs K (Mu O α tmp) H' ws ts := hv.keep (.of_anti hM)
          cases hmk : mk ts with
          | val t => rw [hmk] at q; cases q
          | own us =>
            rw [hmk] at q
            obtain ⟨q1, _⟩ := Prod.mk.inj (Option.some.inj q)
            rw [q1]
            exact ⟨a, ws, ea, eσ, e, hv'⟩
          | io m us =>
            rw [hmk] at q
            obtain ⟨q1, q2⟩ := Prod.mk.inj (Option.some.inj q)
            rw [q1]
            exact ⟨a, ws, eio m ts (by rw [← q2]), ea, eσ, e, hv'⟩
        · rw [set_off hji] at es
          exact hs j s (fun z => (List.mem_cons.mp z).elim (fun z => hji (Option.some.inj z)) hj) es
      · by_cases hji : j = i
        · subst hji
          have hsl : ownOf (slotAt (setSlot τ j (some (mk ts))) j) = some (ts, mk) := by
            have hlt : j < τ.length := by
              refine Nat.lt_of_not_le fun z => ?_
              have : slotAt τ j = none := by
                cases e2 : slotAt τ j with
                | none => rfl
                | some s =>
                  have := slotAt_iff.mp e2
                  rw [List.getElem?_eq_none z] at this
                  cases this
              rw [this] at em
              cases em
            have : slotAt (setSlot τ j (some (mk ts))) j = some (mk ts) := by rw [slotAt_iff, setSlot_eq, set_at hlt]
            rw [this]
            exact ownOf_mk em ts
          rw [hsl] at em'
          cases em'
          exact ho j b eb _ _ em
        · rw [slotAt_set hji] at em'
          exact ho j b eb _ _ em'
    · exact h.elim
end
section
variable {X : Cx} {k : Nat} {f : Addr} {fd : FuncData} {ps : List Str} {d : DSp} {dvs : List V} {ds : List Value} {x : Str} {p pos : Pos} {e : Expr} {es : List Expr} {ta : DA} {m : Nat} {modes : List Bool} {dts : List T}
theorem ArgsOk.app {K : Fg} {M : Ms} {H : Hp} : ∀ {vs : List V} {as : List Arg} {ios : List Addr} {ws : List V} {ts : List T}, ArgsOk K M H vs as ios → VTs K M H ws ts → ArgsOk K M H (vs ++ ws) (as ++ ts.map .v) ios
  | _, _, _, _, _, .nil, h => by
    have aux : ∀ {ws : List V} {ts : List T}, VTs K M H ws ts → ArgsOk K M H ws (ts.map .v) [] := by
      intro ws
      induction ws with
      | nil => intro ts h; cases h; exact .nil
      | cons w ws ih => intro ts h; cases h with
        | cons h hs => exact .v h (ih hs)
    exact aux h
  | _, _, _, _, _, .v h1 hs, h => .v h1 (hs.app h)
  | _, _, _, _, _, .io h1 h2 hs, h => .io h1 h2 (hs.app h)
theorem ArgsOk.anti {K : Fg} {M M' : Ms} {H : Hp} {vs : List V} {as : List Arg} {ios : List Addr} (s : ∀ a, M' a → M a) (h : ArgsOk K M H vs as ios) : ArgsOk K M' H vs as ios := by
  induction h with
  | nil => exact .nil
  | v h _ ih => exact .v (h.keep (.of_anti s)) ih
  | io e h _ ih => exact .io e (h.keep (.of_anti s)) ih
theorem OutsOk.at {K : Fg} {M : Ms} {H : Hp} {a : Addr} {ios : List Addr} {outs : List (List N1.T)} (h : OutsOk K M H ios outs) : a ∈ ios → ∃ xs, H a = some (.lst xs) := by
  induction h with
  | nil => intro z; simp at z
  | cons e _ _ ih =>
    intro z
    rcases List.mem_cons.mp z with rfl | z
    · exact ⟨_, e⟩
    · exact ih z
theorem call_lift (hd : ∀ M H, VTs (kz Z X) M H dvs dts) (hm : modes.length + dts.length = m) {σ : L2.St} {H : Hp} {Q : VK} {E : XK} (h : liftE (kz Z X) (dCall d modes dts ta) σ H Q) : tCall (liftSp (kz Z X) m d) dvs E (liftF (kz Z X) ta) σ H Q := by
  obtain ⟨O, io, α, τ, R, n, h, fin⟩ := h
  refine ⟨O, io, α, τ, _, n, h, fun vs tks tp α1 τ1 H1 n1 hp1 k1 r1 c => ?_⟩
  obtain ⟨pa, α2, τ2, n2, a2, q2, l2, c⟩ := frozeArgs_ok n1 r1 c
  obtain ⟨as, is, ios, q3, hA, nd, c⟩ := ioArgs_ok n2 (M := Mu (Ovo O tp) α2 none) (fun _ z => z) q2 c
  -- what the callee must not touch: all but what is lent
  have hO' : ∀ a, Me (fun a => O a ∨ (∃ i, α2[i]? = some (some a) ∧ some i ∉ is)) ios none a → Mu (Ovo O tp) α2 none a := by
    rintro a ((z | ⟨i, z, _⟩) | z | z)
    · exact .inl (.inl z)
    · exact .inr (.inl ⟨i, z⟩)
    · rcases hA.mem a z with ⟨i, _, z⟩ | ⟨_, z⟩
      · exact .inr (.inl ⟨i, z⟩)
      · exact .inl (.inr z)
    · cases z
  have hback : ∀ a, Mu O α2 none a → Me (fun a => O a ∨ (∃ i, α2[i]? = some (some a) ∧ some i ∉ is)) ios none a := by
    rintro a (z | ⟨i, z⟩ | z)
    · exact .inl (.inl z)
    · by_cases hi : some i ∈ is
      · obtain ⟨b, hb, e⟩ := hA.mem' i hi
        rw [z] at e
        cases e
        exact .inr (.inl hb)
      · exact .inl (.inr ⟨i, z, hi⟩)
    · cases z
  have q3' := q3.anti hO'
  have hlen : (vs ++ dvs).length = m := by
    rw [List.length_append, l2, (hd (fun _ => False) H1).length]
    exact hm
  have hpα : ∀ p (i : Nat), tp = some p → α2[i]? ≠ some (some p) := fun p i hp e => n2.nO i p e (.inr hp)
  have weakM : ∀ a, Mu O α2 none a → Mu (Ovo O tp) α2 none a := fun a z => by
    rcases z with z | z | z
    · exact .inl (.inl z)
    · exact .inr (.inl z)
    · cases z
  refine ⟨hlen, fun a => O a ∨ (∃ i, α2[i]? = some (some a) ∧ some i ∉ is), ios, as ++ dts.map .v, _, q3'.app (hd _ _), hA.nodup n2.nd hpα nd, ?_, ?_, n2.tb, c, ?_⟩
  · intro a ha z
    rcases hA.mem a ha with ⟨j, hj, e⟩ | ⟨_, e⟩
    · rcases z with z | ⟨i, z, hi⟩
      · exact n2.nO j a e (.inl z)
      · rw [n2.nd i j a z e] at hi
        exact hi hj
    · rcases z with z | ⟨i, z, hi⟩
      · exact hp1 a e z
      · exact hpα a i e z
  · rintro a (z | ⟨i, z, _⟩)
    · exact n2.tr a (.inl (.inl z))
    · exact n2.tr a (.inr (.inl ⟨i, z⟩))
  · intro v tk tmp outs H' k3 hO r3 ht hp
    have eT : ∀ a, Mu O α2 tmp a → Me (fun a => O a ∨ (∃ i, α2[i]? = some (some a) ∧ some i ∉ is)) ios tmp a := fun a z => by
      rcases z with z | z | z
      · exact .inl (.inl z)
      · rcases hback a (.inr (.inl z)) with z | z | z
        · exact .inl z
        · exact .inr (.inl z)
        · cases z
      · exact .inr (.inr z)
    have k4 : Kp O (Mu (Ovo O tp) α2 none) H1 (Mu O α2 tmp) H' := by
      have k5 : Kp0 (Mu (Ovo O tp) α2 none) H1 (Mu O α2 tmp) H' := (Kp0.of_anti hO').trans (k3.toKp0.anti eT)
      exact ⟨k5, fun a z => k3.far a (.inl z)⟩
    obtain ⟨τ3, c3, hl3, hs3⟩ := put_now (K := (kz Z X)) (O := O) (io := io) (σ := σ) (tmp := tmp) eT hA hO nd hp n2.lenT (fun i s hi es => (n2.slot i s es).keep k4.toKp0 fun a ws e1 e2 => (k3.far a (.inr ⟨i, e1, hi⟩)).trans e2) fun i a ea ts mk em => by
      obtain ⟨b, ws, e1, e2, e3, hv, _⟩ := own_at n2 em
      rw [ea] at e1
      cases e1
      refine ⟨e2, fun j us hm => ?_⟩
      cases es : slotAt τ2 i with
      | none => rw [es] at em; cases em
      | some s =>
        rw [es] at em
        cases s with
        | val t => cases em
        | own us' => cases em; cases hm
        | io j' us' =>
          cases em
          cases hm
          obtain ⟨b, ws, z0, z1, _⟩ := n2.slot i _ (slotAt_iff.mp es)
          rw [ea] at z1
          cases z1
          exact z0
    have nw : Now (kz Z X) O io tmp α2 τ3 σ H' := by
      refine ⟨hl3, n2.lenA, hs3, n2.nd, fun i a e z => n2.nO i a e (.inl z), fun p z => ?_, fun a ha => ?_, fun P hP => k4.tab P (n2.tb P hP)⟩
      · obtain ⟨t1, t2⟩ := ht p z
        refine ⟨fun y => t1 (.inl y), fun i e => ?_⟩
        by_cases hi : some i ∈ is
        · obtain ⟨b, hb, e'⟩ := hA.mem' i hi
          rw [e] at e'
          cases e'
          exact t2 hb
        · exact t1 (.inr ⟨i, e, hi⟩)
      · rcases hback a ha with z | z | z
        · rw [k3.far a z]
          exact n2.tr a (weakM a ha)
        · exact hO.at z
        · cases z
    refine fin v tk tmp α2 τ3 H' nw ((k1.trans (.of_anti a2)).trans k4) ?_ c3
    cases tk with
    | v t =>
      obtain ⟨rfl, r3⟩ := r3
      exact ⟨rfl, r3.keep (.of_anti eT)⟩
    | s i => exact r3.elim
    | fr ts =>
      obtain ⟨p, ws, rfl, rfl, e, hv⟩ := r3
      exact ⟨p, ws, rfl, rfl, e, hv.keep (.of_anti eT)⟩
theorem qe_call (F : FnOk X.prog X.w (kz Z X) X.mg X.base CX0 k f fd ps (liftSp (kz Z X) m d)) (hr : Room k X.A) (hg : Gl X x) (hmg : X.mg x = some (.ref f)) (hk : PySem.W.keepIn (kz Z X) (.ref f) = true) (hb : Binds (kz Z X) fd ps ds) (hd : Vals dvs ds) (hdt : ∀ M H, VTs (kz Z X) M H dvs dts)
    (hm : modes.length + dts.length = m) (ha : QF Z X (e :: es) ta) (hdb : (x == ("__debug__" : Str)) = false := by decide) (he : starEach (e :: es) X.env = (false, eval e X.env) :: starEach es X.env := by rfl) (hpl : (backTo pos (starEach es X.env)).any (·.1) = false := by rfl) :
    QE Z X (.Call (.Name x p) (e :: es) [] pos) (dCall d modes dts ta) :=
  PEmono (pe_call F hr hg hmg hk hb hd (pass0 (X := X)) ha hdb he hpl) fun _ _ _ => call_lift hdt hm
theorem qe_call0 (F : FnOk X.prog X.w (kz Z X) X.mg X.base CX0 k f fd ps (liftSp (kz Z X) m d)) (hr : Room k X.A) (hg : Gl X x) (hmg : X.mg x = some (.ref f)) (hk : PySem.W.keepIn (kz Z X) (.ref f) = true) (hb : Binds (kz Z X) fd ps ds) (hd : Vals dvs ds) (hdt : ∀ M H, VTs (kz Z X) M H dvs dts)
    (hm : modes.length + dts.length = m) (hdb : (x == ("__debug__" : Str)) = false := by decide) : QE Z X (.Call (.Name x p) [] [] pos) (dCall d modes dts dNil) :=
  PEmono (pe_call0 F hr hg hmg hk hb hd (pass0 (X := X)) hdb) fun σ H Q h => by
    have z := call_lift (X := X) (E := E0) hdt hm h
    obtain ⟨O, io, α, τ, R, n, h, fin⟩ := z
    exact fin [] [] none α τ H (by rw [Ovo.none]; exact n) (fun _ z => (by cases z)) (by rw [Ovo.none]; exact .refl) .nil h
end
/-! names of the top: constants -/
section
variable {X : Cx}
theorem qe_glob {x : Str} {v : V} {u : Value} {t : T} {pos : Pos} (hg : Gl X x) (hm : X.mg x = some u) (r : RelV v u) (h : ∀ M H, VT (kz Z X) M H v t) (hd : (x == ("__debug__" : Str)) = false := by decide) : QE Z X (.Name x pos) (dC t) := qe_const (pe_glob hg hm r hd) h
theorem lc_asg {i : Nat} {K : Fg} {vs : List Nat} {d : DI} {g : DG} {tt : DT} {te : DE} {D : Ends} {σ : L2.St} {H : Hp} (h : liftS K (dAsg i (dLc vs d g tt te)) D σ H) : tAsg (tLc (liftI K d) (liftG K vs g) (liftT K tt) (liftE K te) vs) (gName i) D σ H := by
  obtain ⟨O, io, α, τ, E, n, h, l1, _, _, _⟩ := h
  exact lc_lift (Q := fun x H1 => gName i x σ H1 D.nx) ⟨O, io, α, τ, _, n, h, fun v tk tmp α' τ' H' n' k r c => asg_ok n' k r c l1⟩
theorem qs_setLc {i : Nat} {y : Str} {py : Pos} {elt tg iter : Expr} {ifs : List Expr} {scope : Scope} {own : List (Str × Nat)} {pos spos : Pos} {d : DI} {g : DG} {tt : DT} {te : DE} (hc : X.calm = true) (hN : X.N.Nodup) (hy : X.N[i]? = some y) (hyl : X.env.scope.names.lookup y = some .local)
    (hsw : swapsWith (.ListComp elt [⟨tg, iter, ifs, 0⟩] scope pos) (some (.Name y py)) spos.line X.env = pure true) (hi : QI Z X tg iter d) (ok : BlkOk X.N X.env.scope scope own)
    (hg : ∀ (s : Shared) (H : Hp) (C : Addr) (cl : List (Str × Addr)) (fp : List Addr), QG Z (X.blk s H scope (compEnvC scope cl C X.env) fp) (own.map (·.2)) tg g)
    (ht : ∀ (s : Shared) (H : Hp) (C : Addr) (cl : List (Str × Addr)) (fp : List Addr), QTs Z (X.blk s H scope (compEnvC scope cl C X.env) fp) ifs tt)
    (he : ∀ (s : Shared) (H : Hp) (C : Addr) (cl : List (Str × Addr)) (fp : List Addr), QE Z (X.blk s H scope (compEnvC scope cl C X.env) fp) elt te) (hs : ∀ x, foldedSetIterable iter X.env x = pure x := by intro _; rfl) :
    QS Z X (.Assign [.Name y py] (.ListComp elt [⟨tg, iter, ifs, 0⟩] scope pos) spos) (dAsg i (dLc (own.map (·.2)) d g tt te)) := PSmono (ps_setLc hc hN hy hyl hsw hi ok hg ht he hs) fun _ _ _ => lc_asg
end
/-! the law's promise -/
def spLaw (K : Fg) (d : DSp) : Sp := liftSp K 1 d
theorem law_ok {K : Fg} {d : DSp} {H : Hp} {a : Addr} {ns : List Int} (ho : ∀ b xs, H b ≠ some (.lst xs)) (tb : ∀ P ∈ K.tl, GxR.TabG H P) (hs : SqL K H a (ns.map V.int)) (h : d [.v (.lsk (ns.map .int))] fun tk _ => tk = .v (.bl true)) : liftSp K 1 d [.ref a] H (fun v _ => v = .bl true) fun _ _ _ => False := by
  have hints : ∀ (ns : List Int) (M : Ms), VTs K M H (ns.map V.int) (ns.map T.int) := by
    intro ns M
    induction ns with
    | nil => exact .nil
    | cons n ns ih => exact .cons (.int n) ih
  have hk : RdK K H a (ns.map V.int) := by
    rcases hs with (hs | ⟨o, hs⟩) | hs
    · exact absurd hs (ho a _)
    · exact .inl ⟨o, hs⟩
    · exact .inr hs
  refine ⟨rfl, fun _ => False, [], _, _, .v (.lsk hk (hints ns _)) .nil, List.nodup_nil, fun _ h => by simp at h, fun _ h => h.elim, tb, h, fun v tk tmp outs H' _ _ r _ e => ?_⟩
  subst e
  exact VTbl r.2
theorem only_no {H : Hp} (ho : Only H) : ∀ b xs, H b ≠ some (.lst xs) := fun b xs e => by
  rcases ho b with z | ⟨o, ys, z⟩
  · rw [z] at e; cases e
  · rw [z] at e; cases e
end N1
namespace N1
open PySem PySem.Spec PyProof.Rows L2
variable {Z : List Addr}

/-! ### a call of a def with keywords: all arguments are values -/
section
variable {X : Cx} {K : Fg} {O : Ms} {io : List Addr} {α : List (Option Addr)} {τ : DSt} {σ : L2.St} {H : Hp} {d : DSp} {m : Nat}
theorem val_call {vs : List V} {ts : List T} {R : Tok → Prop} {Q : VK} {E : XK} (n : Now K O io none α τ σ H) (hv : VTs K (Mu O α none) H vs ts) (hl : vs.length = m) (h : d (ts.map .v) fun tk _ => R tk)
    (fin : ∀ v tk tmp H', Now K O io tmp α τ σ H' → Kp O (Mu O α none) H (Mu O α tmp) H' → Res K O α tmp σ H' v tk → R tk → Q v H') : liftSp K m d vs H Q E := by
  have eq : ∀ tmp a, Me (fun a => O a ∨ ∃ i : Nat, α[i]? = some (some a)) [] tmp a ↔ Mu O α tmp a := fun tmp a =>
    ⟨fun z => by
      rcases z with (z | z) | z | z
      · exact .inl z
      · exact .inr (.inl z)
      · simp at z
      · exact .inr (.inr z), fun z => by
      rcases z with z | z | z
      · exact .inl (.inl z)
      · exact .inl (.inr z)
      · exact .inr (.inr z)⟩
  have args : ∀ {vs : List V} {ts : List T} {M : Ms}, VTs K M H vs ts → ArgsOk K M H vs (ts.map .v) [] := by
    intro vs
    induction vs with
    | nil => intro ts M h; cases h; exact .nil
    | cons w ws ih => intro ts M h; cases h with
      | cons h hs => exact .v h (ih hs)
  refine ⟨hl, fun a => O a ∨ ∃ i : Nat, α[i]? = some (some a), [], ts.map .v, _, args (hv.keep (.of_anti fun a z => (eq none a).mp z)), List.nodup_nil, fun _ z => by simp at z, fun a z => n.tr a ((eq none a).mp (.inl z)), n.tb, h, fun v tk tmp outs H' k _ r ht c => ?_⟩
  have kk : Kp O (Mu O α none) H (Mu O α tmp) H' := ⟨(Kp0.of_anti fun a z => (eq none a).mp z).trans (k.toKp0.anti fun a z => (eq tmp a).mpr z), fun a z => k.far a (.inl z)⟩
  have nw : Now K O io tmp α τ σ H' := by
    refine ⟨n.lenT, n.lenA, fun i s e => (n.slot i s e).keep kk.toKp0 fun a ws e1 e2 => (k.far a (.inr ⟨i, e1⟩)).trans e2, n.nd, n.nO, fun p z => ⟨fun y => (ht p z).1 (.inl y), fun i e => (ht p z).1 (.inr ⟨i, e⟩)⟩, fun a ha => ?_, fun P hP => kk.tab P (n.tb P hP)⟩
    rcases (eq none a).mpr ha with z | z | z
    · rw [k.far a z]; exact n.tr a ha
    · simp at z
    · cases z
  refine fin v tk tmp H' nw kk ?_ c
  cases tk with
  | v t => obtain ⟨rfl, r⟩ := r; exact ⟨rfl, r.keep (.of_anti fun a z => (eq none a).mpr z)⟩
  | s i => exact r.elim
  | fr ts =>
    obtain ⟨p, ws, rfl, rfl, e, hv⟩ := r
    exact ⟨p, ws, rfl, rfl, e, hv.keep (.of_anti fun a z => (eq (some p) a).mpr z)⟩
/-! the keywords' values -/
def liftK (K : Fg) (t : DA) : TA := liftA K t
abbrev QK (Z : List Addr) (X : Cx) (kws : List Keyword) (t : DA) : Prop := PK X kws (liftA (kz Z X) t)
theorem PKmono {kws : List Keyword} {t t' : TA} (h : PK X kws t) (m : ∀ σ H Q, t' σ H Q → t σ H Q) : PK X kws t' := ⟨fun pos pins s σ H Q I q => h.run pos pins s σ H Q I (m σ H Q q)⟩
theorem qk_nil : QK Z X [] dNil := PKmono pk_nil fun σ H Q ⟨O, io, α, τ, R, n, h, fin⟩ => fin [] [] α τ H n .refl .nil h
theorem qk_cons {e : Expr} {nm : Option Str} {kpos : Pos} {kws : List Keyword} {te : DE} {ta : DA} (he : QE Z X e te) (ha : QK Z X kws ta) : QK Z X (⟨nm, e, kpos⟩ :: kws) (dCons te ta) :=
  PKmono (pk_cons he ha) fun σ H Q ⟨O, io, α, τ, R, n, h, fin⟩ =>
    one n h fun v tk α1 τ1 H1 n1 k1 r1 c1 => ⟨O, io, α1, τ1, _, n1, c1, fun vs tks α2 τ2 H2 n2 k2 r2 c2 => fin (v :: vs) (weak tk :: tks) α2 τ2 H2 n2 (k1.trans k2) (.cons (r1.keep k2.toKp0) r2) c2⟩
def dCallK (d : DSp) (m : Nat) (gT : List T → List T → List T) (ta tk : DA) : DE := fun τ Q => ta τ fun tks τ1 => tk τ1 fun zks τ2 => frozeAll τ2 tks fun ts τ3 => frozeAll τ3 zks fun us τ4 => (gT ts us).length = m ∧ d ((gT ts us).map .v) fun r _ => Q r τ4
variable {k : Nat} {f : Addr} {fd : FuncData} {ps ks : List Str} {x : Str} {p pos : Pos} {e : Expr} {es : List Expr} {kws : List Keyword} {ta tk : DA} {g : List Value → List Value → List Value} {gV : List V → List V → List V} {gT : List T → List T → List T}
theorem callk_lift (hg : ∀ {M : Ms} {H : Hp} {vs zs : List V} {ts us : List T}, VTs (kz Z X) M H vs ts → VTs (kz Z X) M H zs us → VTs (kz Z X) M H (gV vs zs) (gT ts us)) {σ : L2.St} {H : Hp} {Q : VK} {E : XK} (h : liftE (kz Z X) (dCallK d m gT ta tk) σ H Q) : tCallK (liftSp (kz Z X) m d) gV E (liftA (kz Z X) ta) (liftA (kz Z X) tk) σ H Q := by
  obtain ⟨O, io, α, τ, R, n, h, fin⟩ := h
  refine ⟨O, io, α, τ, _, n, h, fun vs tks α1 τ1 H1 n1 k1 r1 c => ⟨O, io, α1, τ1, _, n1, c, fun zs zks α2 τ2 H2 n2 k2 r2 c => ?_⟩⟩
  obtain ⟨ts, α3, τ3, n3, a3, q3, c⟩ := frozeAll_ok n2 (r1.keep k2.toKp0) c
  obtain ⟨us, α4, τ4, n4, a4, q4, hl, c⟩ := frozeAll_ok n3 (r2.keep (.of_anti a3)) c
  have hv := hg (q3.keep (.of_anti a4)) q4
  have kk : Kp O (Mu O α none) H (Mu O α4 none) H2 := (k1.trans k2).trans (.of_anti fun a z => a3 a (a4 a z))
  exact val_call n4 hv (by rw [hv.length]; exact hl) c fun v tk tmp H' n' k' r c => fin v tk tmp α4 τ4 H' n' (kk.trans k') r c
theorem pe_callK0 {CX : CXT} {sp : Sp} {E : XK} {tz : TA} (F : FnOk X.prog X.w (kz Z X) X.mg X.base CX k f fd ps sp) (hr : Room k X.A) (hg : Gl X x) (hm : X.mg x = some (.ref f)) (hk : PySem.W.keepIn (kz Z X) (.ref f) = true) (hb : KBinds (kz Z X) fd ps ks g gV) (hx : Passes CX X E)
    (hkw : PK X kws tz) (hall : (backToKw pos (keywordEach kws X.env)).all (·.1.isSome) = true := by rfl) (hks : (backToKw pos (keywordEach kws X.env)).filterMap (·.1) = ks := by rfl)
    (hdb : (x == ("__debug__" : Str)) = false := by decide) (hpl : ((backTo pos (starEach [] X.env)).any (·.1) || (backToKw pos (keywordEach kws X.env)).any (·.1.isNone)) = false := by rfl) :
    PE X (.Call (.Name x p) [] kws pos) (tCallK sp gV E tNil tz) := by
  refine ⟨fun pins s σ H Q I h => wpAny_Call_Name_kw (ld_glob I hg hm ?_ hdb)⟩
  refine PySem.W.callWith_KW0 (h₀ := X.base) I.ok.mod.kin hk hall (thn (hkw.run pos pins s σ H _ I h) fun ws s2 ⟨zs, H2, I2, rz, q2⟩ => ⟨I2.kIn, ?_⟩) hpl
  rw [hks]
  exact run_fnk (us := []) (vs := []) F hr hb hx I2 .nil rz q2
theorem qe_callK0 (F : FnOk X.prog X.w (kz Z X) X.mg X.base CX0 k f fd ps (liftSp (kz Z X) m d)) (hr : Room k X.A) (hg : Gl X x) (hm : X.mg x = some (.ref f)) (hk : PySem.W.keepIn (kz Z X) (.ref f) = true) (hb : KBinds (kz Z X) fd ps ks g gV)
    (hgt : ∀ {M : Ms} {H : Hp} {vs zs : List V} {ts us : List T}, VTs (kz Z X) M H vs ts → VTs (kz Z X) M H zs us → VTs (kz Z X) M H (gV vs zs) (gT ts us))
    (hkw : QK Z X kws tk) (hall : (backToKw pos (keywordEach kws X.env)).all (·.1.isSome) = true := by rfl) (hks : (backToKw pos (keywordEach kws X.env)).filterMap (·.1) = ks := by rfl)
    (hdb : (x == ("__debug__" : Str)) = false := by decide) (hpl : ((backTo pos (starEach [] X.env)).any (·.1) || (backToKw pos (keywordEach kws X.env)).any (·.1.isNone)) = false := by rfl) :
    QE Z X (.Call (.Name x p) [] kws pos) (dCallK d m gT dNil tk) :=
  PEmono (pe_callK0 F hr hg hm hk hb (pass0 (X := X)) hkw hall hks hdb hpl) fun σ H Q h => by
    obtain ⟨O, io, α, τ, R, n, h, fin⟩ := callk_lift (X := X) (E := E0) hgt h
    exact fin [] [] α τ H n .refl .nil h
theorem qe_callK (F : FnOk X.prog X.w (kz Z X) X.mg X.base CX0 k f fd ps (liftSp (kz Z X) m d)) (hr : Room k X.A) (hg : Gl X x) (hm : X.mg x = some (.ref f)) (hk : PySem.W.keepIn (kz Z X) (.ref f) = true) (hb : KBinds (kz Z X) fd ps ks g gV)
    (hgt : ∀ {M : Ms} {H : Hp} {vs zs : List V} {ts us : List T}, VTs (kz Z X) M H vs ts → VTs (kz Z X) M H zs us → VTs (kz Z X) M H (gV vs zs) (gT ts us))
    (ha : QA Z X (e :: es) ta) (hkw : QK Z X kws tk) (hall : (backToKw pos (keywordEach kws X.env)).all (·.1.isSome) = true := by rfl) (hks : (backToKw pos (keywordEach kws X.env)).filterMap (·.1) = ks := by rfl)
    (hdb : (x == ("__debug__" : Str)) = false := by decide) (he : starEach (e :: es) X.env = (false, eval e X.env) :: starEach es X.env := by rfl)
    (hpl : ((backTo pos (starEach (e :: es) X.env)).any (·.1) || (backToKw pos (keywordEach kws X.env)).any (·.1.isNone)) = false := by rfl) :
    QE Z X (.Call (.Name x p) (e :: es) kws pos) (dCallK d m gT ta tk) :=
  PEmono (pe_callK F hr hg hm hk hb (pass0 (X := X)) ha hkw hall hks hdb he hpl) fun σ H Q h => callk_lift (X := X) (E := E0) hgt h
end
/-! how the keywords bind -/
theorem kbinds_of {K : PySem.W.Frag} {x qual : Str} {st : Stmt} {f : Addr} {fd : FuncData} {ps ks : List Str} {g : List Value → List Value → List Value} {gV : List V → List V → List V} (F : Fun K x qual st f fd)
    (h : ∀ (kV doc pm : Value) (an : Option Addr) (cdv ct : Value) (us ws : List Value), (g us ws).length = ps.length → bindArgs (PySem.W.fnOf x qual (defArgs st) (defBody st) (defScope st) .none kV doc pm an cdv ct) ⟨us, ks.zip ws⟩ = pure (ps.zip (g us ws)))
    (r : ∀ {vs : List V} {us : List Value} {zs : List V} {ws : List Value}, Vals vs us → Vals zs ws → Vals (gV vs zs) (g us ws)) : KBinds K fd ps ks g gV := by
  obtain ⟨oc, od, kV, doc, pm, an, cdv, ct, osl, rfl, lk, hcd⟩ := F.ex
  exact ⟨fun s us ws _ hl => .of_eq (h kV doc pm an cdv ct us ws hl), r⟩
/-- the positional values as and the keywords' values bs in the parameters' order -/
def kgOf (np nk : Nat) (perm : List Nat) {β : Type} (as bs : List β) : List β := if as.length = np ∧ bs.length = nk then perm.filterMap fun j => (as ++ bs)[j]? else []
theorem kg_ts {K : Fg} {M : Ms} {H : Hp} {np nk : Nat} {perm : List Nat} {vs zs : List V} {ts us : List T} (h1 : VTs K M H vs ts) (h2 : VTs K M H zs us) : VTs K M H (kgOf np nk perm vs zs) (kgOf np nk perm ts us) := by
  unfold kgOf
  rw [h1.length, h2.length]
  split
  · induction perm with
    | nil => exact .nil
    | cons j r ih =>
      rw [List.filterMap_cons, List.filterMap_cons]
      cases e : (ts ++ us)[j]? with
      | none =>
        have : (vs ++ zs)[j]? = none := by
          rw [List.getElem?_eq_none_iff] at e ⊢
          rw [(h1.append h2).length]
          exact e
        rw [this]
        exact ih
      | some t =>
        obtain ⟨v, e2, hv⟩ := (h1.append h2).get e
        rw [e2]
        exact .cons hv ih
  · exact .nil
theorem kg_vals {np nk : Nat} {perm : List Nat} {vs : List V} {us : List Value} {zs : List V} {ws : List Value} (h1 : Vals vs us) (h2 : Vals zs ws) : Vals (kgOf np nk perm vs zs) (kgOf np nk perm us ws) := by
  unfold kgOf
  rw [h1.length, h2.length]
  split
  · induction perm with
    | nil => exact .nil
    | cons j r ih =>
      rw [List.filterMap_cons, List.filterMap_cons]
      cases e : (vs ++ zs)[j]? with
      | none =>
        rw [Vals.none_of (h1.append h2) e]
        exact ih
      | some v =>
        obtain ⟨u, e2, hv⟩ := (h1.append h2).get e
        rw [e2]
        exact .cons hv ih
  · exact .nil
end N1
namespace N1
open PySem PySem.Spec PyProof.Rows L2
variable {Z : List Addr}
/-! ### isinstance(x, T), T a built-in type by its name -/
def T.tyn : T → Option String
  | .non => some "NoneType"
  | .bl _ => some "bool"
  | .int _ => some "int"
  | .str _ => some "str"
  | .tup _ => some "tuple"
  | .lst _ => some "list"
  | .lsk _ => some "list"
  | .ty _ => none
def isStr : T → Option Bool
  | .str _ => some true
  | .ty _ => none
  | _ => some false
def isTup : T → Option Bool
  | .tup _ => some true
  | .ty _ => none
  | _ => some false
def isInt : T → Option Bool
  | .int _ => some true
  | .bl _ => some true
  | .ty _ => none
  | _ => some false
def isBool : T → Option Bool
  | .bl _ => some true
  | .ty _ => none
  | _ => some false
def isList : T → Option Bool
  | .lst _ => some true
  | .lsk _ => some true
  | .ty _ => none
  | _ => some false
def IsiOk (n : String) (f : T → Option Bool) : Prop := ∀ t b, f t = some b → ∃ m, t.tyn = some m ∧ kitB m n = some b
theorem isi_str : IsiOk "str" isStr := fun t b h => by
  cases t <;> first | (cases h; done) | (cases h; exact ⟨_, rfl, by decide +kernel⟩)
theorem isi_tup : IsiOk "tuple" isTup := fun t b h => by
  cases t <;> first | (cases h; done) | (cases h; exact ⟨_, rfl, by decide +kernel⟩)
theorem isi_int : IsiOk "int" isInt := fun t b h => by
  cases t <;> first | (cases h; done) | (cases h; exact ⟨_, rfl, by decide +kernel⟩)
theorem isi_bool : IsiOk "bool" isBool := fun t b h => by
  cases t <;> first | (cases h; done) | (cases h; exact ⟨_, rfl, by decide +kernel⟩)
theorem isi_list : IsiOk "list" isList := fun t b h => by
  cases t <;> first | (cases h; done) | (cases h; exact ⟨_, rfl, by decide +kernel⟩)
def bIsi (n : String) (f : T → Option Bool) : List T → (Tok → Prop) → Prop
  | [x, .ty m], k => m = n ∧ ifSome (f x) fun b => k (.v (.bl b))
  | _, _ => False
theorem tyx_of {K : Fg} {M : Ms} {H : Hp} {v : V} {t : T} {m : String} (h : VC K M H v t) (e : t.tyn = some m) : TyX K H v (.type m) := by
  have tupK : ∀ {a vs}, SqT K H a vs → TyX K H (.ref a) (.type "tuple") := fun {a vs} h => by
    rcases h with (h | ⟨o, h⟩) | ⟨o, its, n, h1, h2, _⟩
    · exact .base (.tup h)
    · exact .fTuple h
    · exact .kTuple h1 h2
  rcases h with h | ⟨a, vs, ts, rfl, rfl, h, _⟩
  · cases h with
    | non => cases e; exact .base .non
    | bl b => cases e; exact .base (.bl b)
    | int i => cases e; exact .base (.int i)
    | str x _ => cases e; exact .base (.str x)
    | ty n => cases e
    | tup h _ => cases e; exact tupK h
    | lst h _ => cases e; exact .base (.lst h.1)
    | lsk h _ =>
      cases e
      rcases h with ⟨o, h⟩ | ⟨o, its, n, h1, h2, _⟩
      · exact .base (.frz h)
      · exact .kList h1 h2
  · cases e; exact .base (.lst h)
section
variable {X : Cx}
theorem qe_ty {x : Str} {n : String} {pos : Pos} (hg : Gl X x) (hm : X.mg x = none) (hv : bootBuiltins x = some (.type n)) (hn : x ≠ "__name__" := by decide) (hd : (x == ("__debug__" : Str)) = false := by decide) : QE Z X (.Name x pos) (dC (.ty n)) :=
  qe_const (pe_bltn (v := .ty n) hg hm hv (by rfl) hn hd) fun _ _ => .ty n
theorem cd_isi {n : String} {f : T → Option Bool} (hf : IsiOk n f) : CallD Z X (.builtin "isinstance") (bIsi n f) := by
  intro pins s σ H xs us Q I rx ⟨O, io, α, τ, ρ, ts, k, nw, c, q, fin⟩
  match ts, q with
  | [x, .ty m], q =>
    obtain ⟨v, w, rfl, cx, cw⟩ := c.two
    have q2 : m = n ∧ ifSome (f x) (fun b => k (.v (.bl b))) := q
    clear q
    obtain ⟨en, q3⟩ := q2
    subst en
    obtain ⟨b, eb, q4⟩ := ifSome_ok q3
    obtain ⟨m', e1, e2⟩ := hf x b eb
    have ew : w = .ty m := by
      rcases cw with cw | ⟨_, _, _, _, z, _⟩
      · cases cw; rfl
      · cases z
    subst ew
    exact call_isi pins s σ H _ us Q I rx ⟨v, .ty m, _, _, b, rfl, .ty m, tyx_of cx e1, kit_ty e2, fin _ _ (.val nw (.bl b) q4)⟩
end
end N1
namespace N1
open PySem PySem.Spec PyProof.Rows L2 GenW
open NdefX (clo_cm clo_has)
/-! ### a generator expression that all or any walks -/
/-- only the generators' table and the tokens have changed -/
def Same (s s' : Shared) : Prop := ∃ (g' : Array GenState) (tk : Nat), AllBare g' ∧ s' = { s with gens := g', toks := tk }
theorem Same.inv {X : Cx} {pins : List (Addr × Obj)} {σ : L2.St} {H : Hp} {s s' : Shared} (h : Same s s') (I : Inv X pins σ H s) : Inv X pins σ H s' := by
  obtain ⟨g', tk, hb, rfl⟩ := h
  exact ⟨I.ok, I.os, hb, I.base, I.loc, I.cell, I.free, I.freeC, I.pin, I.hok, I.len⟩
abbrev gcode (elt tg iter : Expr) (scope : Scope) (pos : Pos) (it : Addr) (cenv : Env) : Code := .compLoop (.GeneratorExp elt [⟨tg, iter, [], 0⟩] scope pos) 0 (.ref it) .none cenv
section
variable {Xg : Cx} {σ0 : L2.St} {W : Nat → Hp → Prop} {Dn : Hp → Prop} {J : It} {Val : V → Hp → Prop → Prop}
def gF (Xg : Cx) (σ0 : L2.St) (Dn : Hp → Prop) : Nat → Shared → Shared → Prop := fun _ _ s₁ => ∃ H, Dn H ∧ Inv Xg [] σ0 H s₁
def gR (Xg : Cx) (σ0 : L2.St) (Dn : Hp → Prop) : GenEnd := fun n s₀ r s₁ => ((r = .ok (.ret .none) ∨ r = .ok .next) ∧ gF Xg σ0 Dn n s₀ s₁) ∨ ∃ e, r = .error e ∧ False
def gY (Xg : Cx) (σ0 : L2.St) (Val : V → Hp → Prop → Prop) : Protocol := fun _ _ v s kap => ∃ x H, RelV x v ∧ Inv Xg [] σ0 H s ∧ Val x H (∀ s'', Same s s'' → kap (.send .none) s'')
theorem seg_gl {A : Around} {elt tg iter : Expr} {scope : Scope} {pos : Pos} {it : Addr} {fp : List Addr} {tn : Nat → Heap → Prop} {g : TG} {te : TE} {vs : List Nat} {N : Nat}
    (hA : A.over (gcode elt tg iter scope pos it Xg.env) [] = Xg.A) (hco : Xg.env.scope.isCoroutine = false) (hxe : ∀ e s, ¬ Xg.xe e s) (hc : Xg.calm = true) (T : Turn Xg.prog Xg.w Xg.K tg J fp it tn)
    (hf : ∀ {σ' : L2.St} {H' : Hp} {s' : Shared}, Inv Xg [] σ' H' s' → (∀ b ∈ fp, H' b = none) → ∀ b ∈ fp, FpOk Xg [] H' b) (hg : PG Xg tg g) (he : PE Xg elt te) (mono : ∀ x H (p q : Prop), (p → q) → Val x H p → Val x H q)
    (step : ∀ i H, W i H → (J.stop i H ∧ Dn H) ∨ (i < N ∧ J.go i H ∧ ∀ x H1, J.yld i H x H1 → g x σ0 H1 fun σ2 H2 => L2.wipe σ2 vs = σ0 ∧ te σ2 H2 fun v H3 => Val v H3 (W (i + 1) H3))) :
    ∀ n i (s₀ s : Shared) (H : Hp), N ≤ n + i → W i H → Inv Xg [] σ0 H s → (∀ b ∈ fp, H b = none) → tn i s.heap →
      Seg (model Xg.prog Xg.w) A (gR Xg σ0 Dn) (gY Xg σ0 Val) n s₀ (gcode elt tg iter scope pos it Xg.env) ((model Xg.prog Xg.w).den (gcode elt tg iter scope pos it Xg.env)) [] s := by
  have stop : ∀ n i (s₀ s : Shared) (H : Hp), W i H → Inv Xg [] σ0 H s → (∀ b ∈ fp, H b = none) → tn i s.heap → J.stop i H → Dn H →
      Seg (model Xg.prog Xg.w) A (gR Xg σ0 Dn) (gY Xg σ0 Val) n s₀ (gcode elt tg iter scope pos it Xg.env) ((model Xg.prog Xg.w).den (gcode elt tg iter scope pos it Xg.env)) [] s := by
    intro n i s₀ s H w I hn st hs hdn
    show Seg _ A _ _ _ s₀ _ ((compTurn (.GeneratorExp elt [⟨tg, iter, [], 0⟩] scope pos) 0 (.ref it) .none Xg.env).onRaise (leaving Xg.env)) [] s
    rw [compTurn_gen, Sem.onRaise_eq_wrap]
    refine seg_bind_wrap (wpAny_standAt ?_)
    have td := T.done Xg rfl rfl rfl hc i [] s σ0 H (fun _ _ => False) I (hf I hn) st hs
    rw [← hA] at td
    refine seg_bind_wrap (wpAny_mono td (fun r s1 h => ?_) fun _ _ e => e.elim)
    obtain ⟨rfl, I1⟩ := h
    exact seg_end (.ok .next) (.inl ⟨.inr rfl, H, hdn, I1⟩)
  intro n
  induction n with
  | zero =>
    intro i s₀ s H hN w I hn st
    rcases step i H w with ⟨hs, hdn⟩ | ⟨hi, _⟩
    · exact stop 0 i s₀ s H w I hn st hs hdn
    · omega
  | succ n ih =>
    intro i s₀ s H hN w I hn st
    rcases step i H w with ⟨hs, hdn⟩ | ⟨hi, go, st1⟩
    · exact stop (n + 1) i s₀ s H w I hn st hs hdn
    show Seg _ A _ _ _ s₀ _ ((compTurn (.GeneratorExp elt [⟨tg, iter, [], 0⟩] scope pos) 0 (.ref it) .none Xg.env).onRaise (leaving Xg.env)) [] s
    rw [compTurn_gen, Sem.onRaise_eq_wrap]
    refine seg_bind_wrap (wpAny_standAt ?_)
    have ti := T.item Xg rfl rfl rfl hc i [] s σ0 H (fun _ _ => False) I (hf I hn) st go
    rw [← hA] at ti
    refine seg_bind_wrap (wpAny_mono ti (fun r s1 h => ?_) fun _ _ e => e.elim)
    obtain ⟨u, rfl, h6⟩ := h
    refine seg_bind_wrap (wpAny_mono h6 (fun _ s2 h7 => ?_) fun _ _ e => e.elim)
    obtain ⟨x, H7, I7, r7, y7, st7, n7⟩ := h7
    have I7' := I7.pinned (hf I7 n7) (T.obj _ _ st7)
    have pg := hg.run _ s2 σ0 H7 x u _ I7' r7 (st1 x H7 y7)
    rw [← hA] at pg
    refine seg_bind_wrap (wpAny_mono pg (fun _ s8 h8 => ?_) fun e s9 z => (hxe e s9 z).elim)
    obtain ⟨σ8, H8, I8, hw8, q8⟩ := h8
    refine seg_bind_wrap (m := forIn [] true _) (wpAny_pure ?_)
    simp only [if_true]
    have hy : ∀ v, yieldOut Xg.env v = yieldValue v := fun v => by simp only [yieldOut, hco, Bool.false_eq_true, if_false]
    simp only [hy]
    rw [Sem.bind_eq_wrap', Sem.bind_eq_wrap', Sem.wrap_wrap, Sem.wrap_wrap]
    have pe := he.run _ s8 σ8 H8 _ I8 q8
    rw [← hA] at pe
    refine seg_wrap (wpAny_mono pe (fun y s10 h10 => ?_) fun e s9 z => (hxe e s9 z).elim)
    obtain ⟨v, H10, I10, r10, q10⟩ := h10
    have hl : σ0.length = σ8.length := by rw [← hw8, wipe_length]
    have I11 : Inv Xg [] σ0 H10 s10 := (I10.unpinned (pins := [])).weak hl fun j v e => by
      rw [← hw8] at e
      exact (wipe_some e).1
    have pin' : ∀ b ∈ fp, ∀ o, s2.heap.get? b = some o → s10.heap.get? b = some o ∧ H10 b = none := fun b hb o e =>
      let z := I10.pin (b, o) (List.mem_append_right _ (List.mem_append_right _ (mem_pinsAt hb e)))
      ⟨z.1, z.2.1⟩
    refine seg_at (seg_yield rfl rfl rfl ⟨v, H10, r10, I11, mono _ _ _ _ (fun w' s'' hs => ?_) q10⟩)
    have I12 := hs.inv I11
    obtain ⟨g', tk, hb, rfl⟩ := hs
    refine seg_again rfl (ih (i + 1) _ _ H10 (by omega) w' I12 (fun b hb => ?_) (T.keep _ _ _ st7 fun b hb o e => (pin' b hb o e).1))
    obtain ⟨o, e, _⟩ := T.obj _ _ st7 b hb
    exact (pin' b hb o e).2
theorem seg_gs {A : Around} {elt tg iter : Expr} {scope : Scope} {pos : Pos} {it : Addr} {fp : List Addr} {tn : Nat → Heap → Prop} {n : Nat} {s₀ s : Shared} (T : Turn Xg.prog Xg.w Xg.K tg J fp it tn) (st : tn 0 s.heap)
    (loop : Seg (model Xg.prog Xg.w) A (gR Xg σ0 Dn) (gY Xg σ0 Val) n s₀ (gcode elt tg iter scope pos it Xg.env) ((model Xg.prog Xg.w).den (gcode elt tg iter scope pos it Xg.env)) [] s) :
    Seg (model Xg.prog Xg.w) A (gR Xg σ0 Dn) (gY Xg σ0 Val) n s₀ (.compStart (.GeneratorExp elt [⟨tg, iter, [], 0⟩] scope pos) 0 (.ref it) .none Xg.env)
      ((model Xg.prog Xg.w).den (.compStart (.GeneratorExp elt [⟨tg, iter, [], 0⟩] scope pos) 0 (.ref it) .none Xg.env)) [] s := by
  show Seg _ A _ _ _ s₀ _ ((compStart (.GeneratorExp elt [⟨tg, iter, [], 0⟩] scope pos) 0 (.ref it) .none Xg.env).onRaise (leaving Xg.env)) [] s
  unfold compStart
  rw [Sem.onRaise_eq_wrap]
  show Seg _ A _ _ _ s₀ _ ((ask >>= _).wrap _ _ _ _) [] s
  refine seg_bind_wrap (wpAny_askSetting ?_)
  split
  · exact seg_again rfl loop
  · refine seg_bind_wrap (wpAny_rule ?_)
    show Seg _ A _ _ _ s₀ _ ((standAt iter.pos >>= _).wrap _ _ _ _) [] s
    exact seg_bind_wrap (wpAny_standAt (seg_bind_wrap (T.self _ 0 s _ _ st (seg_again rfl loop))))
/-- what stands between two items -/
structure Slp (Xg : Cx) (σ0 : L2.St) (Dn : Hp → Prop) (Val : V → Hp → Prop → Prop) (A : Around) (a : Addr) (g n : Nat) (s : Shared) : Prop where
  go : ∃ gs, s.heap.IsGen a g ∧ s.gens[g]? = some gs ∧ gs.Goes (model Xg.prog Xg.w) A.in1 (gR Xg σ0 Dn) (gY Xg σ0 Val) n (.send .none) (s.setGen g .running)
  lim : s.heap.NoLimit
  bare : AllBare s.gens
theorem slp_next {A : Around} {a : Addr} {g n : Nat} {s : Shared} {E : Value → Shared → Prop} {K : Option Value → Shared → Prop} (hh : A.handled = none) (hroom : A.depth < recursionLimit) (hgen : ∀ {H : Hp} {s' : Shared}, Inv Xg [] σ0 H s' → s'.heap.IsGen a g)
    (mono : ∀ x H (p q : Prop), (p → q) → Val x H p → Val x H q) (h : Slp Xg σ0 Dn Val A a g n s)
    (hv : ∀ x H v s', RelV x v → Inv Xg [] σ0 H s' → Val x H (∃ m, m < n ∧ Slp Xg σ0 Dn Val A a g m s') → K (some v) s') (hd : ∀ H s', Dn H → Inv Xg [] σ0 H s' → K none s') :
    wpAny (model Xg.prog Xg.w) A (pyNext (.ref a)) K E s := by
  obtain ⟨⟨gs, hg, hgs, hgo⟩, hl, hb⟩ := h
  have hlt0 : g + 1 ≤ s.gens.size := by
    rcases Nat.lt_or_ge g s.gens.size with z | z
    · exact z
    · rw [Array.getElem?_eq_none z] at hgs; cases hgs
  refine wpAny_gsz hlt0 ?_
  refine next_genG (F := gF Xg σ0 Dn) (Er := fun _ _ => False) hh hl hroom hg hgs hgo (fun v s₁ gs' hgb hy hsz => ?_) (fun s₁ hF h' hk _ => ?_) (fun _ _ z => z.elim)
  · obtain ⟨x, H, rv, I, vl⟩ := hy
    have same1 : Same s₁ (s₁.setGen g gs') := ⟨_, s₁.toks, allBare_setGen I.bare hgb, rfl⟩
    have I1 := same1.inv I
    refine hv x H v _ rv I1 (mono _ _ _ _ (fun more => ?_) vl)
    have hg1 := hgen I
    have hlt : g < s₁.gens.size := by rw [setGen_size] at hsz; exact hsz
    have hrun : AllBare ((s₁.setGen g gs').setGen g .running).gens := allBare_setGen I1.bare rfl
    have := more ((s₁.setGen g gs').setGen g .running) ⟨_, s₁.toks, hrun, rfl⟩
    cases n with
    | zero => exact this.elim
    | succ m => exact ⟨m, Nat.lt_succ_self m, ⟨gs', hg1, setGen_at hlt, this⟩, I1.nolimit, I1.bare⟩
  · obtain ⟨H, hdn, I⟩ := hF
    have same1 : Same s₁ (s₁.setGen g .finished) := ⟨_, s₁.toks, allBare_setGen I.bare rfl, rfl⟩
    have I1 := same1.inv I
    exact hd H _ hdn (I1.kept (t' := s₁.toks) hk)
theorem all_loop {A : Around} {a : Addr} {g : Nat} {R : Result → Shared → Prop} (hh : A.handled = none) (hroom : A.depth < recursionLimit) (hgen : ∀ {H : Hp} {s' : Shared}, Inv Xg [] σ0 H s' → s'.heap.IsGen a g)
    (Qf : Bool → Hp → Prop) (hval : ∀ x H p, Val x H p → ∃ b, x = .bl b ∧ (b = false → Qf false H) ∧ (b = true → p)) (mono : ∀ x H (p q : Prop), (p → q) → Val x H p → Val x H q)
    (hdone : ∀ H, Dn H → Qf true H) (hR : ∀ b H s', Inv Xg [] σ0 H s' → Qf b H → R (.ok (.ret (.bool b))) s') :
    ∀ n (s : Shared), Slp Xg σ0 Dn Val A.in1 a g n s → codeAny (model Xg.prog Xg.w) A (.builtin "all.loop" ⟨[.ref a], []⟩) R s := by
  intro n
  induction n using Nat.strongRecOn with
  | ind n ih =>
    intro s h
    refine codeAny_builtin F.entry_all_loop ?_
    rw [Around.under_plainId F.plain_all_loop _]
    show wpAny _ A.in1 (pyNext (.ref a) >>= _) _ _ s
    refine wpAny_bind (slp_next hh hroom hgen mono h (fun x H v s' rv I vl => ?_) (fun H s' hdn I => ?_))
    · obtain ⟨b, rfl, h1, h2⟩ := hval _ _ _ vl
      cases (show v = Value.bool b from rv)
      refine wpAny_bind (wpAny_holding (wpAny_truthy_bool ?_))
      refine wpAny_bind (wpAny_letGo ?_)
      cases b with
      | true =>
        simp only [if_true]
        obtain ⟨m, hm, h'⟩ := h2 rfl
        exact wpAny_pure ⟨plainId_quiet F.plain_all_loop _, ih m hm _ h'⟩
      | false =>
        simp only [Bool.false_eq_true, if_false]
        exact wpAny_bind (wpAny_rule (wpAny_pure (hR _ _ _ I (h1 rfl))))
    · exact wpAny_bind (wpAny_rule (wpAny_pure (hR _ _ _ I (hdone H hdn))))
theorem any_loop {A : Around} {a : Addr} {g : Nat} {R : Result → Shared → Prop} (hh : A.handled = none) (hroom : A.depth < recursionLimit) (hgen : ∀ {H : Hp} {s' : Shared}, Inv Xg [] σ0 H s' → s'.heap.IsGen a g)
    (Qf : Bool → Hp → Prop) (hval : ∀ x H p, Val x H p → ∃ b, x = .bl b ∧ (b = true → Qf true H) ∧ (b = false → p)) (mono : ∀ x H (p q : Prop), (p → q) → Val x H p → Val x H q)
    (hdone : ∀ H, Dn H → Qf false H) (hR : ∀ b H s', Inv Xg [] σ0 H s' → Qf b H → R (.ok (.ret (.bool b))) s') :
    ∀ n (s : Shared), Slp Xg σ0 Dn Val A.in1 a g n s → codeAny (model Xg.prog Xg.w) A (.builtin "any.loop" ⟨[.ref a], []⟩) R s := by
  intro n
  induction n using Nat.strongRecOn with
  | ind n ih =>
    intro s h
    refine codeAny_builtin F.entry_any_loop ?_
    rw [Around.under_plainId F.plain_any_loop _]
    show wpAny _ A.in1 (pyNext (.ref a) >>= _) _ _ s
    refine wpAny_bind (slp_next hh hroom hgen mono h (fun x H v s' rv I vl => ?_) (fun H s' hdn I => ?_))
    · obtain ⟨b, rfl, h1, h2⟩ := hval _ _ _ vl
      cases (show v = Value.bool b from rv)
      refine wpAny_bind (wpAny_holding (wpAny_truthy_bool ?_))
      refine wpAny_bind (wpAny_letGo ?_)
      cases b with
      | false =>
        simp only [Bool.false_eq_true, if_false]
        obtain ⟨m, hm, h'⟩ := h2 rfl
        exact wpAny_pure ⟨plainId_quiet F.plain_any_loop _, ih m hm _ h'⟩
      | true =>
        simp only [if_true]
        exact wpAny_bind (wpAny_rule (wpAny_pure (hR _ _ _ I (h1 rfl))))
    · exact wpAny_bind (wpAny_rule (wpAny_pure (hR _ _ _ I (hdone H hdn))))
end
/-! ### the frame -/
/-- the context of the generator's frame -/
abbrev gblk (X : Cx) (A : Around) (s : Shared) (H : Hp) (env : Env) (fp : List Addr) (pn : List (Addr × Obj)) : Cx :=
  { X with A := A, s_0 := s, H_0 := H, env := env, outer := X.stack, stack := env :: X.stack, ex := fp, fn := fun _ => false, calm := true, pn := pn, xe := fun _ _ => False }
section
variable {X : Cx} {pins : List (Addr × Obj)} {σ : L2.St} {H : Hp} {s : Shared}
theorem gen_start {scope : Scope} {own : List (Str × Nat)} {fp : List Addr} {C a bi : Addr} {code : Value} {A : Around} {go : Obj} {s' : Shared} {m : Str → Option Value} (I : Inv X pins σ H s) (ok : BlkOk X.N X.env.scope scope own) (nocell : ∀ y ∈ scope.names, y.2 ≠ .cell) (hN : X.N.Nodup)
    (hfp : ∀ b ∈ fp, FpOk X pins H b ∧ b < s.heap.objs.size) (hd : A.handled = none) (hfr : A.frames = some (genEnv scope (cloFrom X.env.cells scope.names []) C code bi X.env :: X.stack)) (hbi : bi = builtinsNs)
    (hC : s.heap.objs.size ≤ C) (ha : s.heap.objs.size ≤ a) (hac : a ≠ C) (kp : ∀ b o, s.heap.get? b = some o → s'.heap.get? b = some o) (hns : s'.heap.Ns C m) (hga : s'.heap.get? a = some go) (hgd : ∀ v, go.data ≠ .cell v) (hos : s'.os = s.os) (hbare : AllBare s'.gens) :
    Inv (gblk X A s H (genEnv scope (cloFrom X.env.cells scope.names []) C code bi X.env) fp [(a, go)]) [] (wipe σ (own.map (·.2))) H s' := by
  have hfree : ∀ y ∈ scope.names, y.2 = .free → ∃ c, X.env.cells.lookup y.1 = some c := fun y hy e => by
    rcases ok.free y hy e with k | k
    · exact I.ok.has _ (.inl k)
    · exact I.ok.has _ (.inr k)
  have mem : ∀ {y c}, (cloFrom X.env.cells scope.names []).lookup y = some c → X.env.cells.lookup y = some c ∧ c < s.heap.objs.size := fun {y c} e => by
    have e1 := clo_cm hfree e
    obtain ⟨w, z⟩ := I.cell _ _ e1
    exact ⟨e1, z.lt⟩
  have look : ∀ {y}, scope.names.lookup y = some .free → ∃ c, (cloFrom X.env.cells scope.names []).lookup y = some c ∧ X.env.cells.lookup y = some c := fun {y} hl => by
    have hy : (y, NameKind.free) ∈ scope.names := PySem.mem_of_lookup hl
    obtain ⟨c, hc⟩ := hfree _ hy rfl
    exact ⟨c, clo_has hfree hy hc, hc⟩
  have okB : (gblk X A s H (genEnv scope (cloFrom X.env.cells scope.names []) C code bi X.env) fp [(a, go)]).Ok := by
    refine ⟨I.ok.mod, ok.kind, I.ok.glob, hbi, hC, fun y z c e1 e2 => I.ok.inj y z c (mem e1).1 (mem e2).1, fun y hy => ?_, fun y c z e => ?_, fun _ => hd, hfr, .inr ⟨rfl, rfl⟩, fun b hb => ⟨?_, fun y c e z => ?_⟩, I.bs, Nat.le_trans I.ok.bsz I.sz, fun b o e hb => ?_, fun b hb z => ?_, I.stack, I.stkFree⟩
    · have hy : scope.names.lookup y = some .cell ∨ scope.names.lookup y = some .free := hy
      rcases hy with hy | hy
      · exact absurd rfl (nocell _ (PySem.mem_of_lookup hy))
      · obtain ⟨c, h1, _⟩ := look hy
        exact ⟨c, h1⟩
    · have z : false = true := z
      cases z
    · exact fun z => Nat.lt_irrefl _ (Nat.lt_of_lt_of_le (hfp b hb).2 (z ▸ hC))
    · exact (hfp b hb).1.2.2.2.2.1 y c (mem e).1 z
    · rcases (hfp b hb).1.2.2.2.1 with z | z
      · exact I.ok.noex b o e z
      · exact absurd (Nat.lt_of_lt_of_le (Heap.lt_size e) (Nat.le_trans I.ok.bsz z)) (Nat.lt_irrefl _)
    · rcases List.mem_cons.mp (I.stkSub b z) with z | z
      · exact (hfp b hb).1.2.1 z
      · exact (hfp b hb).1.2.2.1 z
  refine ⟨okB, hos, hbare, Un.kept kp, ⟨m, hns, fun i y av e1 e2 e3 => ?_⟩, fun y c e => ?_, I.hok.fresh hC, fun y c e => I.freeC y c (mem e).1, fun p hp => ?_, I.hok.kept kp, by rw [wipe_length]; exact I.len⟩
  · obtain ⟨e2, hne⟩ := wipe_some e2
    have e3 : Vis scope y := e3
    have no : ∀ k, scope.names.lookup y = some k → ¬ (k = .local ∨ k = .cell) := fun k e hh => by
      rcases ok.own _ (PySem.mem_of_lookup e) hh with e' | e'
      · obtain ⟨p, hp, hpy⟩ := List.mem_map.mp e'
        have e3 := ok.ix p hp
        have : p.1 = y := hpy
        rw [this] at e3
        exact hne (List.mem_map.mpr ⟨p, hp, nodup_ix hN e3 e1⟩)
      · exact e' (List.mem_of_getElem? e1)
    have hfr : scope.names.lookup y = some .free := by
      rcases e3 with e3 | e3 | e3
      · exact absurd (.inl rfl) (no _ e3)
      · exact absurd (.inr rfl) (no _ e3)
      · exact e3
    obtain ⟨m, hn, hl⟩ := I.loc
    have hvis : Vis X.env.scope y := (ok.free _ (PySem.mem_of_lookup hfr) rfl).elim (fun k => .inr (.inl k)) (fun k => .inr (.inr k))
    obtain ⟨w, r, q⟩ := hl i y av e1 e2 hvis
    refine ⟨w, r, .inr ⟨.inr hfr, ?_⟩⟩
    obtain ⟨c, h1, h2⟩ := look hfr
    rcases q with ⟨k, _⟩ | ⟨_, c', e', z⟩
    · have k : X.env.scope.names.lookup y = some .local := k
      rcases ok.free _ (PySem.mem_of_lookup hfr) rfl with k' | k' <;> rw [show X.env.scope.names.lookup y = _ from k'] at k <;> cases k
    · rw [h2] at e'; cases e'
      exact ⟨c, h1, z.keeps kp⟩
  · obtain ⟨w, z⟩ := I.cell y c (mem e).1
    exact ⟨w, z.keeps kp⟩
  · have hp : p ∈ [(a, go)] ++ ([] : List (Addr × Obj)) := hp
    have e : p = (a, go) := by simpa using hp
    subst e
    have noStk : a ∉ frs X.stack := fun z => by
      rcases List.mem_cons.mp (I.stkSub a z) with z | z
      · exact absurd I.lt (by rw [← z]; exact Nat.not_lt.mpr ha)
      · exact I.nofs ha z
    exact ⟨hga, I.hok.fresh ha, hac, noStk, hgd⟩
theorem gen_mk {c P : Addr} {elt tg iter : Expr} {scope : Scope} {gpos : Pos} {own : List (Str × Nat)} {wi : TI} {k : Nat} {Q' : Value → Shared → Prop} {R : It → Hp → Prop}
    (hr : Room k X.A) (TB : GxR.TabB X.base X.mg c P) (hcode : X.env.code = .ref c) (ok : BlkOk X.N X.env.scope scope own) (nocell : ∀ y ∈ scope.names, y.2 ≠ .cell) (dot : scope.names.lookup (".0" : Str) = some NameKind.local) (co : scope.isCoroutine = false)
    (hi : PI X tg iter wi) (hs : ∀ x, genFold iter X.env x = pure x) (I : Inv X pins σ H s) (h : wi σ H fun J H1 => GxR.TabG H1 P ∧ R J H1)
    (hQ : ∀ (J : It) (H1 H2 : Hp) (s4 s5 : Shared) (it : Addr) (fp : List Addr) (tn : Nat → Heap → Prop) (C : Addr) (code : Value) (bi a : Addr) (g : Nat) (go : Obj), R J H1 → GxR.Tabbed P H1 H2 → Inv X pins σ H2 s4 → Turn X.prog X.w X.K tg J fp it tn → tn 0 s5.heap →
      (∀ b ∈ fp, FpOk X pins H2 b ∧ b < s4.heap.objs.size) → bi = builtinsNs → s4.heap.objs.size ≤ C → s4.heap.objs.size ≤ a → a ≠ C → (∀ b o, s4.heap.get? b = some o → s5.heap.get? b = some o) → (∃ m, s5.heap.Ns C m) → s5.heap.get? a = some go → (∀ v, go.data ≠ .cell v) →
      s5.os = s4.os → AllBare s5.gens → s5.heap.IsGen a g → s5.gens[g]? = some (.fresh (.compStart (.GeneratorExp elt [⟨tg, iter, [], 0⟩] scope gpos) 0 (.ref it) .none (genEnv scope (cloFrom X.env.cells scope.names []) C code bi X.env))) → Q' (.ref a) s5) :
    wpAny (model X.prog X.w) X.A (eval (.GeneratorExp elt [⟨tg, iter, [], 0⟩] scope gpos) X.env) Q' X.xe s := by
  have hfree : ∀ y ∈ scope.names, y.2 = .free → ∃ c, X.env.cells.lookup y.1 = some c := fun y hy e => by
    rcases ok.free y hy e with k | k
    · exact I.ok.has _ (.inl k)
    · exact I.ok.has _ (.inr k)
  refine wpAny_GeneratorExp_make co (closure_ok hfree) nocell dot ok.kind (by have := hr.dp; omega) ?_ hs
  refine thn (hi.run pins s σ H _ I h) fun xv s1 h1 => ?_
  refine thn h1 fun itv s2 h2 => ?_
  obtain ⟨it, fp, tn, J, H1, rfl, I1, T, st, hf, ⟨ps, hP, ht⟩, hR⟩ := h2
  have hPs : s2.heap.get? P = some { cls := .none, data := .fields ps } := I1.hok P _ hP
  have sz : ∀ b ∈ fp, b < s2.heap.objs.size := fun b hb => by
    obtain ⟨o, e, _⟩ := T.obj _ _ st b hb
    exact Heap.lt_size e
  have fpP : ∀ b ∈ fp, b ≠ P := fun b hb z => by
    have := (hf b hb).1
    rw [z, hP] at this
    cases this
  refine ⟨I1.nolimit, ?_⟩
  have cd : PySem.W.CodeHd s2.heap c P := TB.code.keeps fun b u e => I1.bk b u e
  have cont : ∀ (code : Value) (h3 : Heap) (tk : Nat) (more : Array Value), Heap.ExtBut P s2.heap h3 → s2.heap.objs.size ≤ h3.objs.size → h3.get? P = some { cls := .none, data := .fields (ps ++ more) } → TriplesOk (ps ++ more).toList →
      wpAny (model X.prog X.w) X.A (builtinsFor X.env.globals X.env.builtins) (fun bi s₄ => ∀ h', h'.Ns s₄.heap.objs.size (fun y => if y = ".0" then some (.ref it) else none) → Heap.SameBut s₄.heap.objs.size (s₄.heap.push { cls := .type "frame", data := .dict #[] }) h' →
          Q' (.ref h'.objs.size) { s₄ with
            gens := s₄.gens.push (.fresh (.compStart (.GeneratorExp elt [⟨tg, iter, [], 0⟩] scope gpos) 0 (.ref it) .none (genEnv scope (cloFrom X.env.cells scope.names []) s₄.heap.objs.size code bi X.env))),
            toks := s₄.toks + 1 + 1 + 1,
            heap := h'.push { cls := .type "generator", data := .fields #[.int s₄.gens.size 0, .str "<genexpr>" (s₄.toks + 1), .str (X.env.qual ++ "<genexpr>") (s₄.toks + 1 + 1)] } }) X.xe { s2 with heap := h3, toks := tk } := by
    intro code h3 tk more hx hsz hP3 ht3
    obtain ⟨bm, ob, e1, e2, e3, e4, e5, e6, e7, e8⟩ := TB.bm
    have keep3 : ∀ b u, b ≠ P → s2.heap.get? b = some u → h3.get? b = some u := fun b u hb e => hx b u hb e
    have I3 : Inv X pins σ (upd H1 P (.tbl (ps ++ more))) { s2 with heap := h3, toks := tk } := GxR.inv_tab (more := more) (h' := h3) (g' := s2.gens) (d' := s2.drawn) (t' := tk) I1 hP keep3 hP3 I1.bare
    refine wpAny_builtinsFor (m := X.mg) (by rw [I1.ok.glob]; exact (I1.mod.glob.keeps I1.bk).extBut hx TB.gP) e1 e2 (keep3 _ _ e4 (I1.bk _ _ e5)) e6 e7 e8 ?_
    intro h' hn' hs'
    have hsz' : h'.objs.size = h3.objs.size + 1 := by rw [hs'.1, Heap.size_push]
    have keep' : ∀ b o, h3.get? b = some o → h'.get? b = some o := fun b o e => hs'.extBut b o (Nat.ne_of_lt (Heap.lt_size e)) (Heap.get?_push_of_some _ e)
    have keep5 : ∀ b o, h3.get? b = some o → (h'.push { cls := .type "generator", data := .fields #[.int s2.gens.size 0, .str "<genexpr>" (tk + 1), .str (X.env.qual ++ "<genexpr>") (tk + 1 + 1)] }).get? b = some o := fun b o e => Heap.get?_push_of_some _ (keep' b o e)
    refine hQ J H1 (upd H1 P (.tbl (ps ++ more))) { s2 with heap := h3, toks := tk } _ it fp tn h3.objs.size code builtinsNs h'.objs.size s2.gens.size _ hR ⟨⟨ps ++ more, upd_same, ht3⟩, fun b hb => upd_ne hb⟩ I3 T ?_ ?_ ?_ (Nat.le_refl _) ?_ ?_ keep5 ⟨_, Heap.Ns.keeps hn' fun b o e => Heap.get?_push_of_some _ e⟩ (Heap.get?_push_size _ rfl) (fun v z => (by cases z)) rfl ?_ ?_ ?_
    · exact T.keep _ _ _ st fun b hb o e => keep5 b o (keep3 b o (fpP b hb) e)
    · exact fun b hb => ⟨⟨by rw [upd_ne (fpP b hb)]; exact (hf b hb).1, (hf b hb).2⟩, Nat.lt_of_lt_of_le (sz b hb) hsz⟩
    · rfl
    · show h3.objs.size ≤ h'.objs.size
      omega
    · show h'.objs.size ≠ h3.objs.size
      omega
    · exact I1.bare.push rfl
    · exact ⟨_, _, _, Heap.get?_push_size _ rfl, rfl, rfl, rfl⟩
    · simp
  cases hfm : codeAmong gpos ps.toList with
  | none =>
    refine wpAny_genexprCodeX hcode (cd.code hPs ht) (cd.tab hPs) hfm fun c' h' tk hx hge hlt hco' _ htab' _ => ?_
    obtain ⟨o1, vs, f1, tf, fl, tg, inF, tx, tt, op, _, _, _, _, _, _, _, _, _, htr, _⟩ := hco'
    exact cont _ h' tk _ hx (Nat.le_trans hge (Nat.le_of_lt hlt)) htab'.2 htr
  | some cv =>
    refine wpAny_genexprCode_hit hcode (cd.code hPs ht) hfm ?_
    exact cont cv s2.heap s2.toks #[] (Heap.ExtBut.refl _ _) (Nat.le_refl _) (by simpa using hPs) (by simpa using ht)
theorem over_gcode {A : Around} {elt tg iter : Expr} {scope : Scope} {pos : Pos} {it : Addr} {cenv : Env} {st : List Env} (hf : A.frames = some st) : (A.over (gcode elt tg iter scope pos it cenv) []).frames = some (cenv :: st) := by
  have e : (A.over (gcode elt tg iter scope pos it cenv) []).frames = pushEnvs (gcode elt tg iter scope pos it cenv).envs (pushEnvs [] A.frames) := rfl
  rw [e, hf]
  rfl
theorem room_gcode {A : Around} {elt tg iter : Expr} {scope : Scope} {pos : Pos} {it : Addr} {cenv : Env} {k : Nat} (r : Room (k + 1) A) : Room k (A.in1.in1.over (gcode elt tg iter scope pos it cenv) []) := by
  refine ⟨r.hd, ?_, ?_⟩
  · have := r.dp
    show A.depth + 0 + 1 + 3 * k + 5 < _
    omega
  · have := r.un
    show A.units + 1 + 1 + 0 + 3 + 16 * k + 200 < _
    omega
/-- all, any over a generator expression: stop is what ends the walk ahead of time -/
def tGen (P : Addr) (stop : Bool) (wi : TI) (g : TG) (te : TE) (vs : List Nat) : TE := fun σ H Q => wi σ H fun J H1 => GxR.TabG H1 P ∧ ∀ H2, GxR.Tabbed P H1 H2 → ∃ (W : Nat → Hp → Prop) (N : Nat), W 0 H2 ∧
  ∀ i H, W i H → (J.stop i H ∧ Q (.bl (!stop)) H) ∨ (i < N ∧ J.go i H ∧ ∀ x H1, J.yld i H x H1 → g x (L2.wipe σ vs) H1 fun σ2 H2 => L2.wipe σ2 vs = L2.wipe σ vs ∧ te σ2 H2 fun v H3 => ∃ b, v = .bl b ∧ (b = stop → Q (.bl stop) H3) ∧ (b = !stop → W (i + 1) H3))
theorem gen_core {c P : Addr} {elt tg iter : Expr} {scope : Scope} {gpos : Pos} {own : List (Str × Nat)} {wi : TI} {g : TG} {te : TE} {k : Nat} {stop : Bool} {Q : VK} {Q' : Value → Shared → Prop}
    (hr : Room (k + 1) X.A) (TB : GxR.TabB X.base X.mg c P) (hcode : X.env.code = .ref c) (hN : X.N.Nodup) (ok : BlkOk X.N X.env.scope scope own) (nocell : ∀ y ∈ scope.names, y.2 ≠ .cell) (dot : scope.names.lookup (".0" : Str) = some NameKind.local) (co : scope.isCoroutine = false)
    (hi : PI X tg iter wi) (hs : ∀ x, genFold iter X.env x = pure x)
    (hg : ∀ (A : Around) (s : Shared) (H : Hp) (C : Addr) (code : Value) (bi : Addr) (fp : List Addr) (pn : List (Addr × Obj)), Room k A → PG (gblk X A s H (genEnv scope (cloFrom X.env.cells scope.names []) C code bi X.env) fp pn) tg g)
    (he : ∀ (A : Around) (s : Shared) (H : Hp) (C : Addr) (code : Value) (bi : Addr) (fp : List Addr) (pn : List (Addr × Obj)), Room k A → PE (gblk X A s H (genEnv scope (cloFrom X.env.cells scope.names []) C code bi X.env) fp pn) elt te)
    (I : Inv X pins σ H s) (h : tGen P stop wi g te (own.map (·.2)) σ H Q)
    (hQ : ∀ (Xg : Cx) (a : Addr) (gi n : Nat) (s5 : Shared), Xg.prog = X.prog → Xg.w = X.w → (∀ {H : Hp} {s' : Shared}, Inv Xg [] (L2.wipe σ (own.map (·.2))) H s' → s'.heap.IsGen a gi) → s5.heap.IsGen a gi →
      (∀ H' s', Inv Xg [] (L2.wipe σ (own.map (·.2))) H' s' → Inv X pins σ H' s') →
      Slp Xg (L2.wipe σ (own.map (·.2))) (fun H => Q (.bl (!stop)) H) (fun v H3 p => ∃ b, v = .bl b ∧ (b = stop → Q (.bl stop) H3) ∧ (b = !stop → p)) X.A.in1 a gi n s5 → Q' (.ref a) s5) :
    wpAny (model X.prog X.w) X.A (eval (.GeneratorExp elt [⟨tg, iter, [], 0⟩] scope gpos) X.env) Q' X.xe s := by
  refine gen_mk hr TB hcode ok nocell dot co hi hs I h fun J H1 H2 s4 s5 it fp tn C code bi a gi go hR hT I4 T st hfp hbi hC ha hac kp hns hga hgd hos hbare hgen hgs => ?_
  obtain ⟨m, hns⟩ := hns
  obtain ⟨W, N, w0, hstep⟩ := hR H2 hT
  generalize hce : genEnv scope (cloFrom X.env.cells scope.names []) C code bi X.env = cenv at *
  have hfr : (X.A.in1.in1.over (gcode elt tg iter scope gpos it cenv) []).frames = some (cenv :: X.stack) := over_gcode I.ok.frames
  have rm : Room k (X.A.in1.in1.over (gcode elt tg iter scope gpos it cenv) []) := room_gcode hr
  have Ig : Inv (gblk X (X.A.in1.in1.over (gcode elt tg iter scope gpos it cenv) []) s4 H2 cenv fp [(a, go)]) [] (L2.wipe σ (own.map (·.2))) H2 s5 := by
    subst hce
    exact gen_start I4 ok nocell hN hfp rm.hd hfr hbi hC ha hac kp hns hga hgd hos hbare
  have stat : ∀ {σ' : L2.St} {H' : Hp} {s' : Shared}, Inv (gblk X (X.A.in1.in1.over (gcode elt tg iter scope gpos it cenv) []) s4 H2 cenv fp [(a, go)]) [] σ' H' s' → (∀ b ∈ fp, H' b = none) → ∀ b ∈ fp, FpOk (gblk X (X.A.in1.in1.over (gcode elt tg iter scope gpos it cenv) []) s4 H2 cenv fp [(a, go)]) [] H' b := fun {σ' H' s'} I' hn b hb =>
    ⟨hn b hb, (I'.ok.exf b hb).1, I'.ok.exfs b hb, .inl hb, fun x c e => (I'.ok.exf b hb).2 x c e, fun p hp => by
      have e : p = (a, go) := by simpa using hp
      subst e
      exact fun z => Nat.lt_irrefl _ (Nat.lt_of_lt_of_le (hfp b hb).2 (z ▸ ha))⟩
  have hco : cenv.scope.isCoroutine = false := by subst hce; exact co
  have loop := fun (s₀ : Shared) (s6 : Shared) (hs6 : Same s5 s6) => seg_gl (Xg := gblk X (X.A.in1.in1.over (gcode elt tg iter scope gpos it cenv) []) s4 H2 cenv fp [(a, go)]) (A := X.A.in1.in1) (Dn := fun H => Q (.bl (!stop)) H) (Val := fun v H3 p => ∃ b, v = .bl b ∧ (b = stop → Q (.bl stop) H3) ∧ (b = !stop → p)) (scope := scope) (pos := gpos) (iter := iter)
    rfl hco (fun _ _ z => z) rfl T stat (by subst hce; exact hg _ _ _ _ _ _ _ _ rm) (by subst hce; exact he _ _ _ _ _ _ _ _ rm) (fun x H p q f ⟨b, e, h1, h2⟩ => ⟨b, e, h1, fun z => f (h2 z)⟩) hstep N 0 s₀ s6 H2 (Nat.le_refl _) w0 (hs6.inv Ig) (fun b hb => (hfp b hb).1.1) (by obtain ⟨_, _, _, rfl⟩ := hs6; exact st)
  refine hQ (gblk X (X.A.in1.in1.over (gcode elt tg iter scope gpos it cenv) []) s4 H2 cenv fp [(a, go)]) a gi N s5 rfl rfl (fun {H s'} I' => ?_) hgen (fun H' s' I' => ?_) ⟨⟨_, hgen, hgs, rfl, seg_gs T ?_ (loop _ _ ?_)⟩, Ig.nolimit, hbare⟩
  · have e1 := (I'.pin (a, go) (by simp)).1
    obtain ⟨o, nm, qn, ho, r⟩ := hgen
    rw [hga] at ho
    cases ho
    exact ⟨go, nm, qn, e1, r⟩
  · exact I4.call' (ch := fp) I'.os I'.base I'.hok I'.bare fun b hb => ⟨(hfp b hb).1.2.2.2.1, (hfp b hb).1.2.1, (hfp b hb).1.2.2.2.2.1, (hfp b hb).1.2.2.2.2.2⟩
  · exact st
  · exact ⟨_, s5.toks, allBare_setGen hbare rfl, rfl⟩
theorem pe_allGen {c P : Addr} {elt tg iter : Expr} {scope : Scope} {gpos p pos : Pos} {own : List (Str × Nat)} {wi : TI} {g : TG} {te : TE} {k : Nat}
    (hr : Room (k + 1) X.A) (hgl : Gl X "all") (hm : X.mg "all" = none) (hb : bootBuiltins "all" = some (.builtin "all")) (TB : GxR.TabB X.base X.mg c P) (hcode : X.env.code = .ref c) (hN : X.N.Nodup) (ok : BlkOk X.N X.env.scope scope own) (nocell : ∀ y ∈ scope.names, y.2 ≠ .cell) (dot : scope.names.lookup (".0" : Str) = some NameKind.local) (co : scope.isCoroutine = false)
    (hi : PI X tg iter wi) (hs : ∀ x, genFold iter X.env x = pure x)
    (hg : ∀ (A : Around) (s : Shared) (H : Hp) (C : Addr) (code : Value) (bi : Addr) (fp : List Addr) (pn : List (Addr × Obj)), Room k A → PG (gblk X A s H (genEnv scope (cloFrom X.env.cells scope.names []) C code bi X.env) fp pn) tg g)
    (he : ∀ (A : Around) (s : Shared) (H : Hp) (C : Addr) (code : Value) (bi : Addr) (fp : List Addr) (pn : List (Addr × Obj)), Room k A → PE (gblk X A s H (genEnv scope (cloFrom X.env.cells scope.names []) C code bi X.env) fp pn) elt te)
    (hst : starEach [.GeneratorExp elt [⟨tg, iter, [], 0⟩] scope gpos] X.env = (false, eval (.GeneratorExp elt [⟨tg, iter, [], 0⟩] scope gpos) X.env) :: starEach [] X.env := by rfl) :
    PE X (.Call (.Name "all" p) [.GeneratorExp elt [⟨tg, iter, [], 0⟩] scope gpos] [] pos) (tGen P false wi g te (own.map (·.2))) := by
  refine ⟨fun pins s σ H Q I h => ?_⟩
  refine wpAny_Call_Name_kw (ld_blt I hgl hm hb ?_)
  refine PyProof.Rows.callWith_builtin1 ?_ hst (by rfl)
  rw [hst]
  show wpAny _ _ (spliced ((false, eval (.GeneratorExp elt [⟨tg, iter, [], 0⟩] scope gpos) X.env) :: backTo pos (starEach [] X.env))) _ _ s
  refine Calls.spliced_cons (gen_core hr TB hcode hN ok nocell dot co hi hs hg he I h fun Xg a gi n s5 e1 e2 hgen hg5 back sl => ?_)
  refine Calls.spliced_nil ?_
  refine call_function_tree F.kind_all F.plain_all F.entry_all (F.args_all1 _) ?_
  unfold Builtin.«all»
  refine wpAny_bind (m := oneArg "all" _) (wpAny_pure ?_)
  refine wpAny_bind (wpAny_pyIter_gen hg5 ?_)
  refine wpAny_pure ⟨plainId_quiet F.plain_all_loop _, ?_⟩
  rw [← e1, ← e2]
  refine all_loop hr.hd hr.depth hgen (fun b H' => Q (.bl b) H') (fun x H' q ⟨b, e, h1, h2⟩ => ⟨b, e, fun z => h1 z, fun z => h2 z⟩) (fun x H' q q' f ⟨b, e, h1, h2⟩ => ⟨b, e, h1, fun z => f (h2 z)⟩) (fun H' q => q) (fun b H' s' I' q => ?_) n s5 sl
  exact ⟨.bl b, H', back H' s' I', rfl, q⟩
theorem pe_anyGen {c P : Addr} {elt tg iter : Expr} {scope : Scope} {gpos p pos : Pos} {own : List (Str × Nat)} {wi : TI} {g : TG} {te : TE} {k : Nat}
    (hr : Room (k + 1) X.A) (hgl : Gl X "any") (hm : X.mg "any" = none) (hb : bootBuiltins "any" = some (.builtin "any")) (TB : GxR.TabB X.base X.mg c P) (hcode : X.env.code = .ref c) (hN : X.N.Nodup) (ok : BlkOk X.N X.env.scope scope own) (nocell : ∀ y ∈ scope.names, y.2 ≠ .cell) (dot : scope.names.lookup (".0" : Str) = some NameKind.local) (co : scope.isCoroutine = false)
    (hi : PI X tg iter wi) (hs : ∀ x, genFold iter X.env x = pure x)
    (hg : ∀ (A : Around) (s : Shared) (H : Hp) (C : Addr) (code : Value) (bi : Addr) (fp : List Addr) (pn : List (Addr × Obj)), Room k A → PG (gblk X A s H (genEnv scope (cloFrom X.env.cells scope.names []) C code bi X.env) fp pn) tg g)
    (he : ∀ (A : Around) (s : Shared) (H : Hp) (C : Addr) (code : Value) (bi : Addr) (fp : List Addr) (pn : List (Addr × Obj)), Room k A → PE (gblk X A s H (genEnv scope (cloFrom X.env.cells scope.names []) C code bi X.env) fp pn) elt te)
    (hst : starEach [.GeneratorExp elt [⟨tg, iter, [], 0⟩] scope gpos] X.env = (false, eval (.GeneratorExp elt [⟨tg, iter, [], 0⟩] scope gpos) X.env) :: starEach [] X.env := by rfl) :
    PE X (.Call (.Name "any" p) [.GeneratorExp elt [⟨tg, iter, [], 0⟩] scope gpos] [] pos) (tGen P true wi g te (own.map (·.2))) := by
  refine ⟨fun pins s σ H Q I h => ?_⟩
  refine wpAny_Call_Name_kw (ld_blt I hgl hm hb ?_)
  refine PyProof.Rows.callWith_builtin1 ?_ hst (by rfl)
  rw [hst]
  show wpAny _ _ (spliced ((false, eval (.GeneratorExp elt [⟨tg, iter, [], 0⟩] scope gpos) X.env) :: backTo pos (starEach [] X.env))) _ _ s
  refine Calls.spliced_cons (gen_core hr TB hcode hN ok nocell dot co hi hs hg he I h fun Xg a gi n s5 e1 e2 hgen hg5 back sl => ?_)
  refine Calls.spliced_nil ?_
  refine call_function_tree F.kind_any F.plain_any F.entry_any (F.args_any1 _) ?_
  unfold Builtin.«any»
  refine wpAny_bind (m := oneArg "any" _) (wpAny_pure ?_)
  refine wpAny_bind (wpAny_pyIter_gen hg5 ?_)
  refine wpAny_pure ⟨plainId_quiet F.plain_any_loop _, ?_⟩
  rw [← e1, ← e2]
  refine any_loop hr.hd hr.depth hgen (fun b H' => Q (.bl b) H') (fun x H' q ⟨b, e, h1, h2⟩ => ⟨b, e, fun z => h1 z, fun z => h2 z⟩) (fun x H' q q' f ⟨b, e, h1, h2⟩ => ⟨b, e, h1, fun z => f (h2 z)⟩) (fun H' q => q) (fun b H' s' I' q => ?_) n s5 sl
  exact ⟨.bl b, H', back H' s' I', rfl, q⟩
end
end N1
namespace N1
open PySem PySem.Spec PyProof.Rows L2
variable {Z : List Addr}
/-! ### all, any over a generator expression, by plain values -/
def gaL (vs : List Nat) (stop : Bool) (g : DG) (te : DE) (Q : DK) : List T → DSt → Prop
  | [], τ => Q (.v (.bl (!stop))) τ
  | t :: r, τ => g t τ fun τ2 => te τ2 fun tk τ3 => match tk with
    | .v (.bl b) => Br (b == stop) (Q (.v (.bl stop)) (wipeT τ3 vs)) (gaL vs stop g te Q r (wipeT τ3 vs))
    | _ => False
def dGen (vs : List Nat) (stop : Bool) (d : DI) (g : DG) (te : DE) : DE := fun τ Q => d τ fun ts τ1 => Loop (gaL vs stop g te Q ts (wipeT τ1 vs))
theorem dGen_eq (vs : List Nat) (stop : Bool) (d : DI) (g : DG) (te : DE) : dGen vs stop d g te = fun τ Q => d τ fun ts τ1 => gaL vs stop g te Q ts (wipeT τ1 vs) := by unfold dGen; simp only [Loop.eq]
theorem kp_tab {M : Ms} {O : Ms} {P : Addr} {H H' : Hp} (h : GxR.TabG H P) (t : GxR.Tabbed P H H') (o : ∀ a, O a → ∃ xs, H a = some (.lst xs)) : Kp O M H M H' := by
  obtain ⟨ps, e, _⟩ := h
  have ne : ∀ {b : Addr} {u : HO}, H b = some u → (∀ q, u ≠ .tbl q) → H' b = some u := fun {b u} eb hu => by
    rw [t.2 b (fun z => by rw [z, e] at eb; cases eb; exact hu _ rfl)]
    exact eb
  refine ⟨⟨fun a xs ea => ne ea (fun _ z => by cases z), fun a ob u ea => ne ea (fun _ z => by cases z), fun a xs ea m => ⟨ne ea (fun _ z => by cases z), m⟩, fun P2 h2 => ?_⟩, fun a ha => ?_⟩
  · by_cases z : P2 = P
    · subst z; exact t.1
    · obtain ⟨ps2, e2, t2⟩ := h2
      exact ⟨ps2, by rw [t.2 P2 z]; exact e2, t2⟩
  · obtain ⟨xs, ea⟩ := o a ha
    rw [ne ea (fun _ z => by cases z), ea]
theorem wipe_at (ρ : L2.St) (j : Nat) : ∀ us : List Nat, j ∈ us → (L2.wipe ρ us)[j]? = if j < ρ.length then some none else none := by
  intro us
  induction us with
  | nil => intro h; simp at h
  | cons u us ih2 =>
    intro h
    show ((L2.wipe ρ us).set u none)[j]? = _
    by_cases hu : j = u
    · subst hu
      by_cases hl : j < ρ.length
      · rw [set_at (by rw [wipe_length]; exact hl), if_pos hl]
      · rw [List.getElem?_eq_none (by rw [List.length_set, wipe_length]; omega), if_neg hl]
    · rw [set_off hu, ih2 ((List.mem_cons.mp h).resolve_left hu)]
theorem wipe_wipe (σ : L2.St) (vs : List Nat) : L2.wipe (L2.wipe σ vs) vs = L2.wipe σ vs := by
  refine List.ext_getElem? fun j => ?_
  by_cases hj : j ∈ vs
  · rw [wipe_at _ _ _ hj, wipe_at _ _ _ hj, wipe_length]
  · rw [wipe_off hj]
theorem gen_lift {K : Fg} {P : Addr} {stop : Bool} {vs : List Nat} {d : DI} {g : DG} {te : DE} {σ : L2.St} {H : Hp} {Q : VK} (hP : P ∈ K.tl) (h : liftE K (dGen vs stop d g te) σ H Q) : tGen P stop (liftI K d) (liftG K vs g) (liftE K te) vs σ H Q := by
  rw [dGen_eq] at h
  obtain ⟨O, io, α, τ, R, n, h, fin⟩ := h
  refine ⟨O, io, α, τ, _, n, h, fun J ts α1 τ1 H1 n1 k1 F hz c => ⟨n1.tb P hP, fun H2 hT => ?_⟩⟩
  have kT0 : Kp (Mu O α1 none) (Mu O α1 none) H1 (Mu O α1 none) H2 := kp_tab (n1.tb P hP) hT n1.tr
  have kT : Kp O (Mu O α1 none) H1 (Mu O α1 none) H2 := ⟨kT0.toKp0, fun a ha => kT0.far a (.inl ha)⟩
  have nT : Now K O io none α1 τ1 σ H2 := n1.keep kT0.toKp0 (fun a xs ha e => by rw [kT0.far a ha]; exact e) fun _ z => by cases z
  have hwl : (L2.wipe σ vs).length = σ.length := wipe_length σ vs
  refine ⟨fun i H => i ≤ ts.length ∧ ∃ (α' : List (Option Addr)) (τ' : DSt) (σ' : L2.St), Now K O io none α' τ' σ' H ∧ (σ'.length = σ.length ∧ ∀ j, j ∉ vs → σ'[j]? = σ[j]?) ∧ Kp O (Mu O α1 none) H1 (Mu O α' none) H ∧ gaL vs stop g te R (ts.drop i) (wipeT τ' vs), ts.length,
    ⟨Nat.zero_le _, α1, τ1, σ, nT, ⟨rfl, fun _ _ => rfl⟩, kT, c⟩, fun i H ⟨hi, α2, τ2, σ2, n2, ⟨hl2, he2⟩, k2, c2⟩ => ?_⟩
  by_cases hlt : i < ts.length
  · rw [List.drop_eq_getElem_cons hlt] at c2
    refine .inr ⟨hlt, F.go i _ _ k2.toKp0 hlt, fun x H3 y => ?_⟩
    obtain ⟨nw, mw⟩ := n2.wipe (σ' := L2.wipe σ vs) vs (by rw [hwl, hl2]) fun j hj => by rw [wipe_off hj, he2 j hj]
    obtain ⟨hh, t, et, hv⟩ := F.yld i _ _ k2.toKp0 hlt x H3 y
    rw [List.getElem?_eq_getElem hlt] at et
    cases et
    have step3 : Now K O io none (wipeA α2 vs) (wipeT τ2 vs) (L2.wipe σ vs) H3 ∧ Kp O (Mu O α2 none) H (Mu O (wipeA α2 vs) none) H3 ∧ VT K (Mu O (wipeA α2 vs) none) H3 x ts[i] := by
      rcases hh with rfl | ⟨p, xs, hp, rfl⟩
      · exact ⟨nw, .of_anti mw, (hv fun _ _ z => z).keep (.of_anti mw)⟩
      · have kp := kp_new nw hp (.tup xs) (.inl rfl)
        exact ⟨now_new nw hp _ (.inl rfl), (Kp.of_anti mw).trans kp, (hv fun a xs e => by rw [upd_ne (ne_of_none e hp)]; exact e).keep (.of_anti mw)⟩
    obtain ⟨n3, k3, hv3⟩ := step3
    refine ⟨O, io, _, _, ts[i], _, n3, hv3, c2, fun α4 τ4 σ4 H4 n4 k4 w4 q4 => ⟨w4.trans (wipe_wipe σ vs), ?_⟩⟩
    have hl4 : σ4.length = σ.length := by rw [← wipe_length σ4 vs, w4, wipe_length, wipe_length]
    have he4 : ∀ j, j ∉ vs → σ4[j]? = σ[j]? := fun j hj => by rw [← wipe_off (σ := σ4) hj, w4, wipe_off hj, wipe_off hj]
    refine one n4 q4 fun v tk α6 τ6 H6 n6 k6 r6 c6 => ?_
    cases tk with
    | v t =>
      cases t with
      | bl b =>
        have c6 : Br (b == stop) (R (.v (.bl stop)) (wipeT τ6 vs)) (gaL vs stop g te R (ts.drop (i + 1)) (wipeT τ6 vs)) := c6
        have ev : v = .bl b := by
          rcases r6 with r6
          cases r6
          rfl
        subst ev
        have k26 := k2.trans (k3.trans (k4.trans k6))
        refine ⟨b, rfl, fun e => ?_, fun e => ?_⟩
        · subst e
          obtain ⟨nw6, mw6⟩ := n6.wipe (σ' := σ) vs hl4.symm fun j hj => (he4 j hj).symm
          exact fin (.bl b) (.v (.bl b)) none (wipeA α6 vs) _ H6 nw6 ((k1.trans k26).trans (.of_anti mw6)) ⟨rfl, .bl _⟩ (c6.t (by cases b <;> rfl))
        · exact ⟨hlt, α6, τ6, σ4, n6, ⟨hl4, he4⟩, k26, c6.f (by subst e; cases stop <;> rfl)⟩
      | _ => exact c6.elim
    | _ => exact c6.elim
  · have e : i = ts.length := by omega
    subst e
    rw [List.drop_length] at c2
    obtain ⟨nw, mw⟩ := n2.wipe (σ' := σ) vs hl2.symm fun j hj => (he2 j hj).symm
    exact .inl ⟨F.stop _ _ _ k2.toKp0 (Nat.le_refl _), fin (.bl (!stop)) (.v (.bl (!stop))) none (wipeA α2 vs) _ H nw ((k1.trans k2).trans (.of_anti mw)) ⟨rfl, .bl _⟩ c2⟩
end N1
namespace N1
open PySem PySem.Spec PyProof.Rows L2
variable {Z : List Addr}
section
variable {X : Cx} {c P : Addr} {elt tg iter : Expr} {scope : Scope} {gpos p pos : Pos} {own : List (Str × Nat)} {d : DI} {g : DG} {te : DE} {k : Nat}
theorem qe_allG (hr : Room (k + 1) X.A) (hgl : Gl X "all") (hm : X.mg "all" = none) (hb : bootBuiltins "all" = some (.builtin "all")) (TB : GxR.TabB X.base X.mg c P) (hP : P ∈ Z) (hcode : X.env.code = .ref c) (hN : X.N.Nodup) (hi : QI Z X tg iter d) (ok : BlkOk X.N X.env.scope scope own)
    (nocell : ∀ y ∈ scope.names, y.2 ≠ .cell) (dot : scope.names.lookup (".0" : Str) = some NameKind.local) (co : scope.isCoroutine = false)
    (hg : ∀ (A : Around) (s : Shared) (H : Hp) (C : Addr) (code : Value) (bi : Addr) (fp : List Addr) (pn : List (Addr × Obj)), Room k A → QG Z (gblk X A s H (genEnv scope (cloFrom X.env.cells scope.names []) C code bi X.env) fp pn) (own.map (·.2)) tg g)
    (he : ∀ (A : Around) (s : Shared) (H : Hp) (C : Addr) (code : Value) (bi : Addr) (fp : List Addr) (pn : List (Addr × Obj)), Room k A → QE Z (gblk X A s H (genEnv scope (cloFrom X.env.cells scope.names []) C code bi X.env) fp pn) elt te)
    (hs : ∀ x, genFold iter X.env x = pure x := by intro _; rfl)
    (hst : starEach [.GeneratorExp elt [⟨tg, iter, [], 0⟩] scope gpos] X.env = (false, eval (.GeneratorExp elt [⟨tg, iter, [], 0⟩] scope gpos) X.env) :: starEach [] X.env := by rfl) :
    QE Z X (.Call (.Name "all" p) [.GeneratorExp elt [⟨tg, iter, [], 0⟩] scope gpos] [] pos) (dGen (own.map (·.2)) false d g te) :=
  PEmono (pe_allGen hr hgl hm hb TB hcode hN ok nocell dot co hi hs hg he hst) fun _ _ _ => gen_lift (K := kz Z X) hP
theorem qe_anyG (hr : Room (k + 1) X.A) (hgl : Gl X "any") (hm : X.mg "any" = none) (hb : bootBuiltins "any" = some (.builtin "any")) (TB : GxR.TabB X.base X.mg c P) (hP : P ∈ Z) (hcode : X.env.code = .ref c) (hN : X.N.Nodup) (hi : QI Z X tg iter d) (ok : BlkOk X.N X.env.scope scope own)
    (nocell : ∀ y ∈ scope.names, y.2 ≠ .cell) (dot : scope.names.lookup (".0" : Str) = some NameKind.local) (co : scope.isCoroutine = false)
    (hg : ∀ (A : Around) (s : Shared) (H : Hp) (C : Addr) (code : Value) (bi : Addr) (fp : List Addr) (pn : List (Addr × Obj)), Room k A → QG Z (gblk X A s H (genEnv scope (cloFrom X.env.cells scope.names []) C code bi X.env) fp pn) (own.map (·.2)) tg g)
    (he : ∀ (A : Around) (s : Shared) (H : Hp) (C : Addr) (code : Value) (bi : Addr) (fp : List Addr) (pn : List (Addr × Obj)), Room k A → QE Z (gblk X A s H (genEnv scope (cloFrom X.env.cells scope.names []) C code bi X.env) fp pn) elt te)
    (hs : ∀ x, genFold iter X.env x = pure x := by intro _; rfl)
    (hst : starEach [.GeneratorExp elt [⟨tg, iter, [], 0⟩] scope gpos] X.env = (false, eval (.GeneratorExp elt [⟨tg, iter, [], 0⟩] scope gpos) X.env) :: starEach [] X.env := by rfl) :
    QE Z X (.Call (.Name "any" p) [.GeneratorExp elt [⟨tg, iter, [], 0⟩] scope gpos] [] pos) (dGen (own.map (·.2)) true d g te) :=
  PEmono (pe_anyGen hr hgl hm hb TB hcode hN ok nocell dot co hi hs hg he hst) fun _ _ _ => gen_lift (K := kz Z X) hP
end
end N1
namespace N1
open PySem PySem.Spec PyProof.Rows L2
/-! ### a def by the facts of the head; its code object is known -/
section
variable {P : Program} {w : World} {K : Fg} {mg : Str → Option Value} {base : Heap} {x qual : Str} {params : Arguments} {body : List Stmt} {scope : Scope} {dvs : List V} {kws : List (Str × V)} {f : Addr} {fd : FuncData}
theorem fn_okD {N ps : List Str} {k : Nat} {modes : List Bool} {rd : DS} (F : FunD K x qual params body scope dvs kws f fd) (S : FnScope N ps scope) (hm : modes.length = ps.length)
    (hN : ps.length ≤ N.length) (hb : ∀ (A : Around) (outer : List Env) (s : Shared) (H : Hp) (E : XK), Room k (A.deeper (envOfC qual scope s.heap.objs.size f fd.code)) →
      QSs K.tl (cxOf CX0 P w K mg base N qual scope f fd.code A outer s H E).nox body rd) : FnOk P w K mg base CX0 (k + 1) f fd ps (liftSp K ps.length (dFn N.length modes rd)) := by
  obtain ⟨oc, od, dV, kV, doc, pm, an, cdv, ct, osl, rfl, lk, hcd, _, _⟩ := F.ex
  refine fn_of lk hcd S (fun vs H Q E h => h.1) fun A outer s H vs Q E hr ⟨hl, O, ios, args, R, ha, nd, nO, tr, tb, ⟨hmo, hd⟩, fin⟩ => ⟨_, PSs.nox (hb A outer s H E hr), ?_⟩
  obtain ⟨n, mu⟩ := start_now (N := N) ha nd nO tr tb (by rw [hl]; exact hN)
  have hlen : ios.length ≤ (pioFrom 0 modes).length := by
    obtain ⟨_, _, _, h4⟩ := ha.lens 0
    rw [← h4, hmo]
    exact Nat.le_refl _
  have k0 : ∀ {H1 : Hp} {M : Ms}, Kp O (Mu O (startA N.length args ios) none) H M H1 → Kp O (Me O ios none) H M H1 := fun {H1 M} k => (Kp.of_anti fun a z => (mu a).mp z).trans k
  exact ⟨O, ios, _, _, _, n, hd, fun α' τ' σ' H' n' k e => fn_end n' (k0 k) (tk := .v .non) ⟨rfl, .non⟩ e hlen fin, fun v tk tmp α' τ' σ' H' n' k r e => fn_end n' (k0 k) r e hlen fin, fun _ _ _ _ _ _ h => h, fun _ _ _ _ _ _ h => h⟩
end
section
variable {K : PySem.W.Frag} {x qual : Str} {params : Arguments} {body : List Stmt} {scope : Scope} {f : Addr} {fd : FuncData}
theorem kbindsD {ps ks : List Str} {g : List Value → List Value → List Value} {gV : List V → List V → List V} (F : FunD K x qual params body scope [] [] f fd)
    (h : ∀ (kV doc pm : Value) (an : Option Addr) (cdv ct : Value) (us ws : List Value), (g us ws).length = ps.length → bindArgs (PySem.W.fnOf x qual params body scope .none kV doc pm an cdv ct) ⟨us, ks.zip ws⟩ = pure (ps.zip (g us ws)))
    (r : ∀ {vs : List V} {us : List Value} {zs : List V} {ws : List Value}, Vals vs us → Vals zs ws → Vals (gV vs zs) (g us ws)) : KBinds K fd ps ks g gV := by
  obtain ⟨oc, od, dV, kV, doc, pm, an, cdv, ct, osl, rfl, lk, hcd, hD, hK⟩ := F.ex
  rcases hD with ⟨_, rfl⟩ | ⟨e, _⟩
  · exact ⟨fun s us ws _ hl => .of_eq (h kV doc pm an cdv ct us ws hl), r⟩
  · exact absurd rfl e
/-- a def's code object and its table -/
def CodeAt (Z : List Addr) (base : Heap) (mg : Str → Option Value) (fd : FuncData) : Prop := ∃ c P, fd.code = .ref c ∧ GxR.TabB base mg c P ∧ P ∈ Z
theorem law_okT {K : Fg} {d : DSp} {H : Hp} {a : Addr} {ns : List Int} (tb : ∀ P ∈ K.tl, GxR.TabG H P) (hs : SqL K H a (ns.map V.int)) (h : ∀ sc : T, sc = .lsk (ns.map .int) ∨ sc = .lst (ns.map .int) → d [.v sc] fun tk _ => tk = .v (.bl true)) :
    liftSp K 1 d [.ref a] H (fun v _ => v = .bl true) fun _ _ _ => False := by
  have hints : ∀ (ns : List Int) (M : Ms), VTs K M H (ns.map V.int) (ns.map T.int) := by
    intro ns M
    induction ns with
    | nil => exact .nil
    | cons n ns ih => exact .cons (.int n) ih
  have hk : ∃ sc : T, (sc = .lsk (ns.map .int) ∨ sc = .lst (ns.map .int)) ∧ VT K (Me (fun _ => False) [] none) H (.ref a) sc := by
    rcases hs with (hs | ⟨o, hs⟩) | hs
    · exact ⟨_, .inr rfl, .lst ⟨hs, fun z => by rcases z with z | z | z <;> simp at z⟩ (hints ns _)⟩
    · exact ⟨_, .inl rfl, .lsk (.inl ⟨o, hs⟩) (hints ns _)⟩
    · exact ⟨_, .inl rfl, .lsk (.inr hs) (hints ns _)⟩
  obtain ⟨sc, hsc, hv⟩ := hk
  refine ⟨rfl, fun _ => False, [], _, _, .v hv .nil, List.nodup_nil, fun _ h => by simp at h, fun _ h => h.elim, tb, h sc hsc, fun v tk tmp outs H' _ _ r _ e => ?_⟩
  subst e
  exact VTbl r.2
/-- the code object of a def that the head tells of -/
theorem code_at {K : PySem.W.Frag} {p : Str × Option Str} {dvs : List V} {kws : List (Str × V)} (F : FunD K x qual params body scope dvs kws (He.fAd K p) fd) : fd.code = .ref (He.codeOf K p) := by
  obtain ⟨oc, od, dV, kV, doc, pm, an, cdv, ct, osl, rfl, lk, hcd, _, _⟩ := F.ex
  obtain ⟨c, rfl⟩ := He.codeIn_ref hcd
  rw [He.codeOf_eq lk (c := c) rfl] <;> rfl
theorem tabB_gx {base : Heap} {mg : Str → Option Value} {c P : Addr} (h : LamX.TabB base mg c P) : GxR.TabB base mg c P := ⟨h.code, h.bm, h.gP⟩
end
end N1
namespace N1
open PySem PySem.Spec PyProof.Rows L2
/-! ### the constants of a module -/
def ckT (K : PySem.W.Frag) : Nat → Value → T → Bool
  | 0, _, _ => false
  | n + 1, u, t => match t, u with
    | .non, .none => true
    | .bl b, .bool c => b == c
    | .int i, .int j _ => i == j
    | .str x, .str y _ => x == y && PyData.strOk x
    | .tup ts, .ref a => match K.lookup a with
      | some ⟨.type s, _, .seq its _, _⟩ => s == "tuple" && (decide (its.size ≤ sizeLine) && (its.toList.length == ts.length && (its.toList.zip ts).all fun p => ckT K n p.1 p.2))
      | _ => false
    | .lsk ts, .ref a => match K.lookup a with
      | some ⟨.type s, none, .seq its _, _⟩ => s == "list" && (decide (its.size ≤ sizeLine) && (its.toList.length == ts.length && (its.toList.zip ts).all fun p => ckT K n p.1 p.2))
      | _ => false
    | _, _ => false
theorem ckTs_ok {K : Fg} {f : Value → T → Bool} (h : ∀ u t, f u t = true → ∃ v, RelV v u ∧ ∀ M H, VT K M H v t) : ∀ (us : List Value) (ts : List T), us.length = ts.length → (us.zip ts).all (fun p => f p.1 p.2) = true → ∃ vs, Vals vs us ∧ ∀ M H, VTs K M H vs ts
  | [], [], _, _ => ⟨[], .nil, fun _ _ => .nil⟩
  | [], _ :: _, hl, _ => by cases hl
  | _ :: _, [], hl, _ => by cases hl
  | u :: us, t :: ts, hl, ha => by
    rw [List.zip_cons_cons, List.all_cons, Bool.and_eq_true] at ha
    obtain ⟨v, r, hv⟩ := h u t ha.1
    obtain ⟨vs, rs, hvs⟩ := ckTs_ok h us ts (Nat.succ.inj hl) ha.2
    exact ⟨v :: vs, .cons r rs, fun M H => .cons (hv M H) (hvs M H)⟩
theorem ckT_ok {K : Fg} : ∀ (n : Nat) (u : Value) (t : T), ckT K n u t = true → ∃ v, RelV v u ∧ ∀ M H, VT K M H v t
  | 0, _, _, h => by cases h
  | n + 1, u, t, h => by
    unfold ckT at h
    split at h
    · exact ⟨.non, rfl, fun _ _ => .non⟩
    · next b c => cases eq_of_beq h; exact ⟨.bl b, rfl, fun _ _ => .bl b⟩
    · next i j tk => cases eq_of_beq h; exact ⟨.int i, ⟨tk, rfl⟩, fun _ _ => .int i⟩
    · next x y tk =>
      rw [Bool.and_eq_true] at h
      cases eq_of_beq h.1
      exact ⟨.str x, ⟨tk, rfl⟩, fun _ _ => .str x h.2⟩
    · next ts a =>
      split at h
      · next s d its m sl e =>
        simp only [Bool.and_eq_true, decide_eq_true_eq] at h
        obtain ⟨h1, h2, h3, h4⟩ := h
        cases eq_of_beq h1
        obtain ⟨vs, rs, hvs⟩ := ckTs_ok (K := K) (ckT_ok n) its.toList ts (eq_of_beq h3) h4
        exact ⟨.ref a, rfl, fun M H => .tup (.inr ⟨_, its, m, e, rfl, rfl, h2, rs⟩) (hvs M H)⟩
      · cases h
    · next ts a =>
      split at h
      · next s its m sl e =>
        simp only [Bool.and_eq_true, decide_eq_true_eq] at h
        obtain ⟨h1, h2, h3, h4⟩ := h
        cases eq_of_beq h1
        obtain ⟨vs, rs, hvs⟩ := ckTs_ok (K := K) (ckT_ok n) its.toList ts (eq_of_beq h3) h4
        exact ⟨.ref a, rfl, fun M H => .lsk (.inr ⟨_, its, m, e, rfl, rfl, rfl, h2, rs⟩) (hvs M H)⟩
      · cases h
    · cases h
def ckG (K : PySem.W.Frag) (q : Str × T) : Bool := match PySem.W.nsIn K mainGlobals q.1 with
  | some (some u) => ckT K 12 u q.2
  | _ => false
/-- the global x is the plain value t -/
def GlobT (K : PySem.W.Frag) (mg : Str → Option Value) (x : Str) (t : T) : Prop := ∃ u v, mg x = some u ∧ RelV v u ∧ ∀ M H, VT ⟨K, []⟩ M H v t
theorem glob_of {K : PySem.W.Frag} {h : Heap} {mg : Str → Option Value} {L : List (Str × T)} {x : Str} {t : T} (X : K.In h) (G : h.Ns mainGlobals mg) (c : L.all (ckG K) = true) (m : (x, t) ∈ L) : GlobT K mg x t := by
  have := List.all_eq_true.mp c _ m
  unfold ckG at this
  dsimp only at this
  split at this
  · next u e =>
    obtain ⟨v, r, hv⟩ := ckT_ok (K := ⟨K, []⟩) 12 u t this
    exact ⟨u, v, PySem.W.mg_of X G e, r, hv⟩
  · cases this
mutual
theorem VT.fg {K K' : Fg} {M : Ms} {H : Hp} (e : K.K = K'.K) : ∀ {v : V} {t : T}, VT K M H v t → VT K' M H v t
  | _, _, .non => .non
  | _, _, .bl b => .bl b
  | _, _, .int i => .int i
  | _, _, .str x h => .str x h
  | _, _, .ty n => .ty n
  | _, _, .tup h hs => .tup (e ▸ h) (VTs.fg e hs)
  | _, _, .lst h hs => .lst h (VTs.fg e hs)
  | _, _, .lsk h hs => .lsk (by
      rcases h with h | h
      · exact .inl h
      · exact .inr (by unfold KL at h ⊢; rw [← e]; exact h)) (VTs.fg e hs)
theorem VTs.fg {K K' : Fg} {M : Ms} {H : Hp} (e : K.K = K'.K) : ∀ {vs : List V} {ts : List T}, VTs K M H vs ts → VTs K' M H vs ts
  | _, _, .nil => .nil
  | _, _, .cons h hs => .cons (VT.fg e h) (VTs.fg e hs)
end
theorem qe_globT {Z : List Addr} {X : Cx} {x : Str} {t : T} {pos : Pos} (hg : Gl X x) (h : GlobT X.K X.mg x t) (hd : (x == ("__debug__" : Str)) = false := by decide) : QE Z X (.Name x pos) (dC t) := by
  obtain ⟨u, v, hm, r, hv⟩ := h
  exact qe_const (pe_glob hg hm r hd) fun M H => VT.fg (K := ⟨X.K, []⟩) (K' := kz Z X) rfl (hv M H)
end N1
namespace N1
open PySem (Str sizeLine)
/-! ## plain reasoning: little things -/
theorem Br.yes {c : Bool} {A B : Prop} (h : c = true) (a : A) : Br c A B := ⟨fun _ => a, fun z => (by rw [h] at z; cases z)⟩
theorem Br.no {c : Bool} {A B : Prop} (h : c = false) (b : B) : Br c A B := ⟨fun z => (by rw [h] at z; cases z), fun _ => b⟩
theorem Br.of {c : Prop} [Decidable c] {A B : Prop} (a : c → A) (b : ¬ c → B) : Br (decide c) A B := ⟨fun h => a (of_decide_eq_true h), fun h => b (of_decide_eq_false h)⟩
theorem Br.ofNot {c : Prop} [Decidable c] {A B : Prop} (a : ¬ c → A) (b : c → B) : Br (!decide c) A B := ⟨fun h => a (by simpa using h), fun h => b (by simpa using h)⟩
theorem Br.is {c : Prop} [Decidable c] {A B : Prop} (h : c) (a : A) : Br (decide c) A B := .yes (decide_eq_true h) a
theorem Br.isnt {c : Prop} [Decidable c] {A B : Prop} (h : ¬ c) (b : B) : Br (decide c) A B := .no (decide_eq_false h) b
theorem Br.notis {c : Prop} [Decidable c] {A B : Prop} (h : ¬ c) (a : A) : Br (!decide c) A B := .yes (by rw [decide_eq_false h]; rfl) a
theorem Br.notisnt {c : Prop} [Decidable c] {A B : Prop} (h : c) (b : B) : Br (!decide c) A B := .no (by rw [decide_eq_true h]; rfl) b
theorem atT_nat {β : Type} {ts : List β} {n : Nat} : atT ts (n : Int) = ts[n]? := rfl
theorem atT_map {β γ : Type} (f : β → γ) (ts : List β) (i : Int) : atT (ts.map f) i = (atT ts i).map f := by
  cases i with
  | ofNat n => exact List.getElem?_map
  | negSucc n =>
    show (if n < (ts.map f).length then (ts.map f)[(ts.map f).length - 1 - n]? else none) = Option.map f (if n < ts.length then ts[ts.length - 1 - n]? else none)
    rw [List.length_map]
    split
    · exact List.getElem?_map
    · rfl
theorem atT_in {β : Type} {ts : List β} {i : Int} (h0 : 0 ≤ i) (h1 : i < ts.length) : ∃ v, atT ts i = some v ∧ v ∈ ts := by
  obtain ⟨n, rfl⟩ := Int.eq_ofNat_of_zero_le h0
  have hn : n < ts.length := by omega
  exact ⟨ts[n], List.getElem?_eq_getElem hn, List.getElem_mem hn⟩
theorem atT_get {β : Type} {ts : List β} {n : Nat} (h : n < ts.length) : atT ts (n : Int) = some ts[n] := List.getElem?_eq_getElem h
theorem atT_last {β : Type} (ts : List β) (v : β) : atT (ts ++ [v]) (-1) = some v := by
  show (if 0 < (ts ++ [v]).length then (ts ++ [v])[(ts ++ [v]).length - 1 - 0]? else none) = some v
  rw [if_pos (by simp)]
  simp
theorem ints_len (ns : List Int) : ((ns.map T.int).length : Int) = ns.length := by rw [List.length_map]
theorem intsOf_map : ∀ ns : List Int, intsOf (ns.map .int) = some ns
  | [] => rfl
  | n :: ns => by
    show (intsOf (ns.map .int)).map (n :: ·) = _
    rw [intsOf_map ns]
    rfl
theorem strsOf_map : ∀ ns : List Str, strsOf (ns.map .str) = some ns
  | [] => rfl
  | n :: ns => by
    show (strsOf (ns.map .str)).map (n :: ·) = _
    rw [strsOf_map ns]
    rfl
theorem withInts.of {ns : List Int} {c : List Int → Prop} (h : c ns) : withInts (ns.map .int) c := by
  unfold withInts
  rw [intsOf_map]
  exact h
theorem withStrs.of {ns : List Str} {c : List Str → Prop} (h : c ns) : withStrs (ns.map .str) c := by
  unfold withStrs
  rw [strsOf_map]
  exact h
theorem cmul_l {i j : Int} (h1 : -(2 ^ 64) < i) (h2 : i < 2 ^ 64) : L2.CMul i j := .inl ⟨h1, h2⟩
theorem cmul_r {i j : Int} (h1 : -(2 ^ 64) < j) (h2 : j < 2 ^ 64) : L2.CMul i j := .inr ⟨h1, h2⟩
theorem sizeLine_is : (sizeLine : Nat) = 16777216 := sl_eq
/-! strings -/
theorem T.eq_str (x y : Str) : T.eq (.str x) (.str y) = decide (x = y) := by
  show (x == y) = _
  by_cases h : x = y
  · rw [decide_eq_true h, h]; exact beq_self_eq_true y
  · rw [decide_eq_false h]; exact beq_eq_false_iff_ne.mpr h
theorem T.has_strs (x : Str) (xs : List Str) : T.has (.str x) (xs.map .str) = decide (x ∈ xs) := by
  unfold T.has
  induction xs with
  | nil => simp
  | cons y ys ih =>
    rw [List.map_cons, List.any_cons, ih, T.eq_str]
    by_cases h : y = x
    · simp [h]
    · simp [h, Ne.symm h]
theorem fit_strs (n : Nat) (xs : List Str) : (xs.map T.str).all (T.fit n) = true := by
  induction xs with
  | nil => rfl
  | cons x xs ih =>
    rw [List.map_cons, List.all_cons, ih, Bool.and_true]
    cases n <;> rfl
theorem fit_ints (n : Nat) (xs : List Int) : (xs.map T.int).all (T.fit n) = true := by
  induction xs with
  | nil => rfl
  | cons x xs ih =>
    rw [List.map_cons, List.all_cons, ih, Bool.and_true]
    cases n <;> rfl
end N1
namespace N1
open PySem (Str sizeLine)
/-! ## loops and comprehensions over mapped lists -/
theorem lc_pure {β : Type} {i : Nat} {te : DE} {Q : DK} {τ : DSt} (e f : β → T) (hw : ∀ s, wipeT (setSlot τ i s) [i] = τ) : ∀ (xs : List β) (acc : List T),
    (∀ x ∈ xs, ∀ K : DK, K (.v (f x)) (setSlot τ i (some (.val (e x)))) → te (setSlot τ i (some (.val (e x)))) K) → Q (.fr (acc ++ xs.map f)) τ → lcL [i] (dgName i) dYes te Q (xs.map e) acc τ
  | [], acc, _, h => by
    rw [List.map_nil, List.append_nil] at h
    exact h
  | x :: xs, acc, hx, h => by
    refine .yes rfl (hx x List.mem_cons_self _ ?_)
    show lcL [i] (dgName i) dYes te Q (xs.map e) (acc ++ [f x]) (wipeT (setSlot τ i (some (.val (e x)))) [i])
    rw [hw]
    refine lc_pure e f hw xs _ (fun y hy => hx y (List.mem_cons_of_mem _ hy)) ?_
    rw [List.append_assoc]
    exact h
theorem lc_if {β : Type} {i : Nat} {tt : DT} {te : DE} {Q : DK} {τ : DSt} (e f : β → T) (p : β → Bool) (hw : ∀ s, wipeT (setSlot τ i s) [i] = τ) : ∀ (xs : List β) (acc : List T),
    (∀ x ∈ xs, ∀ K : Bool → DSt → Prop, K (p x) (setSlot τ i (some (.val (e x)))) → tt (setSlot τ i (some (.val (e x)))) K) →
    (∀ x ∈ xs, p x = true → ∀ K : DK, K (.v (f x)) (setSlot τ i (some (.val (e x)))) → te (setSlot τ i (some (.val (e x)))) K) → Q (.fr (acc ++ (xs.filter p).map f)) τ → lcL [i] (dgName i) tt te Q (xs.map e) acc τ
  | [], acc, _, _, h => by
    simp only [List.filter_nil, List.map_nil, List.append_nil] at h
    exact h
  | x :: xs, acc, ht, hx, h => by
    have rest : ∀ acc', Q (.fr (acc' ++ (xs.filter p).map f)) τ → lcL [i] (dgName i) tt te Q (xs.map e) acc' τ := fun acc' q =>
      lc_if e f p hw xs acc' (fun y hy => ht y (List.mem_cons_of_mem _ hy)) (fun y hy => hx y (List.mem_cons_of_mem _ hy)) q
    refine ht x List.mem_cons_self _ ?_
    cases hp : p x with
    | true =>
      refine .yes rfl (hx x List.mem_cons_self hp _ ?_)
      show lcL [i] (dgName i) tt te Q (xs.map e) (acc ++ [f x]) (wipeT (setSlot τ i (some (.val (e x)))) [i])
      rw [hw]
      refine rest _ ?_
      rw [List.filter_cons_of_pos hp, List.map_cons] at h
      rw [List.append_assoc]
      exact h
    | false =>
      refine .no rfl ?_
      show lcL [i] (dgName i) tt te Q (xs.map e) acc (wipeT (setSlot τ i (some (.val (e x)))) [i])
      rw [hw]
      refine rest _ ?_
      rw [List.filter_cons_of_neg (by rw [hp]; decide)] at h
      exact h
/-- a loop by its invariant: I of what is done and of the state -/
theorem for_inv {β : Type} {e : β → T} {g : DG} {tb : DS} {D : DEnds} (I : List β → DSt → Prop) (xs : List β)
    (hs : ∀ pre x post, xs = pre ++ x :: post → ∀ τ, I pre τ → ∀ K : DSt → Prop, (∀ τ', I (pre ++ [x]) τ' → K τ') → g (e x) τ fun τ1 => tb { D with nx := K, ct := K, bk := D.nx } τ1)
    (hd : ∀ τ, I xs τ → D.nx τ) : ∀ τ, I [] τ → forL g tb D (xs.map e) τ := by
  have key : ∀ (post pre : List β), xs = pre ++ post → ∀ τ, I pre τ → forL g tb D (post.map e) τ := by
    intro post
    induction post with
    | nil =>
      intro pre h τ hi
      rw [List.append_nil] at h
      subst h
      exact hd τ hi
    | cons x post ih =>
      intro pre h τ hi
      exact hs pre x post h τ hi _ fun τ' hi' => ih (pre ++ [x]) (by rw [List.append_assoc]; exact h) τ' hi'
  exact fun τ hi => key xs [] rfl τ hi
theorem intsFrom_map : ∀ (n : Nat) (lo : Int), intsFrom lo n = (List.range n).map fun i => .int (lo + (i : Nat))
  | 0, _ => rfl
  | n + 1, lo => by
    rw [intsFrom, intsFrom_map n (lo + 1), List.range_succ_eq_map, List.map_cons, List.map_map]
    congr 1
    · congr 1; omega
    · apply List.map_congr_left
      intro i _
      show T.int (lo + 1 + (i : Int)) = T.int (lo + ((i + 1 : Nat) : Int))
      congr 1
      omega
/-- over a range: I of the turn and of the state -/
theorem range_inv {g : DG} {tb : DS} {D : DEnds} (I : Nat → DSt → Prop) (n : Nat) (lo : Int)
    (hs : ∀ i, i < n → ∀ τ, I i τ → ∀ K : DSt → Prop, (∀ τ', I (i + 1) τ' → K τ') → g (.int (lo + (i : Nat))) τ fun τ1 => tb { D with nx := K, ct := K, bk := D.nx } τ1)
    (hd : ∀ τ, I n τ → D.nx τ) (τ : DSt) (h0 : I 0 τ) : forL g tb D (intsFrom lo n) τ := by
  have key : ∀ (m i : Nat), i + m = n → ∀ τ, I i τ → forL g tb D (intsFrom (lo + (i : Nat)) m) τ := by
    intro m
    induction m with
    | zero =>
      intro i h τ hi
      rw [Nat.add_zero] at h
      subst h
      exact hd τ hi
    | succ m ih =>
      intro i h τ hi
      refine hs i (by omega) τ hi _ fun τ' hi' => ?_
      have e : lo + (i : Int) + 1 = lo + ((i + 1 : Nat) : Int) := by omega
      show forL g tb D (intsFrom (lo + (i : Int) + 1) m) τ'
      rw [e]
      exact ih (i + 1) (by omega) τ' hi'
  have e : lo = lo + ((0 : Nat) : Int) := by omega
  rw [e]
  exact key n 0 (by omega) τ h0

/-! ## texts in order -/
def ltS (x y : Str) : Bool := PySem.Spec.ltCps x.cps.toList y.cps.toList
theorem ltCps_irr : ∀ a : List Nat, PySem.Spec.ltCps a a = false
  | [] => rfl
  | x :: r => by simp [PySem.Spec.ltCps, ltCps_irr r]
theorem ltCps_tr : ∀ a b c : List Nat, PySem.Spec.ltCps a b = true → PySem.Spec.ltCps b c = true → PySem.Spec.ltCps a c = true
  | [], [], _, h, _ => by simp [PySem.Spec.ltCps] at h
  | [], _ :: _, [], _, h => by simp [PySem.Spec.ltCps] at h
  | [], _ :: _, _ :: _, _, _ => rfl
  | _ :: _, [], _, h, _ => by simp [PySem.Spec.ltCps] at h
  | _ :: _, _ :: _, [], _, h => by simp [PySem.Spec.ltCps] at h
  | x :: a, y :: b, z :: c, h1, h2 => by
    simp only [PySem.Spec.ltCps, Bool.or_eq_true, Bool.and_eq_true, decide_eq_true_eq, beq_iff_eq] at h1 h2 ⊢
    rcases h1 with h1 | ⟨rfl, h1⟩ <;> rcases h2 with h2 | ⟨rfl, h2⟩
    · exact .inl (by omega)
    · exact .inl h1
    · exact .inl h2
    · exact .inr ⟨rfl, ltCps_tr a b c h1 h2⟩
theorem ltCps_tri : ∀ a b : List Nat, PySem.Spec.ltCps a b = false → PySem.Spec.ltCps b a = false → a = b
  | [], [], _, _ => rfl
  | [], _ :: _, h, _ => by simp [PySem.Spec.ltCps] at h
  | _ :: _, [], _, h => by simp [PySem.Spec.ltCps] at h
  | x :: a, y :: b, h1, h2 => by
    simp only [PySem.Spec.ltCps, Bool.or_eq_false_iff, Bool.and_eq_false_iff, decide_eq_false_iff_not, beq_eq_false_iff_ne] at h1 h2
    obtain ⟨p1, q1⟩ := h1
    obtain ⟨p2, q2⟩ := h2
    have e : x = y := by omega
    subst e
    rw [ltCps_tri a b (q1.resolve_left fun z => z rfl) (q2.resolve_left fun z => z rfl)]
theorem Str_ext {x y : Str} (h : x.cps.toList = y.cps.toList) : x = y := by
  cases x; cases y
  congr
  exact Array.toList_inj.mp h
theorem ltS_irr (x : Str) : ltS x x = false := ltCps_irr _
theorem ltS_tr {x y z : Str} (h : ltS x y = true) (g : ltS y z = true) : ltS x z = true := ltCps_tr _ _ _ h g
theorem ltS_tri {x y : Str} (h : ltS x y = false) (g : ltS y x = false) : x = y := Str_ext (ltCps_tri _ _ h g)
/-- ascending, without doubles -/
def Asc (xs : List Str) : Prop := xs.Pairwise fun x y => ltS x y = true
theorem Asc.nodup {xs : List Str} (h : Asc xs) : xs.Nodup := h.imp fun {x y} z e => by
  subst e
  rw [ltS_irr] at z
  cases z
theorem Asc.ext : ∀ {xs ys : List Str}, Asc xs → Asc ys → (∀ x, x ∈ xs ↔ x ∈ ys) → xs = ys
  | [], [], _, _, _ => rfl
  | [], y :: ys, _, _, h => absurd ((h y).mpr List.mem_cons_self) (by simp)
  | x :: xs, [], _, _, h => absurd ((h x).mp List.mem_cons_self) (by simp)
  | x :: xs, y :: ys, h1, h2, h => by
    obtain ⟨a1, b1⟩ := List.pairwise_cons.mp h1
    obtain ⟨a2, b2⟩ := List.pairwise_cons.mp h2
    have e : x = y := by
      rcases List.mem_cons.mp ((h x).mp List.mem_cons_self) with e | m1
      · exact e
      · rcases List.mem_cons.mp ((h y).mpr List.mem_cons_self) with e | m2
        · exact e.symm
        · have := ltS_tr (a1 y m2) (a2 x m1)
          rw [ltS_irr] at this
          cases this
    subst e
    have nx : x ∉ xs := (List.nodup_cons.mp h1.nodup).1
    have ny : x ∉ ys := (List.nodup_cons.mp h2.nodup).1
    rw [Asc.ext b1 b2 fun z => ⟨fun m => ((List.mem_cons.mp ((h z).mp (List.mem_cons_of_mem _ m))).resolve_left fun e => nx (e ▸ m)), fun m => ((List.mem_cons.mp ((h z).mpr (List.mem_cons_of_mem _ m))).resolve_left fun e => ny (e ▸ m))⟩]
/-- the loop that leaves out what equals the last one -/
def dedup : List Str → List Str → List Str
  | acc, [] => acc
  | acc, x :: xs => if acc.getLast? = some x then dedup acc xs else dedup (acc ++ [x]) xs
theorem risingS_le : ∀ (l : List Str) (p : Str), PyProof.Rows.risingS p l = true → ∀ x ∈ l, ltS x p = false
  | [], _, _, x, h => by simp at h
  | y :: l, p, h, x, hx => by
    unfold PyProof.Rows.risingS at h
    rw [Bool.and_eq_true, Bool.not_eq_true'] at h
    rcases List.mem_cons.mp hx with rfl | hx
    · exact h.1
    · have h2 := risingS_le l y h.2 x hx
      cases q : ltS x p with
      | false => rfl
      | true =>
        cases q2 : ltS p y with
        | true => have := ltS_tr q q2; rw [h2] at this; cases this
        | false =>
          have e := ltS_tri q2 h.1
          subst e
          rw [q] at h2
          cases h2
theorem dedup_asc : ∀ (xs acc : List Str), Asc acc → (∀ p, acc.getLast? = some p → PyProof.Rows.risingS p xs = true) → (acc = [] → PyProof.Rows.sortedS xs = true) → Asc (dedup acc xs) ∧ ∀ x, x ∈ dedup acc xs ↔ x ∈ acc ∨ x ∈ xs
  | [], acc, h, _, _ => ⟨h, fun x => by simp [dedup]⟩
  | x :: xs, acc, h, hl, h0 => by
    have hr : PyProof.Rows.risingS x xs = true := by
      cases e : acc.getLast? with
      | none =>
        have := h0 (List.getLast?_eq_none_iff.mp e)
        exact this
      | some p =>
        have := hl p e
        unfold PyProof.Rows.risingS at this
        rw [Bool.and_eq_true] at this
        exact this.2
    unfold dedup
    split
    · next e =>
      obtain ⟨h1, h2⟩ := dedup_asc xs acc h (fun p hp => by rw [e] at hp; cases hp; exact hr) (fun z => by subst z; cases e)
      refine ⟨h1, fun y => ?_⟩
      rw [h2, List.mem_cons]
      constructor
      · rintro (z | z)
        · exact .inl z
        · exact .inr (.inr z)
      · rintro (z | rfl | z)
        · exact .inl z
        · exact .inl (List.mem_of_getLast? e)
        · exact .inr z
    · next e =>
      have ha : Asc (acc ++ [x]) := by
        refine List.pairwise_append.mpr ⟨h, List.pairwise_singleton _ _, fun a ha b hb => ?_⟩
        have eb := List.mem_singleton.mp hb
        subst eb
        cases e2 : acc.getLast? with
        | none => rw [List.getLast?_eq_none_iff.mp e2] at ha; simp at ha
        | some p =>
          have hp := hl p e2
          unfold PyProof.Rows.risingS at hp
          rw [Bool.and_eq_true, Bool.not_eq_true'] at hp
          have pb : ltS p b = true := by
            cases q : ltS p b with
            | true => rfl
            | false =>
              rw [ltS_tri q hp.1] at e2
              exact absurd e2 e
          by_cases eap : a = p
          · rw [eap]; exact pb
          · obtain ⟨ys, rfl⟩ := List.getLast?_eq_some_iff.mp e2
            rcases List.mem_append.mp ha with z | z
            · exact ltS_tr ((List.pairwise_append.mp h).2.2 a z p (by simp)) pb
            · exact absurd (List.mem_singleton.mp z) eap
      obtain ⟨h1, h2⟩ := dedup_asc xs (acc ++ [x]) ha (fun p hp => by simp at hp; subst hp; exact hr) (fun z => by simp at z)
      refine ⟨h1, fun y => ?_⟩
      rw [h2, List.mem_append, List.mem_singleton, List.mem_cons, or_assoc]
/-- what ascending does -/
def ascOf (ys : List Str) : List Str := dedup [] ys
theorem ascOf_ok {xs ys : List Str} (hp : ys.Perm xs) (hs : PyProof.Rows.sortedS ys = true) : Asc (ascOf ys) ∧ ∀ x, x ∈ ascOf ys ↔ x ∈ xs := by
  obtain ⟨h1, h2⟩ := dedup_asc ys [] List.Pairwise.nil (fun p h => by cases h) fun _ => hs
  refine ⟨h1, fun x => ?_⟩
  rw [ascOf, h2]
  simp only [List.not_mem_nil, false_or]
  exact hp.mem_iff

/-! ## formulas -/
inductive Fm where
  | at (x : Str) | no (m : Fm) | nd (b : Bool) (ms : List Fm)
def kd : Bool → Str
  | true => Str.ofString "all"
  | false => Str.ofString "some"
mutual
def Fm.enc : Fm → T
  | .at x => .tup [.str (Str.ofString "atom"), .str x]
  | .no m => .tup [.str (Str.ofString "not"), Fm.enc m]
  | .nd b ms => .tup [.str (kd b), .tup (Fm.encs ms)]
def Fm.encs : List Fm → List T
  | [] => []
  | m :: ms => Fm.enc m :: Fm.encs ms
end
theorem Fm.encs_eq : ∀ ms : List Fm, Fm.encs ms = ms.map Fm.enc
  | [] => rfl
  | m :: ms => by rw [Fm.encs, Fm.encs_eq ms]; rfl
mutual
/-- levels of a walk -/
def Fm.nest : Fm → Nat
  | .at _ => 0
  | .no m => Fm.nest m + 1
  | .nd _ ms => Fm.nests ms + 1
def Fm.nests : List Fm → Nat
  | [] => 0
  | m :: ms => max (Fm.nest m) (Fm.nests ms)
end
mutual
def Fm.sz : Fm → Nat
  | .at _ => 1
  | .no m => 1 + Fm.sz m
  | .nd _ ms => 1 + Fm.szs ms
def Fm.szs : List Fm → Nat
  | [] => 0
  | m :: ms => Fm.sz m + Fm.szs ms
end
mutual
/-- all its atoms are among the names -/
def Fm.of (names : List Str) : Fm → Prop
  | .at x => x ∈ names
  | .no m => Fm.of names m
  | .nd _ ms => Fm.ofs names ms
def Fm.ofs (names : List Str) : List Fm → Prop
  | [] => True
  | m :: ms => Fm.of names m ∧ Fm.ofs names ms
end
theorem Fm.nest_le {ms : List Fm} {m : Fm} (h : m ∈ ms) : Fm.nest m ≤ Fm.nests ms := by
  induction ms with
  | nil => simp at h
  | cons x ms ih =>
    show _ ≤ max _ _
    rcases List.mem_cons.mp h with rfl | h
    · exact Nat.le_max_left _ _
    · exact Nat.le_trans (ih h) (Nat.le_max_right _ _)
theorem Fm.ofs_mem {names : List Str} {ms : List Fm} {m : Fm} (h : Fm.ofs names ms) (hm : m ∈ ms) : Fm.of names m := by
  induction ms with
  | nil => simp at hm
  | cons x ms ih =>
    rcases List.mem_cons.mp hm with rfl | hm
    · exact h.1
    · exact ih h.2 hm
theorem Fm.ofs_app {names : List Str} {ms ns : List Fm} (h : Fm.ofs names ms) (g : Fm.ofs names ns) : Fm.ofs names (ms ++ ns) := by
  induction ms with
  | nil => exact g
  | cons x ms ih => exact ⟨h.1, ih h.2⟩
theorem Fm.nests_app (ms ns : List Fm) : Fm.nests (ms ++ ns) = max (Fm.nests ms) (Fm.nests ns) := by
  induction ms with
  | nil => show Fm.nests ns = max 0 (Fm.nests ns); omega
  | cons x ms ih => show max _ (Fm.nests (ms ++ ns)) = max (max _ _) _; rw [ih]; omega
theorem Fm.szs_app (ms ns : List Fm) : Fm.szs (ms ++ ns) = Fm.szs ms + Fm.szs ns := by
  induction ms with
  | nil => show Fm.szs ns = 0 + Fm.szs ns; omega
  | cons x ms ih => show _ + Fm.szs (ms ++ ns) = _; rw [ih]; show _ = _ + _ + _; omega
/-- induction over the members too -/
theorem Fm.ind {P : Fm → Prop} (h1 : ∀ x, P (.at x)) (h2 : ∀ m, P m → P (.no m)) (h3 : ∀ b ms, (∀ m ∈ ms, P m) → P (.nd b ms)) : ∀ m, P m := by
  have key : ∀ n m, Fm.sz m ≤ n → P m := by
    intro n
    induction n with
    | zero => intro m h; cases m <;> (unfold Fm.sz at h; omega)
    | succ n ih =>
      intro m h
      cases m with
      | «at» x => exact h1 x
      | no m => exact h2 m (ih m (by unfold Fm.sz at h; omega))
      | nd b ms =>
        refine h3 b ms fun m hm => ih m ?_
        have : Fm.sz m ≤ Fm.szs ms := by
          clear h ih
          induction ms with
          | nil => simp at hm
          | cons x ms ih =>
            show _ ≤ _ + _
            rcases List.mem_cons.mp hm with rfl | hm
            · omega
            · have := ih hm; omega
        unfold Fm.sz at h
        omega
  exact fun m => key _ m (Nat.le_refl _)
theorem k_not_atom : ¬ Str.ofString "not" = Str.ofString "atom" := by decide +kernel
theorem k_kd_atom (b : Bool) : ¬ kd b = Str.ofString "atom" := by cases b <;> decide +kernel
theorem k_kd_not (b : Bool) : ¬ kd b = Str.ofString "not" := by cases b <;> decide +kernel
theorem k_atom_not : ¬ Str.ofString "atom" = Str.ofString "not" := by decide +kernel
theorem k_kd_all (b : Bool) : decide (kd b = Str.ofString "all") = b := by cases b <;> decide +kernel
theorem k_kd_some (b : Bool) : decide (kd b = Str.ofString "some") = !b := by cases b <;> decide +kernel
end N1
namespace N1
open PySem (Str sizeLine)
/-! ### an order of texts and tuples: by code words -/
def lexN : List Nat → List Nat → Bool
  | [], [] => false
  | [], _ :: _ => true
  | _ :: _, [] => false
  | x :: a, y :: b => decide (x < y) || (x == y && lexN a b)
theorem lexN_irr : ∀ a, lexN a a = false
  | [] => rfl
  | x :: a => by simp [lexN, lexN_irr a]
theorem lexN_asym : ∀ a b, lexN a b = true → lexN b a = false
  | [], [], h => by cases h
  | [], _ :: _, _ => rfl
  | _ :: _, [], h => by cases h
  | x :: a, y :: b, h => by
    simp only [lexN, Bool.or_eq_true, Bool.and_eq_true, decide_eq_true_eq, beq_iff_eq] at h
    simp only [lexN, Bool.or_eq_false_iff, Bool.and_eq_false_iff, decide_eq_false_iff_not, beq_eq_false_iff_ne]
    rcases h with h | ⟨rfl, h⟩
    · exact ⟨by omega, .inl (by omega)⟩
    · exact ⟨by omega, .inr (lexN_asym a b h)⟩
theorem lexN_neg : ∀ a b c, lexN a b = false → lexN b c = false → lexN a c = false
  | [], [], _, _, h => h
  | [], _ :: _, _, h, _ => by cases h
  | _ :: _, [], [], _, _ => rfl
  | _ :: _, [], _ :: _, _, h => by cases h
  | _ :: _, _ :: _, [], _, _ => rfl
  | x :: a, y :: b, z :: c, h1, h2 => by
    simp only [lexN, Bool.or_eq_false_iff, Bool.and_eq_false_iff, decide_eq_false_iff_not, beq_eq_false_iff_ne] at h1 h2 ⊢
    obtain ⟨p1, q1⟩ := h1
    obtain ⟨p2, q2⟩ := h2
    refine ⟨by omega, ?_⟩
    by_cases e : x = z
    · subst e
      have e2 : x = y := by omega
      subst e2
      exact .inr (lexN_neg a b c (q1.resolve_left fun z => z rfl) (q2.resolve_left fun z => z rfl))
    · exact .inl e
/-- two words part at some place -/
def Dv (a b : List Nat) : Prop := ∃ p x y a' b', a = p ++ x :: a' ∧ b = p ++ y :: b' ∧ x ≠ y
theorem Dv.cons {a b : List Nat} (c : Nat) (h : Dv a b) : Dv (c :: a) (c :: b) := by
  obtain ⟨p, x, y, a', b', rfl, rfl, n⟩ := h
  exact ⟨c :: p, x, y, a', b', rfl, rfl, n⟩
theorem Dv.pre {a b : List Nat} (p : List Nat) (h : Dv a b) : Dv (p ++ a) (p ++ b) := by
  induction p with
  | nil => exact h
  | cons c p ih => exact ih.cons c
theorem Dv.app {a b : List Nat} (h : Dv a b) (r s : List Nat) : Dv (a ++ r) (b ++ s) ∧ lexN (a ++ r) (b ++ s) = lexN a b := by
  obtain ⟨p, x, y, a', b', rfl, rfl, n⟩ := h
  refine ⟨⟨p, x, y, a' ++ r, b' ++ s, by simp, by simp, n⟩, ?_⟩
  induction p with
  | nil =>
    have e : (x == y) = false := by simpa using n
    simp [lexN, e]
  | cons c p ih => simpa [lexN] using ih
theorem lexN_pre (p a b : List Nat) : lexN (p ++ a) (p ++ b) = lexN a b := by
  induction p with
  | nil => rfl
  | cons c p ih => simpa [lexN] using ih
mutual
/-- the code word of a text or a tuple -/
def T.cw : T → List Nat
  | .str x => 1 :: (x.cps.toList.map (· + 1) ++ [0])
  | .tup ts => 2 :: (T.cws ts ++ [0])
  | _ => [3]
def T.cws : List T → List Nat
  | [] => []
  | t :: ts => T.cw t ++ T.cws ts
end
/-- made of texts and tuples -/
def T.isS : Nat → T → Bool
  | _, .str _ => true
  | n + 1, .tup ts => ts.all (T.isS n)
  | _, _ => false
theorem strs_dv : ∀ a b : List Nat, a ≠ b → Dv (a.map (· + 1) ++ [0]) (b.map (· + 1) ++ [0])
  | [], [], h => absurd rfl h
  | [], y :: b, _ => ⟨[], 0, y + 1, [], b.map (· + 1) ++ [0], rfl, rfl, by omega⟩
  | x :: a, [], _ => ⟨[], x + 1, 0, a.map (· + 1) ++ [0], [], rfl, rfl, by omega⟩
  | x :: a, y :: b, h => by
    by_cases e : x = y
    · subst e
      exact (strs_dv a b fun z => h (by rw [z])).cons (x + 1)
    · exact ⟨[], x + 1, y + 1, _, _, rfl, rfl, by omega⟩
theorem T.cw_pos (t : T) : ∃ c r, T.cw t = (c + 1) :: r := by
  cases t <;> exact ⟨_, _, rfl⟩
theorem T.cws_dv {n : Nat} (f : ∀ a b : T, T.isS n a = true → T.isS n b = true → a ≠ b → Dv (T.cw a) (T.cw b)) : ∀ (ts us : List T), ts.all (T.isS n) = true → us.all (T.isS n) = true → ts ≠ us → Dv (T.cws ts ++ [0]) (T.cws us ++ [0])
  | [], [], _, _, h => absurd rfl h
  | [], u :: us, _, _, _ => by
    obtain ⟨c, r, e⟩ := T.cw_pos u
    exact ⟨[], 0, c + 1, [], r ++ T.cws us ++ [0], rfl, by simp [T.cws, e], by omega⟩
  | t :: ts, [], _, _, _ => by
    obtain ⟨c, r, e⟩ := T.cw_pos t
    exact ⟨[], c + 1, 0, r ++ T.cws ts ++ [0], [], by simp [T.cws, e], rfl, by omega⟩
  | t :: ts, u :: us, ha, hb, h => by
    rw [List.all_cons, Bool.and_eq_true] at ha hb
    show Dv (T.cw t ++ T.cws ts ++ [0]) (T.cw u ++ T.cws us ++ [0])
    rw [List.append_assoc, List.append_assoc]
    by_cases e : t = u
    · subst e
      exact (T.cws_dv f ts us ha.2 hb.2 fun z => h (by rw [z])).pre _
    · exact ((f t u ha.1 hb.1 e).app _ _).1
theorem T.cw_dv : ∀ (n : Nat) (a b : T), T.isS n a = true → T.isS n b = true → a ≠ b → Dv (T.cw a) (T.cw b) := by
  intro n
  induction n with
  | zero =>
    intro a b ha hb h
    cases a <;> first | (cases ha; done) | skip
    cases b <;> first | (cases hb; done) | skip
    exact (strs_dv _ _ fun z => h (by rw [Str_ext z])).cons 1
  | succ n ih =>
    intro a b ha hb h
    cases a <;> first | (cases ha; done) | skip
    · cases b <;> first | (cases hb; done) | skip
      · exact (strs_dv _ _ fun z => h (by rw [Str_ext z])).cons 1
      · exact ⟨[], 1, 2, _, _, rfl, rfl, by decide⟩
    · cases b <;> first | (cases hb; done) | skip
      · exact ⟨[], 2, 1, _, _, rfl, rfl, by decide⟩
      · exact (T.cws_dv ih _ _ ha hb fun z => h (by rw [z])).cons 2
end N1
namespace N1
open PySem PySem.Spec PyProof.Rows L2 PySem.SeqAt
/-! ### python compares them so -/
def T.coks (f : T → T → Bool) : List T → List T → Bool
  | t :: ts, u :: us => if T.eq t u then T.coks f ts us else f t u
  | _, _ => true
/-- the comparison finds a text beside a text where they differ -/
def T.cok : Nat → T → T → Bool
  | _, .str _, .str _ => true
  | n + 1, .tup ts, .tup us => T.coks (T.cok n) ts us
  | _, _, _ => false
theorem T.eqs_S {f : Nat} (h : ∀ a b : T, T.isS f a = true → T.isS f b = true → (T.eq a b = true ↔ a = b)) : ∀ ts us : List T, ts.all (T.isS f) = true → us.all (T.isS f) = true → (T.eqs ts us = true ↔ ts = us)
  | [], [], _, _ => by simp [T.eqs]
  | [], _ :: _, _, _ => by simp [T.eqs]
  | _ :: _, [], _, _ => by simp [T.eqs]
  | t :: ts, u :: us, ha, hb => by
    rw [List.all_cons, Bool.and_eq_true] at ha hb
    rw [T.eqs, Bool.and_eq_true, h t u ha.1 hb.1, T.eqs_S h ts us ha.2 hb.2, List.cons.injEq]
theorem T.eq_S : ∀ (n : Nat) (a b : T), T.isS n a = true → T.isS n b = true → (T.eq a b = true ↔ a = b) := by
  intro n
  induction n with
  | zero =>
    intro a b ha hb
    cases a <;> first | (cases ha; done) | skip
    cases b <;> first | (cases hb; done) | skip
    simp [T.eq]
  | succ n ih =>
    intro a b ha hb
    cases a <;> first | (cases ha; done) | skip
    · cases b <;> first | (cases hb; done) | skip
      · simp [T.eq]
      · simp [T.eq]
    · cases b <;> first | (cases hb; done) | skip
      · simp [T.eq]
      · rename_i ts us
        rw [T.eq, T.eqs_S ih ts us ha hb, T.tup.injEq]
theorem T.isS_fit : ∀ (n : Nat) (a : T), T.isS n a = true → T.fit n a = true := by
  intro n
  induction n with
  | zero => intro a h; cases a <;> first | (cases h; done) | rfl
  | succ n ih =>
    intro a h
    cases a <;> first | (cases h; done) | skip
    · rfl
    · rename_i ts
      show ts.all (T.fit n) = true
      have h : ts.all (T.isS n) = true := h
      rw [List.all_eq_true] at h ⊢
      exact fun x hx => ih x (h x hx)
/-- what the comparison of two rows tells -/
theorem firstLt_words {n : Nat} : ∀ (ts us : List T) (k : Nat) (e r : Nat → Bool) (fin : Bool), ts.all (T.isS n) = true → us.all (T.isS n) = true → T.coks (fun a b => true) ts us = true →
    (∀ j t u, ts[j]? = some t → us[j]? = some u → e (k + j) = T.eq t u ∧ (T.eq t u = false → r (k + j) = lexN (T.cw t) (T.cw u))) → fin = decide (ts.length < us.length) →
    firstLt e r fin ((List.range (min ts.length us.length)).map (k + ·)) = lexN (T.cws ts ++ [0]) (T.cws us ++ [0])
  | [], [], k, e, r, fin, _, _, _, _, hf => by subst hf; rfl
  | [], u :: us, k, e, r, fin, _, _, _, _, hf => by
    subst hf
    obtain ⟨c, w, ec⟩ := T.cw_pos u
    simp [firstLt, T.cws, ec, lexN]
  | t :: ts, [], k, e, r, fin, _, _, _, _, hf => by
    subst hf
    obtain ⟨c, w, ec⟩ := T.cw_pos t
    simp [firstLt, T.cws, ec, lexN]
  | t :: ts, u :: us, k, e, r, fin, ha, hb, hc, hh, hf => by
    rw [List.all_cons, Bool.and_eq_true] at ha hb
    have e1 : (List.range (min (t :: ts).length (u :: us).length)).map (k + ·) = k :: (List.range (min ts.length us.length)).map (k + 1 + ·) := by
      rw [List.length_cons, List.length_cons, Nat.succ_min_succ, List.range_succ_eq_map, List.map_cons, List.map_map]
      congr 1
      refine List.map_congr_left fun i _ => ?_
      show k + (i + 1) = k + 1 + i
      omega
    rw [e1]
    obtain ⟨h1, h2⟩ := hh 0 t u rfl rfl
    show _ = lexN (T.cw t ++ T.cws ts ++ [0]) (T.cw u ++ T.cws us ++ [0])
    rw [List.append_assoc, List.append_assoc]
    cases q : T.eq t u with
    | true =>
      have := (T.eq_S n t u ha.1 hb.1).mp q
      subst this
      rw [firstLt_yes (by rw [show k = k + 0 from rfl, h1, q]), lexN_pre]
      unfold T.coks at hc
      rw [if_pos q] at hc
      exact firstLt_words ts us (k + 1) e r fin ha.2 hb.2 hc (fun j t' u' et eu => by
        have := hh (j + 1) t' u' et eu
        rwa [show k + (j + 1) = k + 1 + j by omega] at this) (by rw [hf]; simp)
    | false =>
      have ne : t ≠ u := fun z => by rw [(T.eq_S n t u ha.1 hb.1).mpr z] at q; cases q
      rw [firstLt_no (by rw [show k = k + 0 from rfl, h1, q]), show k = k + 0 from rfl, h2 q]
      exact ((T.cw_dv n t u ha.1 hb.1 ne).app _ _).2.symm
end N1
namespace N1
open PySem PySem.Spec PyProof.Rows L2 PySem.SeqAt
theorem T.coks_true : ∀ ts us : List T, T.coks (fun _ _ => true) ts us = true
  | [], _ => rfl
  | _ :: _, [] => rfl
  | t :: ts, u :: us => by
    unfold T.coks
    split
    · exact T.coks_true ts us
    · rfl
theorem T.coks_at {f : T → T → Bool} : ∀ {ts us : List T}, T.coks f ts us = true → ∀ (j : Nat) (t u : T), ts[j]? = some t → us[j]? = some u → (∀ i, i < j → ∀ t' u', ts[i]? = some t' → us[i]? = some u' → T.eq t' u' = true) → T.eq t u = false → f t u = true
  | t :: ts, u :: us, h, 0, _, _, et, eu, _, q => by
    cases et
    cases eu
    unfold T.coks at h
    rw [if_neg (by rw [q]; exact Bool.false_ne_true)] at h
    exact h
  | t :: ts, u :: us, h, j + 1, t', u', et, eu, hp, q => by
    unfold T.coks at h
    rw [if_pos (hp 0 (Nat.succ_pos j) t u rfl rfl)] at h
    exact T.coks_at h j t' u' et eu (fun i hi a b ea eb => hp (i + 1) (Nat.succ_lt_succ hi) a b ea eb) q
  | [], _, _, _, _, _, et, _, _, _ => by simp at et
  | _ :: _, [], _, _, _, _, _, eu, _, _ => by simp at eu
end N1
namespace N1
open PySem PySem.Spec PyProof.Rows L2
/-! ### enumerate(tuple) -/
set_option maxHeartbeats 1000000 in
theorem meets_enum1 {v : Value} {o : Obj} {H : Heap → Prop} (B : Begins v o H) :
    Meets (Builtin.«enumerate.__new__» ⟨[.type "enumerate", v], []⟩) (fun _ R s => H s.heap ∧
      R (.ok (.ret (.ref (s.heap.push o).objs.size))) { s with heap := (s.heap.push o).push { cls := .type "enumerate", data := .fields #[.none, .bool false, .ref s.heap.objs.size, rawInt 0, .none, .none] } }) :=
  .of_wp fun prog w A R s h => by
    obtain ⟨hp, g, d, tk, os⟩ := s; obtain ⟨h1, h⟩ := h
    have hsub := sub_enumerate
    have q1 : ∀ {A' : Around} {E : Value → Shared → Prop} {Q : Value → Shared → Prop}, Q (.ref hp.objs.size) ⟨(hp.push o), g, d, tk, os⟩ → wpAny (model prog w) A' (pyIter v) Q E ⟨hp, g, d, tk, os⟩ :=
      fun q => B.iter prog w _ _ ⟨hp, g, d, tk, os⟩ _ h1 q
    wp_walk
    refine wpAny_stack_any fun st => wpAny_pure ?_
    split
    · rename_i c _ _ _ _ _
      cases (c == Value.type "enumerate")
      · wp_walk using q1
        exact ⟨_, rfl, h⟩
      · wp_walk using q1
        exact ⟨_, rfl, h⟩
    · wp_walk using q1
      exact ⟨_, rfl, h⟩
theorem call_enum1 {prog : Program} {w : World} {A : Around} {E : Value → Shared → Prop} {s : Shared} {v : Value} {o : Obj} {H : Heap → Prop} {Q : Value → Shared → Prop} (B : Begins v o H) (h1 : H s.heap)
    (h : ∀ h', IsEnum h' (s.heap.objs.size + 1) s.heap.objs.size 0 .none → h'.get? s.heap.objs.size = some o → h'.objs.size = s.heap.objs.size + 2 →
      (∀ b o, s.heap.get? b = some o → h'.get? b = some o) → Q (.ref (s.heap.objs.size + 1)) { s with heap := h' }) :
    wpAny (model prog w) A (call (.type "enumerate") [v]) Q E s := by
  refine callType_new F.called_enumerate (by decide) (F.typeCall_enumerate_1 _) (F.newCall_enumerate_1 _) (fun obj => F.args_object_init_2 obj _) F.entry_enumerate_new
    (meets_enum1 B) ⟨h1, ?_⟩
  have hz : (s.heap.push o).objs.size = s.heap.objs.size + 1 := Heap.size_push ..
  show _ ∧ _
  rw [hz]
  have he : IsEnum ((s.heap.push o).push { cls := .type "enumerate", data := .fields #[.none, .bool false, .ref s.heap.objs.size, rawInt 0, .none, .none] }) (s.heap.objs.size + 1) s.heap.objs.size 0 .none := by
    have := Heap.get?_push_size (s.heap.push o) (o := { cls := .type "enumerate", data := .fields #[.none, .bool false, .ref s.heap.objs.size, rawInt 0, .none, .none] }) rfl
    rw [hz] at this; exact this
  exact ⟨⟨_, he, rfl⟩, h _ he (Heap.get?_push_of_some _ (Heap.get?_push_size _ B.free)) (by rw [Heap.size_push, hz]) fun b o x => Heap.get?_push_of_some _ (Heap.get?_push_of_some _ x)⟩
def IteT (K : PySem.W.Frag) (a : Addr) (n : Nat) : It :=
  ⟨fun i H => i < n ∧ ∃ (xs : List V) (x : V), SqT K H a xs ∧ xs.length = n ∧ xs[i]? = some x, fun i H v H' => ∃ T x, v = .ref T ∧ H T = none ∧ H' = upd H T (.tup [.int (i : Nat), x]) ∧ ∀ xs, SqT K H a xs → xs[i]? = some x, fun i H => n ≤ i ∧ ∃ xs : List V, SqT K H a xs ∧ xs.length = n⟩
theorem turn_enumT {P : Program} {w : World} {K : PySem.W.Frag} {elts : List Expr} {kk : Nat} {tpos : Pos} (a e it : Addr) (n : Nat) :
    Turn P w K (.Tuple elts kk tpos) (IteT K a n) [e, it] e (fun i h => i ≤ n ∧ (∃ old, IsEnum h e it ((i : Nat) : Int) old) ∧ h.IsTupleIter it a i ∧ e ≠ it ∧ a ≠ it ∧ e ≠ a) where
  mem := by simp
  obj := fun i h st b hb => by
    obtain ⟨_, ⟨old, he⟩, ⟨o, ho, hc, hd⟩, _⟩ := st
    have e' : b = e ∨ b = it := by simpa using hb
    rcases e' with z | z
    · rw [z]; exact ⟨_, he, fun v q => nomatch q⟩
    · rw [z]; exact ⟨o, ho, fun v q => by rw [hd] at q; cases q⟩
  keep := fun i h h' st k => let ⟨hn, ⟨old, he⟩, hi, hne⟩ := st; ⟨hn, ⟨old, k e (by simp) _ he⟩, hi.at fun o q => k it (by simp) o q, hne⟩
  item := by
    intro X hP hw hK hc i pins s σ H E I hf st hg
    subst hP hw hK
    obtain ⟨hin, ⟨old, he⟩, hit, hne, hai, hea⟩ := st
    obtain ⟨hlt, xs, x, hq, hxl, hx⟩ := hg
    obtain ⟨its, rv, p, hz⟩ := I.tuple hq
    obtain ⟨u, hu, ru⟩ := rv.get hx
    have hel : e < s.heap.objs.size := Heap.lt_size he
    have hil : it < s.heap.objs.size := by obtain ⟨_, q, _⟩ := hit; exact Heap.lt_size q
    have D := Draws.tuple (prog := X.prog) (w := X.w) (A := X.A.in1) (I.ok.hd hc) it a hai its.toArray
    have hsz : its.toArray.size = n := by rw [List.size_toArray, ← rv.length, hxl]
    refine wpAny_pyNext_enum_itemD D he ⟨hit, p⟩ (by rw [hsz]; exact hlt) hne (by simp [hne, hea]) fun u2 h' tk hP2 ho hit' hT hsz2 hk => ?_
    have eu : u2 = u := by
      have : its.toArray[i]? = some u := by simpa using hu
      rw [this] at hP2
      exact (Option.some.inj hP2).symm
    subst eu
    refine ⟨_, rfl, wpAny_letOwnedTupleGo_enum (s := { s with heap := h', toks := tk + 1 }) ho fun h'' he' sb => ?_⟩
    have hT2 : h''.get? s.heap.objs.size = some { cls := .type "tuple", data := .seq #[.int i tk, u2] } := (sb.2 _ (Nat.ne_of_gt hel)).trans hT
    have new : ObjOk X.prog X.w (upd H s.heap.objs.size (.tup [.int (i : Nat), x])) h'' s.heap.objs.size (.tup [.int (i : Nat), x]) :=
      ⟨by show 2 ≤ sizeLine; decide, [.int i tk, u2], .cons ⟨_, rfl⟩ (.cons ru .nil), ⟨_, hT2, rfl, _, rfl⟩⟩
    have I1 : Inv X pins σ (upd H s.heap.objs.size (.tup [.int (i : Nat), x])) { s with heap := h'', toks := tk + 1 } :=
      I.turnedNew (ch := [e, it]) (fun b ob hb q => (sb.2 b (fun z => hb (by simp [z]))).trans (hk b ob (fun z => hb (by simp [z])) (fun z => hb (by simp [z])) q)) hf (Nat.le_refl _) new
    refine ⟨.ref s.heap.objs.size, _, I1, rfl, ⟨_, x, rfl, I.hok.fresh (Nat.le_refl _), rfl, fun ys hy => by rw [I.tuple_inj hy hq]; exact hx⟩, ⟨hlt, ⟨u2, ?_⟩, hit'.1.at fun o q => (sb.2 it (Ne.symm hne)).trans q, hne, hai, hea⟩, fun b hb => ?_⟩
    · have e1 : ((i + 1 : Nat) : Int) = (i : Int) + 1 := by omega
      rw [e1]; exact he'
    · have hb' : b < s.heap.objs.size := by
        have e' : b = e ∨ b = it := by simpa using hb
        rcases e' with z | z
        · rw [z]; exact hel
        · rw [z]; exact hil
      rw [upd_ne (Nat.ne_of_lt hb')]
      exact (hf b hb).1
  done := by
    intro X hP hw hK hc i pins s σ H E I hf st hg
    subst hP hw hK
    obtain ⟨hin, ⟨old, he⟩, hit, hne, hai, hea⟩ := st
    obtain ⟨hni, xs, hq, hxl⟩ := hg
    obtain ⟨its, rv, p, hz⟩ := I.tuple hq
    obtain ⟨f0, f1, f2, f3, f4, f5⟩ := hf it (by simp)
    have D := Draws.tuple (prog := X.prog) (w := X.w) (A := X.A.in1) (I.ok.hd hc) it a hai its.toArray
    have hsz : its.toArray.size = i := by rw [List.size_toArray, ← rv.length, hxl]; omega
    exact wpAny_pyNext_enum_endD D he (by rw [hsz]; exact ⟨hit, p⟩) fun h' eb => ⟨rfl, I.turned (t' := s.toks) (fun b o hb q => eb b o hb q) f0 f1 f3 f4 f5⟩
  self := fun A i s Q E st h => let ⟨_, ⟨_, he⟩, _⟩ := st; wpAny_pyIter_enum he h
def iEnumA (K : PySem.W.Frag) (ta : TA) : TI := fun σ H R => ta σ H fun vs H1 => ∃ a xs, vs = [.ref a] ∧ ((SqL K H1 a xs ∧ R (Ite K a) H1) ∨ (SqT K H1 a xs ∧ R (IteT K a xs.length) H1))
theorem pi_enumA {X : Cx} {e : Expr} {ta : TA} {p pos tpos : Pos} {elts : List Expr} {kk : Nat} (hg : Gl X "enumerate") (hm : X.mg "enumerate" = none) (ha : PA X [e] ta) (hs : starEach [e] X.env = [(false, eval e X.env)] := by rfl) :
    PI X (.Tuple elts kk tpos) (.Call (.Name "enumerate" p) [e] [] pos) (iEnumA X.K ta) := by
  refine ⟨fun pins s σ H R I h => ?_⟩
  refine Call_ (ld_blt I hg hm boot_enumerate (PyProof.Rows.callWith_type1 (thn (ha.run pos pins s σ H _ I h) fun us s1 ⟨vs, H1, I1, r1, q1⟩ => ?_) hs rfl))
  obtain ⟨a, xs, ex, q1⟩ := q1
  subst ex
  cases r1 with
  | cons r rr =>
    cases rr
    cases r
    have fp : ∀ b, b ∈ [s1.heap.objs.size + 1, s1.heap.objs.size] → FpOk X pins H1 b := fun b hb => by
      have e' : b = s1.heap.objs.size + 1 ∨ b = s1.heap.objs.size := by simpa using hb
      have hle : s1.heap.objs.size ≤ b := by
        rcases e' with z | z
        · rw [z]; exact Nat.le_add_right _ _
        · rw [z]; exact Nat.le_refl _
      exact I1.fpOk hle (I1.hok.fresh hle)
    rcases q1 with ⟨hq, q⟩ | ⟨hq, q⟩
    · obtain ⟨its, rv, p', hz⟩ := I1.list hq
      refine call_enumerate_list p'.isList fun h' he hit hsz hk => wpAny_pyIter_enum he ?_
      have I2 : Inv X pins σ H1 { s1 with heap := h' } := I1.kept (t' := s1.toks) hk
      exact ⟨s1.heap.objs.size + 1, [s1.heap.objs.size + 1, s1.heap.objs.size], _, _, H1, rfl, I2, turn_enum a (s1.heap.objs.size + 1) s1.heap.objs.size, ⟨⟨.none, he⟩, hit, Nat.succ_ne_self _⟩, fp, q⟩
    · obtain ⟨its, rv, p', hz⟩ := I1.tuple hq
      refine call_enum1 (begins_tuple a its.toArray) p' fun h' he hit hsz hk => wpAny_pyIter_enum he ?_
      have I2 : Inv X pins σ H1 { s1 with heap := h' } := I1.kept (t' := s1.toks) hk
      have hlt : a < s1.heap.objs.size := by obtain ⟨o, ho, _⟩ := p'; exact Heap.lt_size ho
      exact ⟨s1.heap.objs.size + 1, [s1.heap.objs.size + 1, s1.heap.objs.size], _, _, H1, rfl, I2, turn_enumT a (s1.heap.objs.size + 1) s1.heap.objs.size xs.length, ⟨Nat.zero_le _, ⟨.none, he⟩, ⟨_, hit, rfl, rfl⟩, Nat.succ_ne_self _, Nat.ne_of_lt hlt, Nat.ne_of_gt (Nat.lt_succ_of_lt hlt)⟩, fp, q⟩
end N1
namespace N1
open PySem PySem.Spec PyProof.Rows L2
variable {Z : List Addr}
/-! ### the lifted walks -/
def enumT : Nat → List T → List T
  | _, [] => []
  | k, t :: r => .tup [.int (k : Nat), t] :: enumT (k + 1) r
theorem enumT_len (ts : List T) : ∀ k, (enumT k ts).length = ts.length := by
  induction ts with
  | nil => intro k; rfl
  | cons t r ih => intro k; rw [enumT, List.length_cons, ih, List.length_cons]
theorem enumT_get : ∀ (ts : List T) (k i : Nat) (t : T), ts[i]? = some t → (enumT k ts)[i]? = some (.tup [.int ((k + i : Nat) : Int), t])
  | [], _, _, _, h => by simp at h
  | t :: r, k, 0, u, h => by simp at h; subst h; rfl
  | t :: r, k, i + 1, u, h => by
    rw [enumT, List.getElem?_cons_succ, enumT_get r (k + 1) i u (by simpa using h)]
    congr 5
    omega
def zipT (ts us : List T) : List T := List.zipWith (fun a b => .tup [a, b]) ts us
theorem pair_VT {K : Fg} {M : Ms} {H : Hp} {p : Addr} {x y : V} {a b : T} (hp : H p = none) (keep : ∀ a xs, H a = some xs → (upd H p (.tup [x, y])) a = some xs) (hx : VT K M H x a) (hy : VT K M H y b) : VT K M (upd H p (.tup [x, y])) (.ref p) (.tup [a, b]) := by
  have k : Kp0 M H M (upd H p (.tup [x, y])) := ⟨fun a xs e => keep a _ e, fun a ob u e => keep a _ e, fun a xs e m => ⟨keep a _ e, m⟩, tab_new hp⟩
  exact .tup (SqT.of upd_same) (.cons (hx.keep k) (.cons (hy.keep k) .nil))
theorem feed_pairs {K : Fg} {M0 : Ms} {H0 : Hp} {J : It} {n : Nat} {as bs : Nat → Option T} (ts : List T) (hl : ts.length = n) (hg : ∀ i a b, as i = some a → bs i = some b → i < n → ts[i]? = some (.tup [a, b]))
    (go : ∀ i M H, Kp0 M0 H0 M H → i < n → J.go i H) (stop : ∀ i M H, Kp0 M0 H0 M H → n ≤ i → J.stop i H)
    (y : ∀ i M H, Kp0 M0 H0 M H → i < n → ∀ v H', J.yld i H v H' → ∃ p x1 x2 a b, v = .ref p ∧ H p = none ∧ H' = upd H p (.tup [x1, x2]) ∧ as i = some a ∧ bs i = some b ∧ VT K M H x1 a ∧ VT K M H x2 b) : Feed K M0 H0 J ts := by
  refine ⟨fun i M H k hi => go i M H k (by omega), fun i M H k hi v H' h => ?_, fun i M H k hi => stop i M H k (by omega)⟩
  obtain ⟨p, x1, x2, a, b, rfl, hp, rfl, ha, hb, h1, h2⟩ := y i M H k (by omega) v H' h
  exact ⟨.inr ⟨p, _, hp, rfl⟩, _, hg i a b ha hb (by omega), fun keep => pair_VT hp keep h1 h2⟩
theorem feed_enumL {K : Fg} {M0 : Ms} {H0 : Hp} {a : Addr} {vs : List V} {ts : List T} (h : ∀ {M H}, Kp0 M0 H0 M H → SqL K H a vs) (hs : VTs K M0 H0 vs ts) : Feed K M0 H0 (Ite K a) (enumT 0 ts) := by
  refine feed_pairs (n := ts.length) (as := fun i => some (.int (i : Nat))) (bs := fun i => ts[i]?) _ (enumT_len ts 0) (fun i a b ha hb _ => ?_) (fun i M H k hi => ?_) (fun i M H k hi => ⟨vs, h k, by rw [hs.length]; exact hi⟩) fun i M H k hi v H' y => ?_
  · cases ha
    have := enumT_get ts 0 i b hb
    rw [Nat.zero_add] at this
    exact this
  · obtain ⟨v, e, _⟩ := hs.get (List.getElem?_eq_getElem hi)
    exact ⟨vs, v, h k, e⟩
  · obtain ⟨p, x, rfl, hp, rfl, hx⟩ := y
    obtain ⟨t, et, ht⟩ := hs.getV (hx vs (h k))
    exact ⟨p, _, x, _, t, rfl, hp, rfl, rfl, et, .int _, ht.keep k⟩
theorem feed_enumT {K : Fg} {M0 : Ms} {H0 : Hp} {a : Addr} {vs : List V} {ts : List T} (h : ∀ {M H}, Kp0 M0 H0 M H → SqT K H a vs) (hs : VTs K M0 H0 vs ts) : Feed K M0 H0 (IteT K a vs.length) (enumT 0 ts) := by
  have hl := hs.length
  refine feed_pairs (n := ts.length) (as := fun i => some (.int (i : Nat))) (bs := fun i => ts[i]?) _ (enumT_len ts 0) (fun i a b ha hb _ => ?_) (fun i M H k hi => ?_) (fun i M H k hi => ⟨by rw [hl]; exact hi, vs, h k, rfl⟩) fun i M H k hi v H' y => ?_
  · cases ha
    have := enumT_get ts 0 i b hb
    rw [Nat.zero_add] at this
    exact this
  · obtain ⟨v, e, _⟩ := hs.get (List.getElem?_eq_getElem hi)
    exact ⟨by rw [hl]; exact hi, vs, v, h k, rfl, e⟩
  · obtain ⟨p, x, rfl, hp, rfl, hx⟩ := y
    obtain ⟨t, et, ht⟩ := hs.getV (hx vs (h k))
    exact ⟨p, _, x, _, t, rfl, hp, rfl, rfl, et, .int _, ht.keep k⟩
def diEnum (te : DE) : DI := fun τ R => te τ fun tk τ1 => froze τ1 tk fun t τ2 => match t with
  | .tup ts => ts.length ≤ sizeLine ∧ R (enumT 0 ts) τ2
  | .lst ts => ts.length ≤ sizeLine ∧ R (enumT 0 ts) τ2
  | .lsk ts => ts.length ≤ sizeLine ∧ R (enumT 0 ts) τ2
  | _ => False
theorem qi_enum {X : Cx} {e : Expr} {te : DE} {p pos tpos : Pos} {elts : List Expr} {kk : Nat} (hg : Gl X "enumerate") (hm : X.mg "enumerate" = none) (he : QE Z X e te) (hs : starEach [e] X.env = [(false, eval e X.env)] := by rfl) :
    QI Z X (.Tuple elts kk tpos) (.Call (.Name "enumerate" p) [e] [] pos) (diEnum te) :=
  PImono (pi_enumA hg hm (pa_cons he pa_nil hs) hs) fun σ H R ⟨O, io, α, τ, C, n, h, fin⟩ => one n h fun v tk α1 τ1 H1 n1 k1 r1 c => by
    rw [← froze_weak] at c
    obtain ⟨t, α2, τ2, n2, a2, q, c⟩ := froze_ok n1 r1 c
    have k2 := k1.trans (Kp.of_anti (O := O) (H := H1) a2)
    cases q with
    | tup e hs => exact ⟨_, _, rfl, .inr ⟨e, fin _ _ α2 τ2 H1 n2 k2 (feed_enumT (fun k => KpT.seq k e) hs) (by rw [enumT_len]; exact c.1) c.2⟩⟩
    | lst e hs => exact ⟨_, _, rfl, .inl ⟨RdL.seq (K := kz Z X) e, fin _ _ α2 τ2 H1 n2 k2 (feed_enumL (fun k => (e.keep k).seq) hs) (by rw [enumT_len]; exact c.1) c.2⟩⟩
    | lsk e hs => exact ⟨_, _, rfl, .inl ⟨e.seq, fin _ _ α2 τ2 H1 n2 k2 (feed_enumL (fun k => (e.keep k).seq) hs) (by rw [enumT_len]; exact c.1) c.2⟩⟩
    | _ => exact c.elim
/-! reversed -/
theorem feed_rev {K : Fg} {M0 : Ms} {H0 : Hp} {J : It} {vs : List V} {ts : List T} (hs : VTs K M0 H0 vs ts)
    (go : ∀ i M H x, Kp0 M0 H0 M H → i < vs.length → vs[vs.length - 1 - i]? = some x → J.go i H) (y : ∀ i M H v H', Kp0 M0 H0 M H → i < vs.length → J.yld i H v H' → H' = H ∧ vs[vs.length - 1 - i]? = some v)
    (stop : ∀ i M H, Kp0 M0 H0 M H → vs.length ≤ i → J.stop i H) : Feed K M0 H0 J ts.reverse := by
  have hl := hs.length
  refine ⟨fun i M H k hi => ?_, fun i M H k hi v H' h => ?_, fun i M H k hi => stop i M H k (by rw [List.length_reverse] at hi; omega)⟩
  · rw [List.length_reverse] at hi
    obtain ⟨v, e, _⟩ := hs.get (List.getElem?_eq_getElem (show vs.length - 1 - i < ts.length by omega))
    exact go i M H v k (by omega) e
  · rw [List.length_reverse] at hi
    obtain ⟨rfl, e⟩ := y i M H v H' k (by omega) h
    obtain ⟨t, et, ht⟩ := hs.getV e
    refine ⟨.inl rfl, t, ?_, fun _ => ht.keep k⟩
    rw [List.getElem?_reverse hi, ← hl]
    exact et
def diRev (te : DE) : DI := fun τ R => te τ fun tk τ1 => froze τ1 tk fun t τ2 => match t with
  | .tup ts => ts.length ≤ sizeLine ∧ R ts.reverse τ2
  | .lst ts => ts.length ≤ sizeLine ∧ R ts.reverse τ2
  | .lsk ts => ts.length ≤ sizeLine ∧ R ts.reverse τ2
  | _ => False
theorem qi_rev {X : Cx} {tg e : Expr} {te : DE} {p pos : Pos} (hg : Gl X "reversed") (hm : X.mg "reversed" = none) (he : QE Z X e te) (hs : starEach [e] X.env = (false, eval e X.env) :: starEach [] X.env := by rfl) :
    QI Z X tg (.Call (.Name "reversed" p) [e] [] pos) (diRev te) :=
  PImono (RT.pi_revA hg hm he hs) fun σ H R ⟨O, io, α, τ, C, n, h, fin⟩ => one n h fun v tk α1 τ1 H1 n1 k1 r1 c => by
    rw [← froze_weak] at c
    obtain ⟨t, α2, τ2, n2, a2, q, c⟩ := froze_ok n1 r1 c
    have k2 := k1.trans (Kp.of_anti (O := O) (H := H1) a2)
    have fL : ∀ {a : Addr} {vs : List V} {ts : List T}, (∀ {M H}, Kp0 (Mu O α2 none) H1 M H → SqL (kz Z X) H a vs) → VTs (kz Z X) (Mu O α2 none) H1 vs ts → Feed (kz Z X) (Mu O α2 none) H1 (Itv (kz Z X).K a vs.length) ts.reverse := fun h hs =>
      feed_rev hs (fun i M H x k hi e => ⟨hi, _, x, h k, e⟩) (fun i M H v H' k hi y => ⟨y.1, y.2 _ (h k)⟩) fun i M H k hi => hi
    cases q with
    | tup e hs => exact ⟨_, _, rfl, .inr ⟨e, fin _ _ α2 τ2 H1 n2 k2 (feed_rev hs (fun i M H x k hi ex => ⟨hi, _, x, KpT.seq k e, ex⟩) (fun i M H v H' k hi y => ⟨y.1, y.2 _ (KpT.seq k e)⟩) fun i M H k hi => hi) (by rw [List.length_reverse]; exact c.1) c.2⟩⟩
    | lst e hs => exact ⟨_, _, rfl, .inl ⟨RdL.seq (K := kz Z X) e, fin _ _ α2 τ2 H1 n2 k2 (fL (fun k => (e.keep k).seq) hs) (by rw [List.length_reverse]; exact c.1) c.2⟩⟩
    | lsk e hs => exact ⟨_, _, rfl, .inl ⟨e.seq, fin _ _ α2 τ2 H1 n2 k2 (fL (fun k => (e.keep k).seq) hs) (by rw [List.length_reverse]; exact c.1) c.2⟩⟩
    | _ => exact c.elim
end N1
namespace N1
open PySem PySem.Spec PyProof.Rows L2
variable {Z : List Addr}
/-! zip of two tuples, of two lists -/
theorem zipT_get (ts us : List T) (i : Nat) (a b : T) (ha : ts[i]? = some a) (hb : us[i]? = some b) : (zipT ts us)[i]? = some (.tup [a, b]) := by
  unfold zipT
  rw [List.getElem?_zipWith, ha, hb]
theorem zipT_len (ts us : List T) : (zipT ts us).length = min ts.length us.length := List.length_zipWith
theorem feed_zipL {K : Fg} {M0 : Ms} {H0 : Hp} {a b : Addr} {vs ws : List V} {ts us : List T} (h : ∀ {M H}, Kp0 M0 H0 M H → SqL K H a vs) (g : ∀ {M H}, Kp0 M0 H0 M H → SqL K H b ws) (hs : VTs K M0 H0 vs ts) (gs : VTs K M0 H0 ws us) : Feed K M0 H0 (Itz K a b) (zipT ts us) := by
  have hl := hs.length
  have gl := gs.length
  refine feed_pairs (n := min ts.length us.length) (as := fun i => ts[i]?) (bs := fun i => us[i]?) _ (zipT_len ts us) (fun i a b ha hb _ => zipT_get ts us i a b ha hb) (fun i M H k hi => ?_) (fun i M H k hi => ⟨vs, ws, h k, g k, by omega⟩) fun i M H k hi v H' y => ?_
  · obtain ⟨v, e, _⟩ := hs.get (List.getElem?_eq_getElem (show i < ts.length by omega))
    obtain ⟨v2, e2, _⟩ := gs.get (List.getElem?_eq_getElem (show i < us.length by omega))
    exact ⟨vs, ws, v, v2, h k, g k, e, e2⟩
  · obtain ⟨p, x, y, rfl, hp, rfl, hx, hy⟩ := y
    obtain ⟨t, et, ht⟩ := hs.getV (hx vs (h k))
    obtain ⟨u, eu, hu⟩ := gs.getV (hy ws (g k))
    exact ⟨p, x, y, t, u, rfl, hp, rfl, et, eu, ht.keep k, hu.keep k⟩
theorem feed_zipT {K : Fg} {M0 : Ms} {H0 : Hp} {a b : Addr} {vs ws : List V} {ts us : List T} (h : ∀ {M H}, Kp0 M0 H0 M H → SqT K H a vs) (g : ∀ {M H}, Kp0 M0 H0 M H → SqT K H b ws) (hs : VTs K M0 H0 vs ts) (gs : VTs K M0 H0 ws us) : Feed K M0 H0 (RZ.ItzT K a b) (zipT ts us) := by
  have hl := hs.length
  have gl := gs.length
  refine feed_pairs (n := min ts.length us.length) (as := fun i => ts[i]?) (bs := fun i => us[i]?) _ (zipT_len ts us) (fun i a b ha hb _ => zipT_get ts us i a b ha hb) (fun i M H k hi => ?_) (fun i M H k hi => ⟨vs, ws, h k, g k, by omega⟩) fun i M H k hi v H' y => ?_
  · obtain ⟨v, e, _⟩ := hs.get (List.getElem?_eq_getElem (show i < ts.length by omega))
    obtain ⟨v2, e2, _⟩ := gs.get (List.getElem?_eq_getElem (show i < us.length by omega))
    exact ⟨vs, ws, v, v2, h k, g k, e, e2⟩
  · obtain ⟨p, x, y, rfl, hp, rfl, hx, hy⟩ := y
    obtain ⟨t, et, ht⟩ := hs.getV (hx vs (h k))
    obtain ⟨u, eu, hu⟩ := gs.getV (hy ws (g k))
    exact ⟨p, x, y, t, u, rfl, hp, rfl, et, eu, ht.keep k, hu.keep k⟩
def diZip (ta tb : DE) : DI := fun τ R => ta τ fun x τ1 => tb τ1 fun y τ2 => froze τ2 x fun a τ3 => froze τ3 y fun b τ4 => match a, b with
  | .tup ts, .tup us => ts.length ≤ sizeLine ∧ R (zipT ts us) τ4
  | .lst ts, .lst us => ts.length ≤ sizeLine ∧ R (zipT ts us) τ4
  | _, _ => False
theorem qi_zip {X : Cx} {e e2 : Expr} {ta tb : DE} {p pos tpos : Pos} {elts : List Expr} {kk : Nat} (hg : Gl X "zip") (hm : X.mg "zip" = none) (ha : QE Z X e ta) (hb : QE Z X e2 tb)
    (hs : starEach [e, e2] X.env = (false, eval e X.env) :: starEach [e2] X.env := by rfl) (hs2 : starEach [e2] X.env = [(false, eval e2 X.env)] := by rfl) (hpl : (backTo pos (starEach [e2] X.env)).any (·.1) = false := by rfl) :
    QI Z X (.Tuple elts kk tpos) (.Call (.Name "zip" p) [e, e2] [] pos) (diZip ta tb) :=
  PImono (RZ.pi_zipA hg hm (pa_cons ha (pa_cons hb pa_nil hs2) hs) hs hpl) fun σ H R ⟨O, io, α, τ, C, n, h, fin⟩ => two n h fun v u x y α1 τ1 H1 n1 k1 r1 r2 c => by
    rw [← froze_weak] at c
    obtain ⟨a, α2, τ2, n2, a2, q, c⟩ := froze_ok n1 r1 c
    have r2 := r2.keep (Kp0.of_anti (H := H1) a2)
    rw [← froze_weak] at c
    obtain ⟨b, α3, τ3, n3, a3, q2, c⟩ := froze_ok n2 r2 c
    have q := q.keep (Kp0.of_anti (H := H1) a3)
    have k2 := (k1.trans (Kp.of_anti (O := O) (H := H1) a2)).trans (Kp.of_anti (O := O) (H := H1) a3)
    cases q with
    | tup e hs => cases q2 with
      | tup e2 hs2 => exact ⟨_, _, _, _, rfl, .inr ⟨e, e2, fin _ _ α3 τ3 H1 n3 k2 (feed_zipT (fun k => KpT.seq k e) (fun k => KpT.seq k e2) hs hs2) (by rw [zipT_len]; exact Nat.le_trans (Nat.min_le_left _ _) c.1) c.2⟩⟩
      | _ => exact c.elim
    | lst e hs => cases q2 with
      | lst e2 hs2 => exact ⟨_, _, _, _, rfl, .inl ⟨RdL.seq (K := kz Z X) e, RdL.seq (K := kz Z X) e2, fin _ _ α3 τ3 H1 n3 k2 (feed_zipL (fun k => (e.keep k).seq) (fun k => (e2.keep k).seq) hs hs2) (by rw [zipT_len]; exact Nat.le_trans (Nat.min_le_left _ _) c.1) c.2⟩⟩
      | _ => exact c.elim
    | _ => cases b <;> exact c.elim
/-! range(a, b, c) -/
def stepsT (lo c : Int) : Nat → List T
  | 0 => []
  | n + 1 => .int lo :: stepsT (lo + c) c n
theorem stepsT_len (c : Int) : ∀ (n : Nat) (lo : Int), (stepsT lo c n).length = n
  | 0, _ => rfl
  | n + 1, lo => by rw [stepsT, List.length_cons, stepsT_len c n]
theorem stepsT_get (c : Int) : ∀ (n : Nat) (lo : Int) (i : Nat), i < n → (stepsT lo c n)[i]? = some (.int (lo + (i : Nat) * c))
  | 0, _, i, h => absurd h (Nat.not_lt_zero i)
  | n + 1, lo, 0, _ => by rw [stepsT]; simp
  | n + 1, lo, i + 1, h => by
    rw [stepsT, List.getElem?_cons_succ, stepsT_get c n (lo + c) i (by omega)]
    congr 2
    rw [Int.natCast_add, Int.add_mul]
    omega
theorem feed_steps {K : Fg} {M : Ms} {H : Hp} {lo c : Int} {n : Nat} : Feed K M H (Itc lo c n) (stepsT lo c n) := by
  refine ⟨fun i M' H' k hi => by rw [stepsT_len] at hi; exact hi, fun i M' H' k hi v H2 ⟨e, ev⟩ => ?_, fun i M' H' k hi => by rw [stepsT_len] at hi; exact hi⟩
  rw [stepsT_len] at hi
  subst e; subst ev
  exact ⟨.inl rfl, _, stepsT_get c n lo i hi, fun _ => .int _⟩
end N1
namespace N1
open PySem PySem.Spec PyProof.Rows L2
variable {Z : List Addr}
/-! ### range(a, b, c), c above zero -/
def diRange3 (ta tb tc : DE) : DI := fun τ R => ta τ fun x τ1 => tb τ1 fun y τ2 => tc τ2 fun z τ3 => use τ3 x fun a => use τ3 y fun b => use τ3 z fun c => match a, b, c with
  | .int i, .int j, .int c => (0 < c ∧ c < 1000000 ∧ 0 ≤ i ∧ i ≤ 8000000 ∧ 0 ≤ j ∧ j ≤ 8000000) ∧ R (stepsT i c (Builtin.Range.rangeSize i j c).toNat) τ3
  | _, _, _ => False
theorem small_up {i j c : Int} (h0 : 0 < c) (h1 : c < 1000000) (i0 : 0 ≤ i) (i1 : i ≤ 8000000) (j0 : 0 ≤ j) (j1 : j ≤ 8000000) : Builtin.Range.small i j c = true := by
  have hn := PyProof.Rows.rangeSize_toNat i j c
  have hl := PyProof.Rows.rangeSize_toNat_le i j c
  unfold Builtin.Range.small
  generalize Builtin.Range.rangeSize i j c = n at hn hl
  have n0 : 0 ≤ n := by omega
  have n1 : n ≤ 16000000 := by omega
  have hm : 0 ≤ n * c := Int.mul_nonneg n0 (Int.le_of_lt h0)
  have hm2 : n * c ≤ 16000000 * 1000000 := Int.mul_le_mul n1 (Int.le_of_lt h1) (Int.le_of_lt h0) (by decide)
  simp only [Builtin.Range.rangeFitsLong, Bool.and_eq_true, Bool.or_eq_true, decide_eq_true_eq, beq_iff_eq, h0, gt_iff_lt, if_true]
  refine ⟨?_, ?_⟩ <;> omega
theorem three {K : Fg} {O : Ms} {io : List Addr} {α : List (Option Addr)} {τ : DSt} {σ : L2.St} {H : Hp} {ta tb tc : DE} {C : Tok → Tok → Tok → DSt → Prop} {Qv : V → V → V → Hp → Prop} (n : Now K O io none α τ σ H) (h : ta τ fun x τ1 => tb τ1 fun y τ2 => tc τ2 fun z τ3 => C x y z τ3)
    (fin : ∀ v u w x y z α' τ' H', Now K O io none α' τ' σ H' → Kp O (Mu O α none) H (Mu O α' none) H' → TokOk K (Mu O α' none) σ H' v (weak x) → TokOk K (Mu O α' none) σ H' u (weak y) → TokOk K (Mu O α' none) σ H' w (weak z) → C x y z τ' → Qv v u w H') :
    liftE K ta σ H fun v H1 => liftE K tb σ H1 fun u H2 => liftE K tc σ H2 fun w H3 => Qv v u w H3 :=
  one n h fun v x α1 τ1 H1 n1 k1 r1 c1 => two n1 c1 fun u w y z α2 τ2 H2 n2 k2 r2 r3 c2 => fin v u w x y z α2 τ2 H2 n2 (k1.trans k2) (r1.keep k2.toKp0) r2 r3 c2
theorem qi_range3 {X : Cx} {tg a b c : Expr} {ta tb tc : DE} {p pos : Pos} (hg : Gl X "range") (hm : X.mg "range" = none) (ha : QE Z X a ta) (hb : QE Z X b tb) (hc : QE Z X c tc)
    (hs : starEach [a, b, c] X.env = (false, eval a X.env) :: starEach [b, c] X.env := by rfl) (hs2 : starEach [b, c] X.env = (false, eval b X.env) :: starEach [c] X.env := by rfl) (hs3 : starEach [c] X.env = (false, eval c X.env) :: starEach [] X.env := by rfl) (hpl : (backTo pos (starEach [b, c] X.env)).any (·.1) = false := by rfl) :
    QI Z X tg (.Call (.Name "range" p) [a, b, c] [] pos) (diRange3 ta tb tc) :=
  PImono (pi_range3 hg hm (pa_cons ha (pa_cons hb (pa_cons hc pa_nil hs3) hs2) hs) hs hpl) fun σ H R ⟨O, io, α, τ, C, n, h, fin⟩ => three n h fun v u w x y z α1 τ1 H1 n1 k1 r1 r2 r3 c => by
    rw [← use_weak] at c
    obtain ⟨a, ca, c⟩ := use_ok n1 r1 c
    rw [← use_weak] at c
    obtain ⟨b, cb, c⟩ := use_ok n1 r2 c
    rw [← use_weak] at c
    obtain ⟨d, cd, c⟩ := use_ok n1 r3 c
    cases a <;> first | (cases b <;> cases d <;> exact c.elim) | skip
    cases b <;> first | (cases d <;> exact c.elim) | skip
    cases d <;> first | exact c.elim | skip
    cases ca.int; cases cb.int; cases cd.int
    obtain ⟨⟨h0, h1, i0, i1, j0, j1⟩, c⟩ := c
    have hsl := sl_eq
    have hle := PyProof.Rows.rangeSize_toNat_le
    refine ⟨_, _, _, _, rfl, ⟨by omega, by omega, small_up h0 h1 i0 i1 j0 j1, PyProof.Rows.rangeSize_toNat _ _ _⟩, fin _ _ α1 τ1 H1 n1 k1 feed_steps ?_ c⟩
    rw [stepsT_len]
    refine Nat.le_trans (hle _ _ _) ?_
    omega
/-! tuple(reversed(x)), x a list -/
def dTupRev (te : DE) : DE := fun τ Q => te τ fun tk τ1 => use τ1 tk fun t => match t with
  | .lst ts => Q (.v (.tup ts.reverse)) τ1
  | _ => False
theorem qe_tupRev {X : Cx} {e : Expr} {te : DE} {p p2 pos pos2 : Pos} (hc : X.calm = true) (hg : Gl X "tuple") (hm : X.mg "tuple" = none) (hg2 : Gl X "reversed") (hm2 : X.mg "reversed" = none) (he : QE Z X e te)
    (hs : starEach [e] X.env = (false, eval e X.env) :: starEach [] X.env := by rfl)
    (hs2 : starEach [.Call (.Name "reversed" p2) [e] [] pos2] X.env = (false, eval (.Call (.Name "reversed" p2) [e] [] pos2) X.env) :: starEach [] X.env := by rfl) :
    QE Z X (.Call (.Name "tuple" p) [.Call (.Name "reversed" p2) [e] [] pos2] [] pos) (dTupRev te) :=
  PEmono (RT.pe_tupRev hc hg hm hg2 hm2 he hs hs2) fun σ H Q ⟨O, io, α, τ, R, n, h, fin⟩ => one n h fun v tk α1 τ1 H1 n1 k1 r1 c => by
    rw [← use_weak] at c
    obtain ⟨t, ct, c⟩ := use_ok n1 r1 c
    cases t with
    | lst ts =>
      obtain ⟨a, vs, rfl, e, hs⟩ := ct.lst
      refine ⟨a, vs, rfl, SqL.of e, fun q hq => ?_⟩
      have kp := kp_new n1 hq (.tup vs.reverse) (.inl rfl)
      exact fin _ (.v (.tup ts.reverse)) none α1 τ1 _ (now_new n1 hq _ (.inl rfl)) (k1.trans kp) ⟨rfl, .tup (SqT.of upd_same) (hs.reverse.keep kp.toKp0)⟩ c
    | _ => exact c.elim
end N1
namespace N1
open PySem PySem.Spec PyProof.Rows L2
variable {Z : List Addr}
/-! ### a comprehension with two loops -/
def lcI (vs1 : List Nat) (g1 : DG) (tt1 : DT) (te : DE) (K : List T → DSt → Prop) : List T → List T → DSt → Prop
  | [], acc, τ => K acc τ
  | u :: r, acc, τ => g1 u τ fun τ2 => tt1 τ2 fun b τ3 => Br b (te τ3 fun tk τ4 => froze τ4 tk fun y τ5 => acc.length < sizeLine ∧ lcI vs1 g1 tt1 te K r (acc ++ [y]) (wipeT τ5 vs1)) (lcI vs1 g1 tt1 te K r acc (wipeT τ3 vs1))
def lcO (vs vs1 : List Nat) (g : DG) (tt : DT) (d1 : DI) (g1 : DG) (tt1 : DT) (te : DE) (Q : DK) : List T → List T → DSt → Prop
  | [], acc, τ => Q (.fr acc) τ
  | t :: r, acc, τ => g t τ fun τ2 => tt τ2 fun b τ3 => Br b (d1 τ3 fun us τ4 => Loop (lcI vs1 g1 tt1 te (fun acc' τ' => lcO vs vs1 g tt d1 g1 tt1 te Q r acc' (wipeT τ' vs)) us acc (wipeT τ4 vs1))) (lcO vs vs1 g tt d1 g1 tt1 te Q r acc (wipeT τ3 vs))
def dLc2 (vs vs1 : List Nat) (d : DI) (g : DG) (tt : DT) (d1 : DI) (g1 : DG) (tt1 : DT) (te : DE) : DE := fun τ Q => d τ fun ts τ1 => Loop (lcO vs vs1 g tt d1 g1 tt1 te Q ts [] (wipeT τ1 vs))
theorem wipe_eq {σ σ' : L2.St} {vs : List Nat} (hl : σ'.length = σ.length) (he : ∀ j, j ∉ vs → σ'[j]? = σ[j]?) : L2.wipe σ' vs = L2.wipe σ vs := by
  refine List.ext_getElem? fun j => ?_
  by_cases hj : j ∈ vs
  · rw [wipe_at _ _ _ hj, wipe_at _ _ _ hj, hl]
  · rw [wipe_off hj, wipe_off hj, he j hj]
theorem lc2_lift {K : Fg} {vs vs1 : List Nat} {d d1 : DI} {g g1 : DG} {tt tt1 : DT} {te : DE} {σ : L2.St} {H : Hp} {Q : VK} (hvs : ∀ j ∈ vs1, j ∈ vs) (h : liftE K (dLc2 vs vs1 d g tt d1 g1 tt1 te) σ H Q) :
    tLc2 (liftI K d) (liftG K vs g) (liftT K tt) (liftI K d1) (liftG K vs1 g1) (liftT K tt1) (liftE K te) vs vs1 σ H Q := by
  have e0 : dLc2 vs vs1 d g tt d1 g1 tt1 te = fun τ Q => d τ fun ts τ1 => lcO vs vs1 g tt d1 g1 tt1 te Q ts [] (wipeT τ1 vs) := by unfold dLc2; simp only [Loop.eq]
  rw [e0] at h
  obtain ⟨O, io, α, τ, R, n, h, fin⟩ := h
  refine ⟨O, io, α, τ, _, n, h, fun J ts α1 τ1 H1 n1 k1 F hz c D hD => ?_⟩
  have nOD : ¬ O D := fun z => by
    obtain ⟨xs, e⟩ := n1.tr D (.inl z)
    rw [hD] at e
    cases e
  have kD := kp_new n1 hD (.lst []) (.inr rfl)
  have nD := (now_new n1 hD (.lst []) (.inr rfl)).over upd_same
  have kD' : Kp O (Mu O α1 none) H1 (Mu (Ov O D) α1 none) (upd H1 D (.lst [])) := kD.anti Ov.into
  have far : ∀ {M M' : Ms} {H H' : Hp}, Kp (Ov O D) M H M' H' → Kp O M H M' H' := fun k => ⟨k.toKp0, fun a h => k.far a (.inl h)⟩
  refine ⟨fun i m H => (i ≤ ts.length ∧ m = ts.length - i) ∧ ∃ (α' : List (Option Addr)) (τ' : DSt) (σ' : L2.St) (acc : List T) (ws : List V), Now K (Ov O D) io none α' τ' σ' H ∧ (σ'.length = σ.length ∧ ∀ j, j ∉ vs → σ'[j]? = σ[j]?) ∧
      Kp O (Mu O α1 none) H1 (Mu (Ov O D) α' none) H ∧ H D = some (.lst ws) ∧ VTs K (Mu (Ov O D) α' none) H ws acc ∧ lcO vs vs1 g tt d1 g1 tt1 te R (ts.drop i) acc (wipeT τ' vs),
    ⟨ts.length, ⟨Nat.zero_le _, rfl⟩, α1, τ1, σ, [], [], nD, ⟨rfl, fun _ _ => rfl⟩, kD', upd_same, .nil, c⟩, fun i m H2 ⟨⟨hi, hm⟩, α2, τ2, σ2, acc, ws, n2, ⟨hl2, he2⟩, k2, eD, hacc, c2⟩ => ?_⟩
  have hwl : (L2.wipe σ vs).length = σ.length := wipe_length σ vs
  by_cases hlt : i < ts.length
  · rw [List.drop_eq_getElem_cons hlt] at c2
    refine .inr ⟨F.go i _ _ k2.toKp0 hlt, fun H' => ∃ (α' : List (Option Addr)) (τ' : DSt) (σ' : L2.St) (acc : List T) (ws : List V), Now K (Ov O D) io none α' τ' σ' H' ∧ (σ'.length = σ.length ∧ ∀ j, j ∉ vs → σ'[j]? = σ[j]?) ∧
      Kp O (Mu O α1 none) H1 (Mu (Ov O D) α' none) H' ∧ H' D = some (.lst ws) ∧ VTs K (Mu (Ov O D) α' none) H' ws acc ∧ lcO vs vs1 g tt d1 g1 tt1 te R (ts.drop (i + 1)) acc (wipeT τ' vs),
      fun H' z => ⟨ts.length - (i + 1), by omega, ⟨hlt, rfl⟩, z⟩, fun x H3 y => ?_⟩
    obtain ⟨nw, mw⟩ := n2.wipe (σ' := L2.wipe σ vs) vs (by rw [hwl, hl2]) fun j hj => by rw [wipe_off hj, he2 j hj]
    obtain ⟨hh, t, et, hv⟩ := F.yld i _ _ k2.toKp0 hlt x H3 y
    rw [List.getElem?_eq_getElem hlt] at et
    cases et
    have step3 : Now K (Ov O D) io none (wipeA α2 vs) (wipeT τ2 vs) (L2.wipe σ vs) H3 ∧ Kp (Ov O D) (Mu (Ov O D) α2 none) H2 (Mu (Ov O D) (wipeA α2 vs) none) H3 ∧ VT K (Mu (Ov O D) (wipeA α2 vs) none) H3 x ts[i] := by
      rcases hh with rfl | ⟨p, xs, hp, rfl⟩
      · exact ⟨nw, .of_anti mw, (hv fun _ _ z => z).keep (.of_anti mw)⟩
      · have kp := kp_new nw hp (.tup xs) (.inl rfl)
        exact ⟨now_new nw hp _ (.inl rfl), (Kp.of_anti mw).trans kp, (hv fun a xs e => by rw [upd_ne (ne_of_none e hp)]; exact e).keep (.of_anti mw)⟩
    obtain ⟨n3, k3, hv3⟩ := step3
    refine ⟨Ov O D, io, _, _, ts[i], _, n3, hv3, c2, fun α4 τ4 σ4 H4 n4 k4 w4 q4 => ⟨?_, ?_⟩⟩
    · rw [w4, wipe_wipe]
    · have hl4 : σ4.length = σ.length := by rw [← wipe_length σ4 vs, w4, wipe_length, wipe_length]
      have he4 : ∀ j, j ∉ vs → σ4[j]? = σ[j]? := fun j hj => by rw [← wipe_off (σ := σ4) hj, w4, wipe_off hj, wipe_off hj]
      have k24 := k3.trans k4
      refine ⟨Ov O D, io, α4, τ4, _, n4, q4, fun b α5 τ5 H5 n5 k5 q5 => ?_⟩
      have k25 := k24.trans k5
      have eD5 : H5 D = some (.lst ws) := (k25.far D (.inr rfl)).trans eD
      cases b with
      | false =>
        refine iteF ?_
        exact ⟨α5, τ5, σ4, acc, ws, n5, ⟨hl4, he4⟩, k2.trans (far k25), eD5, hacc.keep k25.toKp0, q5.f rfl⟩
      | true =>
        refine iteT ?_
        refine ⟨Ov O D, io, α5, τ5, _, n5, q5.t rfl, fun J1 us α6 τ6 H6 n6 k6 F1 hz1 c6 => ?_⟩
        rw [Loop.eq] at c6
        have k26 := k25.trans k6
        have eD6 : H6 D = some (.lst ws) := (k26.far D (.inr rfl)).trans eD
        refine ⟨fun j k H => (j ≤ us.length ∧ k = us.length - j) ∧ ∃ (α' : List (Option Addr)) (τ' : DSt) (σ' : L2.St) (acc : List T) (ws : List V), Now K (Ov O D) io none α' τ' σ' H ∧ (σ'.length = σ4.length ∧ ∀ j, j ∉ vs1 → σ'[j]? = σ4[j]?) ∧
            Kp O (Mu (Ov O D) α6 none) H6 (Mu (Ov O D) α' none) H ∧ H D = some (.lst ws) ∧ VTs K (Mu (Ov O D) α' none) H ws acc ∧
            lcI vs1 g1 tt1 te (fun acc' τ' => lcO vs vs1 g tt d1 g1 tt1 te R (ts.drop (i + 1)) acc' (wipeT τ' vs)) (us.drop j) acc (wipeT τ' vs1),
          ⟨us.length, ⟨Nat.zero_le _, rfl⟩, α6, τ6, σ4, acc, ws, n6, ⟨rfl, fun _ _ => rfl⟩, .refl, eD6, hacc.keep k26.toKp0, c6⟩, fun j k H7 ⟨⟨hj, hk⟩, α7, τ7, σ7, acc7, ws7, n7, ⟨hl7, he7⟩, k7, eD7, hacc7, c7⟩ => ?_⟩
        have hwl4 : (L2.wipe σ4 vs1).length = σ4.length := wipe_length σ4 vs1
        by_cases hjt : j < us.length
        · rw [List.drop_eq_getElem_cons hjt] at c7
          refine .inr ⟨F1.go j _ _ k7.toKp0 hjt, fun H' => ∃ (α' : List (Option Addr)) (τ' : DSt) (σ' : L2.St) (acc : List T) (ws : List V), Now K (Ov O D) io none α' τ' σ' H' ∧ (σ'.length = σ4.length ∧ ∀ j, j ∉ vs1 → σ'[j]? = σ4[j]?) ∧
            Kp O (Mu (Ov O D) α6 none) H6 (Mu (Ov O D) α' none) H' ∧ H' D = some (.lst ws) ∧ VTs K (Mu (Ov O D) α' none) H' ws acc ∧
            lcI vs1 g1 tt1 te (fun acc' τ' => lcO vs vs1 g tt d1 g1 tt1 te R (ts.drop (i + 1)) acc' (wipeT τ' vs)) (us.drop (j + 1)) acc (wipeT τ' vs1),
            fun H' z => ⟨us.length - (j + 1), by omega, ⟨hjt, rfl⟩, z⟩, fun x1 H8 y1 => ?_⟩
          obtain ⟨nw1, mw1⟩ := n7.wipe (σ' := L2.wipe σ4 vs1) vs1 (by rw [hwl4, hl7]) fun j hj => by rw [wipe_off hj, he7 j hj]
          obtain ⟨hh1, t1, et1, hv1⟩ := F1.yld j _ _ k7.toKp0 hjt x1 H8 y1
          rw [List.getElem?_eq_getElem hjt] at et1
          cases et1
          have step8 : Now K (Ov O D) io none (wipeA α7 vs1) (wipeT τ7 vs1) (L2.wipe σ4 vs1) H8 ∧ Kp (Ov O D) (Mu (Ov O D) α7 none) H7 (Mu (Ov O D) (wipeA α7 vs1) none) H8 ∧ VT K (Mu (Ov O D) (wipeA α7 vs1) none) H8 x1 us[j] := by
            rcases hh1 with rfl | ⟨p, xs, hp, rfl⟩
            · exact ⟨nw1, .of_anti mw1, (hv1 fun _ _ z => z).keep (.of_anti mw1)⟩
            · have kp := kp_new nw1 hp (.tup xs) (.inl rfl)
              exact ⟨now_new nw1 hp _ (.inl rfl), (Kp.of_anti mw1).trans kp, (hv1 fun a xs e => by rw [upd_ne (ne_of_none e hp)]; exact e).keep (.of_anti mw1)⟩
          obtain ⟨n8, k8, hv8⟩ := step8
          refine ⟨Ov O D, io, _, _, us[j], _, n8, hv8, c7, fun α9 τ9 σ9 H9 n9 k9 w9 q9 => ⟨?_, ?_⟩⟩
          · rw [w9, wipe_wipe]
          · have hl9 : σ9.length = σ4.length := by rw [← wipe_length σ9 vs1, w9, wipe_length, wipe_length]
            have he9 : ∀ j, j ∉ vs1 → σ9[j]? = σ4[j]? := fun j hj => by rw [← wipe_off (σ := σ9) hj, w9, wipe_off hj, wipe_off hj]
            have k89 := k8.trans k9
            refine ⟨Ov O D, io, α9, τ9, _, n9, q9, fun b1 α10 τ10 H10 n10 k10 q10 => ?_⟩
            have k810 := k89.trans k10
            have eD10 : H10 D = some (.lst ws7) := (k810.far D (.inr rfl)).trans eD7
            cases b1 with
            | false =>
              refine iteF ?_
              exact ⟨α10, τ10, σ9, acc7, ws7, n10, ⟨hl9, he9⟩, k7.trans (far k810), eD10, hacc7.keep k810.toKp0, q10.f rfl⟩
            | true =>
              refine iteT (one n10 (q10.t rfl) fun v tk α11 τ11 H11 n11 k11 r11 c11 => ?_)
              rw [← froze_weak] at c11
              obtain ⟨t, α12, τ12, n12, a12, q12, hlen, c12⟩ := froze_ok n11 r11 c11
              have k812 := (k810.trans k11).trans (Kp.of_anti (O := Ov O D) (H := H11) a12)
              have eD11 : H11 D = some (.lst ws7) := (k812.far D (.inr rfl)).trans eD7
              obtain ⟨n13, k13⟩ := n12.push (vs := ws7) (ws := ws7 ++ [v]) nOD
              have hv13 : VTs K (Mu (Ov O D) α12 none) (upd H11 D (.lst (ws7 ++ [v]))) (ws7 ++ [v]) (acc7 ++ [t]) := ((hacc7.keep k812.toKp0).append (.cons q12 .nil)).keep (k13 eD11).toKp0
              exact ⟨ws7, eD11, by rw [hacc7.length]; exact hlen, α12, τ12, σ9, acc7 ++ [t], ws7 ++ [v], n13, ⟨hl9, he9⟩, (k7.trans (far k812)).trans (k13 eD11), upd_same, hv13, c12⟩
        · have e : j = us.length := by omega
          subst e
          rw [List.drop_length] at c7
          obtain ⟨nw1, mw1⟩ := n7.wipe (σ' := σ7) vs1 rfl fun _ _ => rfl
          refine .inl ⟨F1.stop _ _ _ k7.toKp0 (Nat.le_refl _), wipeA α7 vs1, wipeT τ7 vs1, σ7, acc7, ws7, nw1, ⟨hl7.trans hl4, fun j hj => (he7 j fun z => hj (hvs j z)).trans (he4 j hj)⟩, ?_, eD7, hacc7.keep (.of_anti mw1), c7⟩
          exact ((k2.trans (far k26)).trans k7).trans (.of_anti mw1)
  · have e : i = ts.length := by omega
    subst e
    rw [List.drop_length] at c2
    obtain ⟨nw, mw⟩ := n2.wipe (σ' := σ) vs hl2.symm fun j hj => (he2 j hj).symm
    have ku : Kp O (Mu (Ov O D) α2 none) H2 (Mu O (wipeA α2 vs) (some D)) H2 := .of_anti fun a h => mw a (Ov.back a h)
    exact .inl ⟨F.stop _ _ _ k2.toKp0 (Nat.le_refl _), fin (.ref D) (.fr acc) (some D) (wipeA α2 vs) _ H2 (nw.under nOD) ((k1.trans k2).trans ku) ⟨D, ws, rfl, rfl, eD, hacc.keep ku.toKp0⟩ c2⟩
section
variable {X : Cx} {elt tg iter tg1 iter1 : Expr} {ifs ifs1 : List Expr} {scope : Scope} {own : List (Str × Nat)} {vs1 : List Nat} {pos : Pos} {d d1 : DI} {g g1 : DG} {tt tt1 : DT} {te : DE}
theorem qe_lc2 (hc : X.calm = true) (hN : X.N.Nodup) (hi : QI Z X tg iter d) (ok : BlkOk X.N X.env.scope scope own) (hv : ∀ i ∈ vs1, i ∈ own.map (·.2))
    (hg : ∀ (s : Shared) (H : Hp) (C : Addr) (cl : List (Str × Addr)) (fp : List Addr), QG Z (X.blk s H scope (compEnvC scope cl C X.env) fp) (own.map (·.2)) tg g)
    (ht : ∀ (s : Shared) (H : Hp) (C : Addr) (cl : List (Str × Addr)) (fp : List Addr), QTs Z (X.blk s H scope (compEnvC scope cl C X.env) fp) ifs tt)
    (hi1 : ∀ (s : Shared) (H : Hp) (C : Addr) (cl : List (Str × Addr)) (fp : List Addr), QI Z (X.blk s H scope (compEnvC scope cl C X.env) fp) tg1 iter1 d1)
    (hg1 : ∀ (s : Shared) (H : Hp) (C : Addr) (cl : List (Str × Addr)) (fp : List Addr), QG Z (X.blk s H scope (compEnvC scope cl C X.env) fp) vs1 tg1 g1)
    (ht1 : ∀ (s : Shared) (H : Hp) (C : Addr) (cl : List (Str × Addr)) (fp : List Addr), QTs Z (X.blk s H scope (compEnvC scope cl C X.env) fp) ifs1 tt1)
    (he : ∀ (s : Shared) (H : Hp) (C : Addr) (cl : List (Str × Addr)) (fp : List Addr), QE Z (X.blk s H scope (compEnvC scope cl C X.env) fp) elt te) (hs : ∀ x, foldedSetIterable iter X.env x = pure x := by intro _; rfl) (hs1 : ∀ env x, foldedSetIterable iter1 env x = pure x := by intro _ _; rfl) :
    QE Z X (.ListComp elt [⟨tg, iter, ifs, 0⟩, ⟨tg1, iter1, ifs1, 0⟩] scope pos) (dLc2 (own.map (·.2)) vs1 d g tt d1 g1 tt1 te) := PEmono (pe_lc2 hc hN hi ok hv hg ht hi1 hg1 ht1 he hs hs1) fun _ _ _ => lc2_lift hv
end
end N1
namespace N1
open PySem PySem.Spec PyProof.Rows L2
variable {Z : List Addr} {X : Cx}
theorem lc2_asg {i : Nat} {K : Fg} {vs vs1 : List Nat} {d d1 : DI} {g g1 : DG} {tt tt1 : DT} {te : DE} {D : Ends} {σ : L2.St} {H : Hp} (hvs : ∀ j ∈ vs1, j ∈ vs) (h : liftS K (dAsg i (dLc2 vs vs1 d g tt d1 g1 tt1 te)) D σ H) :
    tAsg (tLc2 (liftI K d) (liftG K vs g) (liftT K tt) (liftI K d1) (liftG K vs1 g1) (liftT K tt1) (liftE K te) vs vs1) (gName i) D σ H := by
  obtain ⟨O, io, α, τ, E, n, h, l1, _, _, _⟩ := h
  exact lc2_lift (Q := fun x H1 => gName i x σ H1 D.nx) hvs ⟨O, io, α, τ, _, n, h, fun v tk tmp α' τ' H' n' k r c => asg_ok n' k r c l1⟩
theorem qs_setLc2 {i : Nat} {y : Str} {py : Pos} {elt tg iter tg1 iter1 : Expr} {ifs ifs1 : List Expr} {scope : Scope} {own : List (Str × Nat)} {vs1 : List Nat} {pos spos : Pos} {d d1 : DI} {g g1 : DG} {tt tt1 : DT} {te : DE} (hc : X.calm = true) (hN : X.N.Nodup) (hy : X.N[i]? = some y) (hyl : X.env.scope.names.lookup y = some .local)
    (hsw : swapsWith (.ListComp elt [⟨tg, iter, ifs, 0⟩, ⟨tg1, iter1, ifs1, 0⟩] scope pos) (some (.Name y py)) spos.line X.env = pure true) (hi : QI Z X tg iter d) (ok : BlkOk X.N X.env.scope scope own) (hv : ∀ i ∈ vs1, i ∈ own.map (·.2))
    (hg : ∀ (s : Shared) (H : Hp) (C : Addr) (cl : List (Str × Addr)) (fp : List Addr), QG Z (X.blk s H scope (compEnvC scope cl C X.env) fp) (own.map (·.2)) tg g)
    (ht : ∀ (s : Shared) (H : Hp) (C : Addr) (cl : List (Str × Addr)) (fp : List Addr), QTs Z (X.blk s H scope (compEnvC scope cl C X.env) fp) ifs tt)
    (hi1 : ∀ (s : Shared) (H : Hp) (C : Addr) (cl : List (Str × Addr)) (fp : List Addr), QI Z (X.blk s H scope (compEnvC scope cl C X.env) fp) tg1 iter1 d1)
    (hg1 : ∀ (s : Shared) (H : Hp) (C : Addr) (cl : List (Str × Addr)) (fp : List Addr), QG Z (X.blk s H scope (compEnvC scope cl C X.env) fp) vs1 tg1 g1)
    (ht1 : ∀ (s : Shared) (H : Hp) (C : Addr) (cl : List (Str × Addr)) (fp : List Addr), QTs Z (X.blk s H scope (compEnvC scope cl C X.env) fp) ifs1 tt1)
    (he : ∀ (s : Shared) (H : Hp) (C : Addr) (cl : List (Str × Addr)) (fp : List Addr), QE Z (X.blk s H scope (compEnvC scope cl C X.env) fp) elt te) (hs : ∀ x, foldedSetIterable iter X.env x = pure x := by intro _; rfl) (hs1 : ∀ env x, foldedSetIterable iter1 env x = pure x := by intro _ _; rfl) :
    QS Z X (.Assign [.Name y py] (.ListComp elt [⟨tg, iter, ifs, 0⟩, ⟨tg1, iter1, ifs1, 0⟩] scope pos) spos) (dAsg i (dLc2 (own.map (·.2)) vs1 d g tt d1 g1 tt1 te)) := PSmono (ps_setLc2 hc hN hy hyl hsw hi ok hv hg ht hi1 hg1 ht1 he hs hs1) fun _ _ _ => lc2_asg hv
end N1
namespace N1
open PySem PySem.Spec PyProof.Rows L2
variable {Z : List Addr}
/-! ### defs with defaults -/
/-- the defaults of the def x are the plain values ts -/
def ckDfl (K : PySem.W.Frag) (q : Str × List T) : Bool := match K.lookup (He.fAd K (q.1, none)) with
  | some ⟨_, _, .func fd, _⟩ => (match fd.defaults with
    | .ref a => (match K.lookup a with
      | some ⟨_, _, .seq its _, _⟩ => its.toList.length == q.2.length && (its.toList.zip q.2).all fun p => ckT K 12 p.1 p.2
      | _ => false)
    | _ => false)
  | _ => false
/-- n arguments are written, the defaults dts fill up -/
def BindsD (K : PySem.W.Frag) (Z : List Addr) (fd : FuncData) (ps : List Str) (dts : List T) : Prop :=
  ∃ (dvs : List V) (ds : List Value), Vals dvs ds ∧ Binds K fd ps ds ∧ ∀ M H, VTs ⟨K, Z⟩ M H dvs dts
theorem Vals.drop' : ∀ {vs : List V} {us : List Value} (n : Nat), Vals vs us → Vals (vs.drop n) (us.drop n)
  | _, _, 0, h => h
  | _, _, _ + 1, .nil => .nil
  | _, _, n + 1, .cons _ h => Vals.drop' n h
section
variable {K : PySem.W.Frag} {x qual : Str} {params : Arguments} {body : List Stmt} {scope : Scope} {dvs : List V} {kws : List (Str × V)} {fd : FuncData} {ps ks : List Str} {ts : List T} {nm : Str}
theorem dfl_is (F : FunD K x qual params body scope dvs kws (He.fAd K (nm, none)) fd) (hd : dvs ≠ []) (hck : ckDfl K (nm, ts) = true) :
    ∃ (T' : Addr) (o : Obj) (its : List Value) (m : Nat) (kV doc pm : Value) (an : Option Addr) (cdv ct : Value) (vs : List V), fd = PySem.W.fnOf x qual params body scope (.ref T') kV doc pm an cdv ct ∧ K.lookup T' = some o ∧ o.data = .seq its.toArray m ∧
      its.length = dvs.length ∧ its.length = ts.length ∧ Vals vs its ∧ ∀ M H, VTs ⟨K, Z⟩ M H vs ts := by
  obtain ⟨oc, od, dV, kV, doc, pm, an, cdv, ct, osl, rfl, lk, hcd, hD, hK⟩ := F.ex
  rcases hD with ⟨e, _⟩ | ⟨_, T', o, its, m, rfl, lT, oT, rT⟩
  · exact absurd e hd
  · unfold ckDfl at hck
    rw [lk] at hck
    have hck : (match K.lookup T' with
      | some ⟨_, _, .seq its _, _⟩ => its.toList.length == ts.length && (its.toList.zip ts).all fun p => ckT K 12 p.1 p.2
      | _ => false) = true := hck
    rw [lT] at hck
    obtain ⟨c1, c2, c3, c4⟩ := o
    have oT : c3 = .seq its.toArray m := oT
    subst oT
    have hck : (its.toArray.toList.length == ts.length && (its.toArray.toList.zip ts).all fun p => ckT K 12 p.1 p.2) = true := hck
    rw [Bool.and_eq_true] at hck
    have hl : its.length = ts.length := by simpa using hck.1
    obtain ⟨vs, rs, hv⟩ := ckTs_ok (K := ⟨K, Z⟩) (ckT_ok (K := ⟨K, Z⟩) 12) its ts hl (by simpa using hck.2)
    exact ⟨T', _, its, m, kV, doc, pm, an, cdv, ct, vs, rfl, lT, rfl, rT.length.symm, hl, rs, hv⟩
theorem bindsD (F : FunD K x qual params body scope dvs kws (He.fAd K (nm, none)) fd) (hd : dvs ≠ []) (hck : ckDfl K (nm, ts) = true) (n j : Nat) (hn : n + (dvs.length - j) = ps.length)
    (h : ∀ (T : Addr) (kV doc pm : Value) (an : Option Addr) (cdv ct : Value) (us its : List Value), us.length = n → its.length = dvs.length →
      ∃ k, bindArgs (PySem.W.fnOf x qual params body scope (.ref T) kV doc pm an cdv ct) ⟨us, []⟩ = seqItems? (.ref T) >>= k ∧ k (some its.toArray) = pure (ps.zip (us ++ its.drop j))) : BindsD K Z fd ps (ts.drop j) := by
  obtain ⟨T', o, its, m, kV, doc, pm, an, cdv, ct, vs, rfl, lT, oT, l1, l2, rT, hv⟩ := dfl_is (Z := Z) F hd hck
  refine ⟨vs.drop j, its.drop j, Vals.drop' j rT, fun s us X hlen => ?_, fun M H => (hv M H).drop j⟩
  have l3 : us.length = n := by
    rw [List.length_append, List.length_drop, l1] at hlen
    omega
  obtain ⟨k, e1, e2⟩ := h T' kV doc pm an cdv ct us its l3 l1
  refine BindsTo.of_looks fun M => ?_
  rw [e1]
  exact looks_items X lT oT (.of_pure e2)
/-! keywords too -/
def kgD (np nk : Nat) (perm : List Nat) {β : Type} (ds as bs : List β) : List β := if as.length = np ∧ bs.length = nk then perm.filterMap fun j => (as ++ bs ++ ds)[j]? else []
theorem kgD_ts {K : Fg} {M : Ms} {H : Hp} {np nk : Nat} {perm : List Nat} {dvs vs zs : List V} {dts ts us : List T} (h0 : VTs K M H dvs dts) (h1 : VTs K M H vs ts) (h2 : VTs K M H zs us) : VTs K M H (kgD np nk perm dvs vs zs) (kgD np nk perm dts ts us) := by
  unfold kgD
  rw [h1.length, h2.length]
  split
  · have h := (h1.append h2).append h0
    induction perm with
    | nil => exact .nil
    | cons j r ih =>
      rw [List.filterMap_cons, List.filterMap_cons]
      cases e : (ts ++ us ++ dts)[j]? with
      | none =>
        have : (vs ++ zs ++ dvs)[j]? = none := by
          rw [List.getElem?_eq_none_iff] at e ⊢
          rw [h.length]
          exact e
        rw [this]
        exact ih
      | some t =>
        obtain ⟨v, e2, hv⟩ := h.get e
        rw [e2]
        exact .cons hv ih
  · exact .nil
theorem kgD_vals {np nk : Nat} {perm : List Nat} {dvs vs zs : List V} {ds us ws : List Value} (h0 : Vals dvs ds) (h1 : Vals vs us) (h2 : Vals zs ws) : Vals (kgD np nk perm dvs vs zs) (kgD np nk perm ds us ws) := by
  unfold kgD
  rw [h1.length, h2.length]
  split
  · have h := Vals.append (Vals.append h1 h2) h0
    induction perm with
    | nil => exact .nil
    | cons j r ih =>
      rw [List.filterMap_cons, List.filterMap_cons]
      cases e : (vs ++ zs ++ dvs)[j]? with
      | none =>
        rw [Vals.none_of h e]
        exact ih
      | some v =>
        obtain ⟨u, e2, hv⟩ := h.get e
        rw [e2]
        exact .cons hv ih
  · exact .nil
def BindsK (K : PySem.W.Frag) (Z : List Addr) (fd : FuncData) (ps ks : List Str) (np : Nat) (perm : List Nat) (dts : List T) : Prop :=
  ∃ (dvs : List V) (ds : List Value), Vals dvs ds ∧ KBinds K fd ps ks (kgD np ks.length perm ds) (kgD np ks.length perm dvs) ∧ ∀ M H, VTs ⟨K, Z⟩ M H dvs dts
theorem bindsK (F : FunD K x qual params body scope dvs kws (He.fAd K (nm, none)) fd) (hd : dvs ≠ []) (hck : ckDfl K (nm, ts) = true) (np : Nat) (perm : List Nat) (hl0 : ps.length ≠ 0)
    (h : ∀ (T : Addr) (kV doc pm : Value) (an : Option Addr) (cdv ct : Value) (us ws its : List Value), us.length = np → ws.length = ks.length → its.length = dvs.length → (kgD np ks.length perm its us ws).length = ps.length →
      ∃ k, bindArgs (PySem.W.fnOf x qual params body scope (.ref T) kV doc pm an cdv ct) ⟨us, ks.zip ws⟩ = seqItems? (.ref T) >>= k ∧ k (some its.toArray) = pure (ps.zip (kgD np ks.length perm its us ws))) : BindsK K Z fd ps ks np perm ts := by
  obtain ⟨T', o, its, m, kV, doc, pm, an, cdv, ct, vs, rfl, lT, oT, l1, l2, rT, hv⟩ := dfl_is (Z := Z) F hd hck
  refine ⟨vs, its, rT, ⟨fun s us ws X hlen => ?_, fun h1 h2 => kgD_vals rT h1 h2⟩, hv⟩
  have hc : us.length = np ∧ ws.length = ks.length := by
    by_cases h : us.length = np ∧ ws.length = ks.length
    · exact h
    · unfold kgD at hlen
      rw [if_neg h] at hlen
      exact absurd hlen.symm hl0
  obtain ⟨k, e1, e2⟩ := h T' kV doc pm an cdv ct us ws its hc.1 hc.2 l1 hlen
  refine BindsTo.of_looks fun M => ?_
  rw [e1]
  exact looks_items X lT oT (.of_pure e2)
end
end N1
namespace N1
open PySem PySem.Spec PyProof.Rows L2
variable {Z : List Addr}
/-! ### any(xs), all(xs) of a list of truth values -/
def boolsOf : List T → Option (List Bool)
  | [] => some []
  | .bl b :: r => (boolsOf r).map (b :: ·)
  | _ => none
def withBools (ts : List T) (c : List Bool → Prop) : Prop := match boolsOf ts with
  | some bs => c bs
  | none => False
theorem withBools_ok {ts : List T} {c : List Bool → Prop} (h : withBools ts c) : ∃ bs, boolsOf ts = some bs ∧ c bs := by
  unfold withBools at h
  split at h
  · exact ⟨_, by assumption, h⟩
  · exact h.elim
theorem boolsOf_map : ∀ bs : List Bool, boolsOf (bs.map .bl) = some bs
  | [] => rfl
  | b :: bs => by
    show (boolsOf (bs.map .bl)).map (b :: ·) = _
    rw [boolsOf_map bs]
    rfl
theorem withBools.by {ts : List T} (bs : List Bool) {c : List Bool → Prop} (e : ts = bs.map .bl) (h : c bs) : withBools ts c := by
  unfold withBools
  rw [e, boolsOf_map]
  exact h
theorem VTs.boolsOf {K : Fg} {M : Ms} {H : Hp} : ∀ {vs : List V} {ts : List T} {bs : List Bool}, VTs K M H vs ts → N1.boolsOf ts = some bs → vs = bs.map V.bl
  | _, [], _, .nil, e => by cases e; rfl
  | _, t :: r, bs, .cons h hs, e => by
    cases t with
    | bl b =>
      cases q : N1.boolsOf r with
      | none => simp [N1.boolsOf, q] at e
      | some cs =>
        simp [N1.boolsOf, q] at e
        subst e
        cases h
        rw [hs.boolsOf q]
        rfl
    | _ => simp [N1.boolsOf] at e
def bAny : List T → (Tok → Prop) → Prop
  | [.lst ts], k => withBools ts fun bs => k (.v (.bl (bs.any id)))
  | _, _ => False
def bAll : List T → (Tok → Prop) → Prop
  | [.lst ts], k => withBools ts fun bs => k (.v (.bl (bs.all id)))
  | _, _ => False
section
variable {X : Cx}
theorem cd_any (hc : X.calm = true) : CallD Z X (.builtin "any") bAny := by
  intro pins s σ H xs us Q I rx ⟨O, io, α, τ, ρ, ts, k, n, c, q, fin⟩
  match ts, q with
  | [.lst ts], q =>
    obtain ⟨v, rfl, c1⟩ := c.one
    obtain ⟨a, vs, rfl, e, hs⟩ := c1.lst
    obtain ⟨bs, en, q⟩ := withBools_ok q
    have ev := hs.boolsOf en
    subst ev
    exact cr_any hc pins s σ H _ us Q I rx ⟨a, bs, rfl, SqL.of e, fin _ _ (.val n (.bl _) q)⟩
theorem cd_all (hc : X.calm = true) : CallD Z X (.builtin "all") bAll := by
  intro pins s σ H xs us Q I rx ⟨O, io, α, τ, ρ, ts, k, n, c, q, fin⟩
  match ts, q with
  | [.lst ts], q =>
    obtain ⟨v, rfl, c1⟩ := c.one
    obtain ⟨a, vs, rfl, e, hs⟩ := c1.lst
    obtain ⟨bs, en, q⟩ := withBools_ok q
    have ev := hs.boolsOf en
    subst ev
    exact cr_all hc pins s σ H _ us Q I rx ⟨a, bs, rfl, SqL.of e, fin _ _ (.val n (.bl _) q)⟩
end
/-! ### max(xs, default=d), whole numbers -/
def MaxD (d : Int) (ns : List Int) (m : Int) : Prop := (ns = [] ∧ m = d) ∨ (m ∈ ns ∧ ∀ y ∈ ns, y ≤ m)
theorem maxOf_int (x : Int) : ∀ xs : List Int, PySem.W.maxOf x xs ∈ x :: xs ∧ ∀ y ∈ x :: xs, y ≤ PySem.W.maxOf x xs := by
  have key : ∀ (xs : List Int) (a : Int), (xs.foldl (fun a y => if PySem.W.DatumOrd.lt a y = true then y else a) a ∈ a :: xs) ∧ ∀ y ∈ a :: xs, y ≤ xs.foldl (fun a y => if PySem.W.DatumOrd.lt a y = true then y else a) a := by
    intro xs
    induction xs with
    | nil => intro a; simp
    | cons z xs ih =>
      intro a
      rw [List.foldl_cons]
      have hlt : PySem.W.DatumOrd.lt a z = decide (a < z) := rfl
      rw [hlt]
      by_cases h : a < z
      · rw [if_pos (decide_eq_true h)]
        obtain ⟨h1, h2⟩ := ih z
        refine ⟨List.mem_cons_of_mem _ h1, fun y hy => ?_⟩
        rcases List.mem_cons.mp hy with rfl | hy
        · exact Int.le_trans (Int.le_of_lt h) (h2 z List.mem_cons_self)
        · exact h2 y hy
      · rw [if_neg (by simpa using h)]
        obtain ⟨h1, h2⟩ := ih a
        refine ⟨?_, fun y hy => ?_⟩
        · rcases List.mem_cons.mp h1 with e | e
          · rw [e]; exact List.mem_cons_self
          · exact List.mem_cons_of_mem _ (List.mem_cons_of_mem _ e)
        · rcases List.mem_cons.mp hy with rfl | hy
          · exact h2 _ List.mem_cons_self
          · rcases List.mem_cons.mp hy with rfl | hy
            · exact Int.le_trans (by omega) (h2 a List.mem_cons_self)
            · exact h2 y (List.mem_cons_of_mem _ hy)
  exact fun xs => key xs x
def rMaxDf (K : PySem.W.Frag) : List V → List V → Hp → VK → Prop := fun xs zs H Q => ∃ (a : Addr) (ns : List Int) (d : Int), xs = [.ref a] ∧ zs = [.int d] ∧ SqL K H a (ns.map V.int) ∧ ∀ m, MaxD d ns m → Q (.int m) H
theorem holdInts {h : Heap} : ∀ {its : List Value} {ns : List Int}, IntsAre its ns → ∃ as, ReadsAll h its (ns.map PySem.W.Datum.toD) as
  | _, _, .nil => ⟨_, .nil⟩
  | _, _, .cons n t hx => by
    obtain ⟨as, r⟩ := holdInts (h := h) hx
    exact ⟨_, .cons (.int n t) r⟩
theorem ints_int : ∀ {its : List Value} {ns : List Int}, IntsAre its ns → ∀ {i : Nat} {v : Value}, its[i]? = some v → ∃ n t, v = .int n t
  | _, _, .nil, _, _, e => by simp at e
  | _, _, .cons n t hx, 0, _, e => by simp at e; exact ⟨n, t, e.symm⟩
  | _, _, .cons n t hx, i + 1, _, e => ints_int hx (by simpa using e)
section
variable {X : Cx}
theorem cr_maxDf (hc : X.calm = true) (hw : X.A.units + 130 < cLine) : CallRK X (.builtin "max") [Str.ofString "default"] (rMaxDf X.K) := by
  intro pins s σ H xs zs us ws Q I rx rz ⟨a, ns, d, ex, ez, hs, q⟩
  subst ex; subst ez
  obtain ⟨its, rv, hl, _⟩ := I.list hs
  rw [Vals.ref1 rx]
  obtain ⟨u, rfl, ru⟩ := vals1 rz
  obtain ⟨t, rfl⟩ := ru
  have hi := rv.ints
  refine PySem.W.max_list_datum_default (xs := ns) (I.ok.hd hc) hl.isList (holdInts hi) (by show X.A.units + 1 + 0 < _; omega) (fun e h' tk hk => ?_) fun y ys i v h' tk e hv hh hk => ?_
  · exact ⟨.int d, H, I.kept hk, ⟨t, rfl⟩, q d (.inl ⟨e, rfl⟩)⟩
  · obtain ⟨n, t2, rfl⟩ := ints_int hi (by simpa using hv)
    obtain ⟨bs, r⟩ := hh
    have em : n = PySem.W.maxOf y ys := by
      have r : Reads h' (.int n t2) (.int (PySem.W.maxOf y ys)) bs := r
      cases r
      rfl
    obtain ⟨m1, m2⟩ := maxOf_int y ys
    subst em
    exact ⟨.int _, H, I.kept hk, ⟨t2, rfl⟩, q _ (.inr (by rw [e]; exact ⟨m1, m2⟩))⟩
/-- max(e, default=d) -/
def dMaxD (te td : DE) : DE := fun τ Q => te τ fun tk τ1 => td τ1 fun dk τ2 => use τ2 tk fun t => use τ2 dk fun d => match t, d with
  | .lst ts, .int d => withInts ts fun ns => ∀ m, MaxD d ns m → Q (.v (.int m)) τ2
  | _, _ => False
theorem qe_maxD {p pos kpos : Pos} {e ed : Expr} {te td : DE} (hc : X.calm = true) (hw : X.A.units + 130 < cLine) (hg : Gl X "max") (hm : X.mg "max" = none) (hv : bootBuiltins "max" = some (.builtin "max")) (he : QE Z X e te) (hd : QE Z X ed td)
    (hst : backTo pos (starEach [e] X.env) = (false, eval e X.env) :: backTo pos (starEach [] X.env) := by rfl) (hpl : (backTo pos (starEach [e] X.env)).any (·.1) = false := by rfl)
    (hall : (backToKw pos (keywordEach [⟨some "default", ed, kpos⟩] X.env)).all (·.1.isSome) = true := by rfl) (hnone : (backToKw pos (keywordEach [⟨some "default", ed, kpos⟩] X.env)).any (·.1.isNone) = false := by rfl)
    (hks : (backToKw pos (keywordEach [⟨some "default", ed, kpos⟩] X.env)).filterMap (·.1) = [Str.ofString "default"] := by rfl) (hs1 : starEach [e] X.env = (false, eval e X.env) :: starEach [] X.env := by rfl) :
    QE Z X (.Call (.Name "max" p) [e] [⟨some "default", ed, kpos⟩] pos) (dMaxD te td) :=
  PEmono (pe_callBK (cr_maxDf hc hw) hg hm hv (pa_cons he pa_nil hs1) (pk_cons hd pk_nil) (by decide) (by decide) hst hpl hall hnone hks) fun σ H Q ⟨O, io, α, τ, R, n, h, fin⟩ => two n h fun v u x y α1 τ1 H1 n1 k1 r1 r2 c => by
    rw [← use_weak] at c
    obtain ⟨a, ca, c⟩ := use_ok n1 r1 c
    rw [← use_weak] at c
    obtain ⟨b, cb, c⟩ := use_ok n1 r2 c
    cases a <;> first | (cases b <;> exact c.elim) | skip
    cases b <;> first | exact c.elim | skip
    cases cb.int
    obtain ⟨a, vs, rfl, e, hs⟩ := ca.lst
    obtain ⟨ns, en, q⟩ := withInts_ok c
    have ev := hs.intsOf en
    subst ev
    exact ⟨a, ns, _, rfl, rfl, SqL.of e, fun m hm => fin _ (.v (.int m)) none α1 τ1 H1 n1 k1 ⟨rfl, .int m⟩ (q m hm)⟩
end
end N1
namespace N1
open PySem PySem.Spec PyProof.Rows PySem.SeqAt
open AutoSeq1 (wpAny_loadPart')
open MeetsSeq MeetsSeq2 MeetsSeq3 SeqRoads2
/-! ### rows of values, compared as far as they have to be -/
/-- what the comparison of two rows meets, one place behind another; K takes the answer -/
def LtGo (A : Around) (s : Shared) (K : Bool → Prop) (fin : Bool) : List (Value × Value) → Prop
  | [] => K fin
  | (p, q) :: rest => ∃ e, EqAt A s p q e ∧ (e = true → LtGo A s K fin rest) ∧ (e = false → ∃ c, RcLt A s p q c ∧ K c)
theorem tup_ltGo (l b : Addr) (us ws : Array Value) (n m : Nat) (d1 d2 : Option Addr) (sl1 sl2 : Array (Option Value)) :
    Meets (Builtin.«tuple.__lt__» ⟨[.ref l, .ref b], []⟩)
      (fun A R s => s.heap.get? l = some { cls := .type "tuple", dict := d1, data := .seq us n, slots := sl1 } ∧ s.heap.get? b = some { cls := .type "tuple", dict := d2, data := .seq ws m, slots := sl2 } ∧
        LtGo A.in1 s (fun c => R (.ok (.ret (.bool c))) s) (decide (us.size < ws.size)) (us.toList.zip ws.toList)) :=
  .of_wp fun prog w A R s h => by
    obtain ⟨hp, g, d, tk, os⟩ := s
    obtain ⟨hl, hb, hg⟩ := h
    have fT := AutoSeq1.sub_tuple_tuple
    wp_walk using wpAny_loadPart' hl, wpAny_loadPart' hb, wpAny_forIn_list _ (fun rest b s' => b.1 = none ∧ s' = ⟨hp, g, d, tk, os⟩ ∧
      LtGo A.in1 ⟨hp, g, d, tk, os⟩ (fun c => R (.ok (.ret (.bool c))) ⟨hp, g, d, tk, os⟩) (decide (us.size < ws.size)) rest) _
    case turn =>
      rintro ⟨p, q⟩ rest st s' ⟨hn, rfl, e, he, hy, hno⟩
      refine wpAny_bind (he prog w _ _ ?_)
      cases e with
      | true =>
        have := hy rfl
        wp_walk
        exact ⟨rfl, rfl, this⟩
      | false =>
        obtain ⟨c, hc, hR⟩ := hno rfl
        have hri := hc prog w
        wp_walk using hri
        exact ⟨_, rfl, hR⟩
    case fin =>
      rintro ⟨r1, r2⟩ s' ⟨hn, rfl, hR⟩
      have hn : r1 = none := hn
      subst hn
      have hR : R (.ok (.ret (.bool (decide (us.size < ws.size))))) ⟨hp, g, d, tk, os⟩ := hR
      wp_walk
      exact ⟨_, rfl, by simpa [Builtin.Tuple.tupleCompareSizes] using hR⟩
    case h => exact ⟨rfl, rfl, hg⟩
theorem rcLt_tup {A : Around} {s : Shared} {l b : Addr} {us ws : Array Value} {c : Bool} (hl : s.heap.IsTuple l us) (hb : s.heap.IsTuple b ws) (hu : A.units < cLine)
    (h : ∀ K : Bool → Prop, K c → LtGo A.in1 s K (decide (us.size < ws.size)) (us.toList.zip ws.toList)) : RcLt A s (.ref l) (.ref b) c := fun prog w E Q hq => by
  obtain ⟨⟨c1, d1, dt1, sl1⟩, ho, hc, n, hd⟩ := id hl
  obtain ⟨⟨c2, d2, dt2, sl2⟩, ho2, hc2, m, hd2⟩ := id hb
  simp only at hc hd hc2 hd2
  subst hc hd hc2 hd2
  have hk := h (fun c => Value.bool c ≠ Value.notImplemented ∧ Q (.bool c) s) ⟨(fun x => nomatch x), hq⟩
  exact richCompare_meets_room (op := .Lt) ⟨_, ho, rfl⟩ ⟨_, ho2, rfl⟩ F.slot_tuple_lt F.entry_tuple_lt (F.args_tuple_lt_2 _ _) (tup_ltGo l b us ws n m d1 d2 sl1 sl2) ⟨ho, ho2, hk⟩ hu
end N1
namespace N1
open PySem PySem.Spec PyProof.Rows L2 PySem.SeqAt
theorem strs_lex : ∀ a b : List Nat, lexN (a.map (· + 1) ++ [0]) (b.map (· + 1) ++ [0]) = decide (a < b)
  | [], [] => by simp [lexN]
  | [], y :: b => by simp [lexN]
  | x :: a, [] => by simp [lexN]
  | x :: a, y :: b => by
    have ih := strs_lex a b
    simp only [List.map_cons, List.cons_append, lexN, ih]
    rw [Bool.eq_iff_iff]
    simp only [Bool.or_eq_true, Bool.and_eq_true, decide_eq_true_eq, beq_iff_eq, List.cons_lt_cons_iff]
    constructor
    · rintro (h | ⟨h, g⟩)
      · exact .inl (by omega)
      · exact .inr ⟨by omega, g⟩
    · rintro (h | ⟨h, g⟩)
      · exact .inl (by omega)
      · exact .inr ⟨by omega, g⟩
section
variable {Z : List Addr} {X : Cx} {pins : List (Addr × Obj)} {σ : L2.St} {H : Hp} {s : Shared} {M : Ms}
theorem eqAt_S (I : Inv X pins σ H s) {n : Nat} {A : Around} {t t' : T} {v v' : V} {u u' : Value} (h1 : VT (kz Z X) M H v t) (h2 : VT (kz Z X) M H v' t') (r1 : RelV v u) (r2 : RelV v' u') (s1 : T.isS n t = true) (s2 : T.isS n t' = true) (hu : A.units + n + 2 < cLine) : EqAt A s u u' (T.eq t t') := by
  have f1 := T.isS_fit n t s1
  have f2 := T.isS_fit n t' s2
  obtain ⟨d1, c1⟩ := h1.dp f1
  obtain ⟨d2, c2⟩ := h2.dp f2
  obtain ⟨as, q1⟩ := Dp.reads I _ v u d1 r1
  obtain ⟨bs, q2⟩ := Dp.reads I _ v' u' d2 r2
  have e := T.eqv t t' n n f1 f2
  rw [← e]
  refine eqAt_reads _ _ A s u u' as bs q1 q2 c1 c2 ?_
  have := T.py_depth t n f1
  omega
theorem ltGo_T (I : Inv X pins σ H s) {n : Nat} {A : Around} {K : Bool → Prop} (hu : A.units + n + 2 < cLine)
    (f : ∀ (t t' : T) (v v' : V) (u u' : Value), T.isS n t = true → T.isS n t' = true → T.cok n t t' = true → VT (kz Z X) M H v t → VT (kz Z X) M H v' t' → RelV v u → RelV v' u' → RcLt A s u u' (lexN (T.cw t) (T.cw t'))) :
    ∀ (ts ts' : List T) (vs vs' : List V) (us us' : List Value) (fin : Bool), ts.all (T.isS n) = true → ts'.all (T.isS n) = true → T.coks (T.cok n) ts ts' = true → VTs (kz Z X) M H vs ts → VTs (kz Z X) M H vs' ts' → Vals vs us → Vals vs' us' →
      fin = decide (ts.length < ts'.length) → K (lexN (T.cws ts ++ [0]) (T.cws ts' ++ [0])) → LtGo A s K fin (us.zip us')
  | [], [], _, _, _, _, fin, _, _, _, .nil, .nil, .nil, .nil, hf, hk => by subst hf; exact hk
  | [], t' :: ts', _, _, _, _, fin, _, _, _, .nil, .cons h2 hs2, .nil, .cons r2 rs2, hf, hk => by
    subst hf
    obtain ⟨c, w, ec⟩ := T.cw_pos t'
    have e : lexN (T.cws [] ++ [0]) (T.cws (t' :: ts') ++ [0]) = true := by simp [T.cws, ec, lexN]
    rw [e] at hk
    exact hk
  | t :: ts, [], _, _, _, _, fin, _, _, _, .cons h1 hs1, .nil, .cons r1 rs1, .nil, hf, hk => by
    subst hf
    obtain ⟨c, w, ec⟩ := T.cw_pos t
    have e : lexN (T.cws (t :: ts) ++ [0]) (T.cws [] ++ [0]) = false := by simp [T.cws, ec, lexN]
    rw [e] at hk
    exact hk
  | t :: ts, t' :: ts', _, _, _, _, fin, ha, hb, hc, .cons h1 hs1, .cons h2 hs2, .cons r1 rs1, .cons r2 rs2, hf, hk => by
    rw [List.all_cons, Bool.and_eq_true] at ha hb
    have hk : K (lexN (T.cw t ++ T.cws ts ++ [0]) (T.cw t' ++ T.cws ts' ++ [0])) := hk
    rw [List.append_assoc, List.append_assoc] at hk
    unfold T.coks at hc
    refine ⟨T.eq t t', eqAt_S I h1 h2 r1 r2 ha.1 hb.1 hu, fun q => ?_, fun q => ⟨_, f t t' _ _ _ _ ha.1 hb.1 ?_ h1 h2 r1 r2, ?_⟩⟩
    · have e := (T.eq_S n t t' ha.1 hb.1).mp q
      subst e
      rw [lexN_pre] at hk
      rw [if_pos q] at hc
      exact ltGo_T I hu f ts ts' _ _ _ _ fin ha.2 hb.2 hc hs1 hs2 rs1 rs2 (by rw [hf]; simp) hk
    · rw [if_neg (by rw [q]; exact Bool.false_ne_true)] at hc
      exact hc
    · have ne : t ≠ t' := fun z => by rw [(T.eq_S n t t' ha.1 hb.1).mpr z] at q; cases q
      rw [((T.cw_dv n t t' ha.1 hb.1 ne).app _ _).2] at hk
      exact hk
theorem rcLt_str {A : Around} {x y : Str} {tk tk' : PySem.Tok} : RcLt A s (.str x tk) (.str y tk') (lexN (T.cw (.str x)) (T.cw (.str y))) := fun prog w E Q h => by
  have e : lexN (T.cw (.str x)) (T.cw (.str y)) = decide (x.cps.toList < y.cps.toList) := by
    show lexN (1 :: _) (1 :: _) = _
    rw [← strs_lex]
    simp [lexN]
  rw [e] at h
  exact PyProof.Rows.lt_str h
theorem rcLt_T (I : Inv X pins σ H s) : ∀ (n : Nat) (A : Around), A.units + 2 * n + 4 < cLine → ∀ (t t' : T) (v v' : V) (u u' : Value), T.isS n t = true → T.isS n t' = true → T.cok n t t' = true → VT (kz Z X) M H v t → VT (kz Z X) M H v' t' → RelV v u → RelV v' u' → RcLt A s u u' (lexN (T.cw t) (T.cw t')) := by
  intro n
  induction n with
  | zero =>
    intro A hu t t' v v' u u' s1 s2 hc h1 h2 r1 r2
    cases t <;> first | (cases s1; done) | skip
    cases t' <;> first | (cases s2; done) | skip
    cases h1
    cases h2
    obtain ⟨tk, rfl⟩ := r1
    obtain ⟨tk', rfl⟩ := r2
    exact rcLt_str
  | succ n ih =>
    intro A hu t t' v v' u u' s1 s2 hc h1 h2 r1 r2
    cases t <;> first | (cases s1; done) | skip
    · cases t' <;> first | (cases s2; done) | (cases hc; done) | skip
      cases h1
      cases h2
      obtain ⟨tk, rfl⟩ := r1
      obtain ⟨tk', rfl⟩ := r2
      exact rcLt_str
    · cases t' <;> first | (cases s2; done) | (cases hc; done) | skip
      rename_i ts ts'
      cases h1 with
      | tup e1 hs1 =>
        cases h2 with
        | tup e2 hs2 =>
          cases r1
          cases r2
          obtain ⟨us, rv1, p1, z1⟩ := I.tuple e1
          obtain ⟨us', rv2, p2, z2⟩ := I.tuple e2
          refine rcLt_tup p1 p2 (by omega) fun K hk => ?_
          have l1 := rv1.length
          have l2 := rv2.length
          have l3 := hs1.length
          have l4 := hs2.length
          have hk' : K (lexN (T.cws ts ++ [0]) (T.cws ts' ++ [0])) := by
            have e : lexN (T.cw (.tup ts)) (T.cw (.tup ts')) = lexN (T.cws ts ++ [0]) (T.cws ts' ++ [0]) := by
              show lexN (2 :: _) (2 :: _) = _
              simp [lexN]
            rw [e] at hk
            exact hk
          exact ltGo_T I (show A.units + 1 + n + 2 < cLine by omega) (fun t t' v v' u u' => ih A.in1 (show A.units + 1 + 2 * n + 4 < cLine by omega) t t' v v' u u') ts ts' _ _ us us' _ s1 s2 hc hs1 hs2 rv1 rv2 (by
            have e1 : us.toArray.size = ts.length := by rw [List.size_toArray, ← l1, l3]
            have e2 : us'.toArray.size = ts'.length := by rw [List.size_toArray, ← l2, l4]
            rw [e1, e2]) hk'
end
end N1
namespace N1
open PySem PySem.Spec PyProof.Rows L2 PySem.SeqAt
section
variable {Z : List Addr} {X : Cx} {pins : List (Addr × Obj)} {σ : L2.St} {H : Hp} {s : Shared} {M : Ms}
/-- a value made of texts and tuples tells what it is -/
theorem VTs.injS (I : Inv X pins σ H s) {n : Nat} (f : ∀ (t t' : T) (v : V), T.isS n t = true → T.isS n t' = true → VT (kz Z X) M H v t → VT (kz Z X) M H v t' → t = t') :
    ∀ (ts ts' : List T) (vs : List V), ts.all (T.isS n) = true → ts'.all (T.isS n) = true → VTs (kz Z X) M H vs ts → VTs (kz Z X) M H vs ts' → ts = ts'
  | _, _, _, _, _, .nil, .nil => rfl
  | _, _, _, h1, h2, .cons a as, .cons b bs => by
    rw [List.all_cons, Bool.and_eq_true] at h1 h2
    rw [f _ _ _ h1.1 h2.1 a b, VTs.injS I f _ _ _ h1.2 h2.2 as bs]
theorem VT.injS (I : Inv X pins σ H s) : ∀ (n : Nat) (t t' : T) (v : V), T.isS n t = true → T.isS n t' = true → VT (kz Z X) M H v t → VT (kz Z X) M H v t' → t = t' := by
  intro n
  induction n with
  | zero =>
    intro t t' v s1 s2 h1 h2
    cases t <;> first | (cases s1; done) | skip
    cases t' <;> first | (cases s2; done) | skip
    cases h1
    cases h2
    rfl
  | succ n ih =>
    intro t t' v s1 s2 h1 h2
    cases t <;> first | (cases s1; done) | skip
    · cases h1
      cases t' <;> first | (cases s2; done) | skip
      · cases h2; rfl
      · cases h2
    · cases h1 with
      | tup e1 hs1 =>
        cases t' <;> first | (cases s2; done) | skip
        · cases h2
        · cases h2 with
          | tup e2 hs2 =>
            have e := I.tuple_inj e1 e2
            subst e
            rw [VTs.injS I ih _ _ _ s1 s2 hs1 hs2]
end
end N1
namespace N1
open PySem PySem.Spec PyProof.Rows L2 PySem.SeqAt
/-- the first places are texts -/
def fStr : T → Bool
  | .tup (.str _ :: _) => true
  | _ => false
def fTup : T → Bool
  | .tup (.tup _ :: _) => true
  | _ => false
section
variable {Z : List Addr} {X : Cx} {pins : List (Addr × Obj)} {σ : L2.St} {H : Hp} {s : Shared} {M : Ms}
/-- the sort's own comparison of two tuples, from place i on; b: the first places are compared as texts -/
theorem katLex_T (I : Inv X pins σ H s) {n : Nat} {A : Around} {Q : Bool → Shared → Prop} {b : Bool} (hu : A.units + 2 * n + 6 < cLine) :
    ∀ (ts ts' : List T) (vs vs' : List V) (us us' : List Value) (fin : Bool) (i : Nat), ts.all (T.isS n) = true → ts'.all (T.isS n) = true → T.coks (T.cok n) ts ts' = true → VTs (kz Z X) M H vs ts → VTs (kz Z X) M H vs' ts' → Vals vs us → Vals vs' us' →
      ((b && i == 0) = true → (∃ x r, ts = .str x :: r) ∧ ∃ y r, ts' = .str y :: r) → fin = decide (ts.length < ts'.length) → Q (lexN (T.cws ts ++ [0]) (T.cws ts' ++ [0])) s → PySem.W.KatLex X.prog X.w A b fin Q (us.zip us') i s
  | [], [], _, _, _, _, fin, i, _, _, _, .nil, .nil, .nil, .nil, _, hf, hk => by subst hf; exact hk
  | [], t' :: ts', _, _, _, _, fin, i, _, _, _, .nil, .cons h2 hs2, .nil, .cons r2 rs2, _, hf, hk => by
    subst hf
    obtain ⟨c, w, ec⟩ := T.cw_pos t'
    have e : lexN (T.cws [] ++ [0]) (T.cws (t' :: ts') ++ [0]) = true := by simp [T.cws, ec, lexN]
    rw [e] at hk
    exact hk
  | t :: ts, [], _, _, _, _, fin, i, _, _, _, .cons h1 hs1, .nil, .cons r1 rs1, .nil, _, hf, hk => by
    subst hf
    obtain ⟨c, w, ec⟩ := T.cw_pos t
    have e : lexN (T.cws (t :: ts) ++ [0]) (T.cws [] ++ [0]) = false := by simp [T.cws, ec, lexN]
    rw [e] at hk
    exact hk
  | t :: ts, t' :: ts', _, _, _, _, fin, i, ha, hb, hc, .cons h1 hs1, .cons h2 hs2, .cons r1 rs1, .cons r2 rs2, h0, hf, hk => by
    rw [List.all_cons, Bool.and_eq_true] at ha hb
    have hk : Q (lexN (T.cw t ++ T.cws ts ++ [0]) (T.cw t' ++ T.cws ts' ++ [0])) s := hk
    rw [List.append_assoc, List.append_assoc] at hk
    unfold T.coks at hc
    refine PySem.W.kat_cons (eqAt_S I h1 h2 r1 r2 ha.1 hb.1 (by omega) _ _ _ _ ?_)
    refine PySem.W.kat_go (fun q => ?_) (fun q => ?_)
    · have e := (T.eq_S n t t' ha.1 hb.1).mp q
      subst e
      rw [lexN_pre] at hk
      rw [if_pos q] at hc
      exact PySem.W.kat_yes (katLex_T I hu ts ts' _ _ _ _ fin (i + 1) ha.2 hb.2 hc hs1 hs2 rs1 rs2 (fun z => by simp at z) (by rw [hf]; simp) hk)
    · have ne : t ≠ t' := fun z => by rw [(T.eq_S n t t' ha.1 hb.1).mpr z] at q; cases q
      rw [((T.cw_dv n t t' ha.1 hb.1 ne).app _ _).2] at hk
      rw [if_neg (by rw [q]; exact Bool.false_ne_true)] at hc
      refine PySem.W.kat_no ?_
      cases hb0 : (b && i == 0) with
      | true =>
        obtain ⟨⟨x, r, ex⟩, y, r', ey⟩ := h0 hb0
        cases ex
        cases ey
        cases h1
        cases h2
        obtain ⟨tk, rfl⟩ := r1
        obtain ⟨tk', rfl⟩ := r2
        refine oneLt_str ?_
        have e : lexN (T.cw (.str x)) (T.cw (.str y)) = decide (x.cps.toList < y.cps.toList) := by
          show lexN (1 :: _) (1 :: _) = _
          rw [← strs_lex]
          simp [lexN]
        rw [e] at hk
        exact hk
      | false => exact PySem.W.kat_one _ _ (rcLt_T I n A (by omega) t t' _ _ _ _ ha.1 hb.1 hc h1 h2 r1 r2 _ _ _ _ hk)
end
end N1
namespace N1
open PySem PySem.Spec PyProof.Rows L2 PySem.SeqAt
theorem VTs.perm {K : Fg} {M : Ms} {H : Hp} {vs vs' : List V} (p : vs'.Perm vs) : ∀ {ts : List T}, VTs K M H vs ts → ∃ ts' : List T, ts'.Perm ts ∧ VTs K M H vs' ts' := by
  induction p with
  | nil => intro ts h; cases h; exact ⟨[], .refl _, .nil⟩
  | cons x _ ih =>
    intro ts h
    cases h with
    | cons a as =>
      obtain ⟨ts', p, h⟩ := ih as
      exact ⟨_, p.cons _, .cons a h⟩
  | swap x y l =>
    intro ts h
    cases h with
    | cons a as =>
      cases as with
      | cons b bs => exact ⟨_, .swap _ _ _, .cons b (.cons a bs)⟩
  | trans _ _ ih1 ih2 =>
    intro ts h
    obtain ⟨t1, p1, h1⟩ := ih2 h
    obtain ⟨t2, p2, h2⟩ := ih1 h1
    exact ⟨t2, p2.trans p1, h2⟩
/-- sorted(xs), xs of tuples of texts and tuples -/
def bSortedP (ts : List T) (k : Tok → Prop) : Prop := ts.all (T.isS 50) = true ∧ (∀ t ∈ ts, ∀ u ∈ ts, T.cok 50 t u = true) ∧ (ts.all fStr = true ∨ ts.all fTup = true) ∧
  ∀ ys : List T, ys.Perm ts → ys.Pairwise (fun a b => lexN (T.cw b) (T.cw a) = false) → k (.fr ys)
section
variable {Z : List Addr} {X : Cx} {pins : List (Addr × Obj)} {σ : L2.St} {H : Hp} {s : Shared} {M : Ms}
theorem VTs.mem {K : Fg} {vs : List V} {ts : List T} (h : VTs K M H vs ts) : ∀ v ∈ vs, ∃ t ∈ ts, VT K M H v t := by
  intro v hv
  induction ts generalizing vs with
  | nil => cases h; simp at hv
  | cons t ts ih =>
    cases h with
    | cons a as =>
      rcases List.mem_cons.mp hv with rfl | hv
      · exact ⟨t, List.mem_cons_self, a⟩
      · obtain ⟨t', m, h⟩ := ih as hv
        exact ⟨t', List.mem_cons_of_mem _ m, h⟩
open Classical in
/-- the code word of what lies at v -/
noncomputable def cwV (Z : List Addr) (X : Cx) (M : Ms) (H : Hp) (v : V) : List Nat := if h : ∃ t, T.isS 50 t = true ∧ VT (kz Z X) M H v t then T.cw (Classical.choose h) else []
theorem cwV_eq (I : Inv X pins σ H s) {v : V} {t : T} (hs : T.isS 50 t = true) (h : VT (kz Z X) M H v t) : cwV Z X M H v = T.cw t := by
  have e : ∃ t, T.isS 50 t = true ∧ VT (kz Z X) M H v t := ⟨t, hs, h⟩
  unfold cwV
  rw [dif_pos e]
  obtain ⟨h1, h2⟩ := Classical.choose_spec e
  rw [VT.injS I 50 _ _ v h1 hs h2 h]
theorem firsts_T (I : Inv X pins σ H s) {L : Value → Prop} (c : T → Prop) (hc : ∀ t v, c t → VT (kz Z X) M H v t → ∃ x f r us vs, t = .tup (x :: r) ∧ v = .ref f ∧ SqT X.K H f (us :: vs) ∧ ∀ u, RelV us u → L u) :
    ∀ (ts : List T) (vs : List V) (us : List Value), (∀ t ∈ ts, c t) → VTs (kz Z X) M H vs ts → Vals vs us → ∃ fs, PySem.W.KatTups s.heap us fs ∧ fs.length = us.length ∧ ∀ f ∈ fs, L f
  | [], _, _, _, .nil, .nil => ⟨[], trivial, rfl, fun f hf => by simp at hf⟩
  | t :: ts, _, _, h, .cons a as, .cons r rs => by
    obtain ⟨fs, k, hl, hi⟩ := firsts_T I c hc ts _ _ (fun t ht => h t (List.mem_cons_of_mem _ ht)) as rs
    obtain ⟨x, f, r', w, ws, rfl, rfl, e, ht⟩ := hc t _ (h t List.mem_cons_self) a
    obtain ⟨its, rv, ⟨o, ho, hcl, n, hd⟩, _⟩ := I.tuple e
    cases rv with
    | cons q qs =>
      cases r
      exact ⟨_ :: fs, PySem.W.KatTups.cons ho hcl hd rfl k, by rw [List.length_cons, List.length_cons, hl], fun g hg => by
        rcases List.mem_cons.mp hg with rfl | hg
        · exact ht _ q
        · exact hi g hg⟩
theorem vtStr {v : V} {x : Str} (h : VT (kz Z X) M H v (.str x)) : v = .str x := by cases h; rfl
/-- the sort of such a list, at any heap that keeps what stood -/
theorem sortableT (I : Inv X pins σ H s) {A : Around} {ts : List T} {vs : List V} {us : List Value} (hu : A.units + 110 < cLine) (h2 : 2 ≤ us.length) (hs : VTs (kz Z X) M H vs ts) (rv : Vals vs us)
    (h1 : ts.all (T.isS 50) = true) (hc : ∀ t ∈ ts, ∀ u ∈ ts, T.cok 50 t u = true) (hf : ts.all fStr = true ∨ ts.all fTup = true) :
    ∃ κ, (∀ (Q : SortKind → Shared → Prop) (E : Value → Shared → Prop), Q κ s → wpAny (model X.prog X.w) A (keyKind' us.toArray) Q E s) ∧
      SrtO.Cmp X.prog X.w A s κ (fun p => p.1 ∈ us) (SrtO.lt2 fun u u' => lexN (cwV Z X M H (backV u)) (cwV Z X M H (backV u'))) := by
  have isT : ∀ t ∈ ts, ∃ r, t = .tup r := fun t ht => by
    rcases hf with hf | hf
    · have := List.all_eq_true.mp hf t ht
      unfold fStr at this
      split at this
      · exact ⟨_, rfl⟩
      · cases this
    · have := List.all_eq_true.mp hf t ht
      unfold fTup at this
      split at this
      · exact ⟨_, rfl⟩
      · cases this
  -- an item of the list
  have item : ∀ u ∈ us, ∃ (a : Addr) (r : List T) (ws : List V) (its : List Value), u = .ref a ∧ T.tup r ∈ ts ∧ VT (kz Z X) M H (.ref a) (.tup r) ∧ VTs (kz Z X) M H ws r ∧ Vals ws its ∧ IsTup s.heap a its.toArray := fun u hm => by
    obtain ⟨i, hi, e⟩ := List.mem_iff_getElem.mp hm
    have hl := rv.length
    have hv : vs[i]? = some vs[i] := List.getElem?_eq_getElem (by omega)
    obtain ⟨u', eu, ru⟩ := rv.get hv
    rw [List.getElem?_eq_getElem hi, e] at eu
    cases eu
    obtain ⟨t, ht, hvt⟩ := hs.mem vs[i] (List.getElem_mem _)
    obtain ⟨r, rfl⟩ := isT t ht
    generalize vs[i] = v at ru hvt
    have hvt' := hvt
    cases hvt with
    | tup e1 hs1 =>
      cases ru
      obtain ⟨its, r1, p1, _⟩ := I.tuple e1
      exact ⟨_, r, _, its, rfl, ht, hvt', hs1, r1, p1⟩
  have cmp : ∀ b : Bool, (b = true → ts.all fStr = true) → SrtO.Cmp X.prog X.w A s (tuples' b) (fun p => p.1 ∈ us) (SrtO.lt2 fun u u' => lexN (cwV Z X M H (backV u)) (cwV Z X M H (backV u'))) := fun b hb p q hp hq => by
    obtain ⟨a1, r1, w1, i1, e1, m1, v1, s1, q1, o1⟩ := item p.1 hp
    obtain ⟨a2, r2, w2, i2, e2, m2, v2, s2, q2, o2⟩ := item q.1 hq
    have hS := List.all_eq_true.mp h1
    have c1 : cwV Z X M H (backV p.1) = T.cw (.tup r1) := by rw [e1]; exact cwV_eq I (hS _ m1) v1
    have c2 : cwV Z X M H (backV q.1) = T.cw (.tup r2) := by rw [e2]; exact cwV_eq I (hS _ m2) v2
    show wpAny (model X.prog X.w) A (keyLt' (tuples' b) p.1 q.1) (fun r s' => s' = s ∧ r = lexN (cwV Z X M H (backV p.1)) (cwV Z X M H (backV q.1))) (fun _ _ => False) s
    rw [c1, c2, e1, e2]
    obtain ⟨ob1, g1, _, n1, d1⟩ := o1
    obtain ⟨ob2, g2, _, n2, d2⟩ := o2
    refine PySem.W.kat_lt g1 d1 g2 d2 ?_
    have cc := hc _ m1 _ m2
    refine katLex_T I (n := 49) (by omega) r1 r2 w1 w2 i1 i2 _ 0 (hS _ m1) (hS _ m2) cc s1 s2 q1 q2 (fun z => ?_) ?_ ?_
    · have hb' := List.all_eq_true.mp (hb (by simpa using z))
      have k1 := hb' _ m1
      have k2 := hb' _ m2
      unfold fStr at k1 k2
      split at k1
      · next x r e =>
        cases e
        split at k2
        · next y r' e' =>
          cases e'
          exact ⟨⟨_, _, rfl⟩, _, _, rfl⟩
        · cases k2
      · cases k1
    · have l1 := q1.length
      have l2 := q2.length
      have l3 := s1.length
      have l4 := s2.length
      rw [List.size_toArray, List.size_toArray, ← l1, ← l2, l3, l4]
    · refine ⟨rfl, ?_⟩
      show lexN (T.cws r1 ++ [0]) (T.cws r2 ++ [0]) = lexN (2 :: (T.cws r1 ++ [0])) (2 :: (T.cws r2 ++ [0]))
      simp [lexN]
  rcases hf with hf | hf
  · obtain ⟨fs, k1, k2, k3⟩ := firsts_T I (L := fun f => ∃ x tk, f = Value.str x tk) (fun t => fStr t = true) (fun t v hc hv => by
      unfold fStr at hc
      split at hc
      · next x r =>
        cases hv with
        | tup e hs =>
          cases hs with
          | cons a as =>
            have := vtStr a
            subst this
            exact ⟨_, _, _, _, _, rfl, rfl, e, fun u ⟨tk, q⟩ => ⟨x, tk, q⟩⟩
      · cases hc) ts vs us (List.all_eq_true.mp hf) hs rv
    refine ⟨tuples' true, fun Q E hq => ?_, cmp true fun _ => hf⟩
    refine PySem.W.kat_kind (T := .type "str") k1 (by omega) (fun f hm => ?_) (by rfl) ?_
    · obtain ⟨x, tk, rfl⟩ := k3 f hm
      exact PySem.W.Looks.now
    · have e : (Value.type "str" != Value.type "tuple") = true := by first | decide +kernel | rfl | decide
      rw [e]
      exact hq
  · obtain ⟨fs, k1, k2, k3⟩ := firsts_T I (L := fun f => ∃ (q : Addr) (o : Obj), f = Value.ref q ∧ s.heap.get? q = some o ∧ o.cls = .type "tuple") (fun t => fTup t = true) (fun t v hc hv => by
      unfold fTup at hc
      split at hc
      · next x r =>
        cases hv with
        | tup e hs =>
          cases hs with
          | cons a as =>
            cases a with
            | tup e2 hs2 =>
              obtain ⟨its, rv2, ⟨o, ho, hcl, _⟩, _⟩ := I.tuple e2
              exact ⟨_, _, _, _, _, rfl, rfl, e, fun u q => ⟨_, o, q, ho, hcl⟩⟩
      · cases hc) ts vs us (List.all_eq_true.mp hf) hs rv
    refine ⟨tuples' false, fun Q E hq => ?_, cmp false fun z => by cases z⟩
    refine PySem.W.kat_kind (T := .type "tuple") k1 (by omega) (fun f hm => ?_) (by rfl) ?_
    · obtain ⟨q, o, rfl, ho, hcl⟩ := k3 f hm
      rw [← hcl]
      exact (PySem.W.Looks.ld ho).andThen .now
    · have e : (Value.type "tuple" != Value.type "tuple") = false := by first | decide +kernel | rfl | decide
      rw [e]
      exact hq
end
end N1
namespace N1
open PySem PySem.Spec PyProof.Rows L2 PySem.SeqAt
/-- sorted(xs): texts, or tuples of texts and tuples -/
structure SortedW (ts : List T) (k : Tok → Prop) : Prop where
  onStrs : ∀ xs : List Str, strsOf ts = some xs → ∀ ys : List Str, ys.Perm xs → sortedS ys = true → k (.fr (ys.map .str))
  onTups : strsOf ts = none → bSortedP ts k
def bSorted : List T → (Tok → Prop) → Prop
  | [.lst ts], k => SortedW ts k
  | [.tup ts], k => SortedW ts k
  | [.lsk ts], k => SortedW ts k
  | _, _ => False
/-! what sorted() takes out of a list or a tuple -/
section
variable {prog : Program} {w : World} {A : Around} {E : Value → Shared → Prop} {s : Shared}
theorem collect_tup {l : Addr} {vs : List Value} {Q : List Value → Shared → Prop} (hl : s.heap.IsTuple l vs.toArray)
    (h : Q vs { s with heap := (s.heap.push (seqObj "list" #[] 0)).update s.heap.objs.size (Obj.mapSeq (· ++ vs.toArray)) }) (hsz : vs.length ≤ sizeLine) :
    wpAny (model prog w) A (collect (.ref l)) Q E s := by
  obtain ⟨o, ho, hc, n, hd⟩ := id hl
  unfold collect
  refine wpAny_bind (wpAny_runValue (codeAny_builtin entry_proto_collect' ?_))
  show wpAny _ _ (do again (.builtin "list.__iadd__" ⟨[← newList [], .ref l], []⟩)) _ _ s
  refine wpAny_bind (wpAny_newList (wpAny_pure ⟨Code.quiet_builtin _ (by decide +kernel), codeAny_builtin entry_list_iadd' ?_⟩))
  show wpAny _ _ (Builtin.List.listExtendWith (.ref s.heap.objs.size) (.ref l) (.ref s.heap.objs.size)) _ _ { s with heap := s.heap.push (seqObj "list" #[] 0) }
  unfold Builtin.List.listExtendWith
  have ho' : (s.heap.push (seqObj "list" #[] 0)).get? l = some o := Heap.get?_push_of_some _ ho
  refine wpAny_bind (wpAny_typeOf (T := "tuple") ⟨o, ho', hc⟩ ?_)
  have ht : (Value.type "tuple" == Value.type "tuple") = true := by rfl
  rw [if_pos (by rw [ht]; simp)]
  refine wpAny_bind (listItems_at ho' hd ?_)
  refine wpAny_bind (listItems_at (xs := #[]) (n := 0) (Heap.get?_push_size _ rfl) rfl ?_)
  rw [if_neg (by simp)]
  refine wpAny_bind (listUpdate_at (xs := #[]) (n := 0) (Heap.get?_push_size _ rfl) rfl ?_ (Nat.zero_le _) (by show (#[] ++ vs.toArray).size ≤ sizeLine + 1; simp only [Array.size_append, List.size_toArray, List.length_nil]; omega))
  refine wpAny_pure ?_
  show wpAny (model prog w) A (do
      let o ← load s.heap.objs.size
      match o.data with
      | .seq xs _ => pure xs.toList
      | _ => unsupported "internal:collect") Q E { s with heap := (s.heap.push (seqObj "list" #[] 0)).update s.heap.objs.size (Obj.mapSeq (· ++ vs.toArray)) }
  refine wpAny_bind (wpAny_load (get?_update_seq (Heap.get?_push_size _ rfl) _) ?_)
  show wpAny _ _ (pure ((#[] : Array Value) ++ vs.toArray).toList) Q E _
  rw [show ((#[] : Array Value) ++ vs.toArray).toList = vs by simp]
  exact wpAny_pure h
open SrtO Srt in
theorem sorted_ordA {l : Addr} {vs : List Value} {ltv : Value → Value → Bool} {Q : Value → Shared → Prop} (O : Swo ltv) (hl : s.heap.IsList l vs.toArray ∨ s.heap.IsTuple l vs.toArray) (hz : vs.length ≤ sizeLine)
    (hS : 2 ≤ vs.length → ∀ (h₁ : Heap) (a : Addr), h₁.get? a = some (seqObj "list" vs.toArray 0) → (∀ b o, s.heap.get? b = some o → b ≠ a ∧ h₁.get? b = some o) → SortableO prog w A.in1.in1 { s with heap := h₁ } a vs ltv)
    (h : ∀ out : List Value, Srtd ltv out → Stb ltv out vs → Q (.ref (s.heap.objs.size + 1)) { s with heap := sortedAll s.heap vs out.toArray }) :
    wpAny (model prog w) A (call (.builtin "sorted") [.ref l]) Q E s := by
  rcases hl with hl | hl
  · exact sorted_ord O hl hz hS h
  refine Calls.call_function_entry kind_sorted plain_sorted entry_sorted (args_sorted1 _) ?_
  unfold Builtin.«sorted»
  refine wpAny_bind (m := checkCount "sorted" 1 1 _) (wpAny_pure ?_)
  refine wpAny_bind (collect_tup hl ?_ hz)
  refine wpAny_bind (wpAny_newList ?_ hz)
  have hsz : ((s.heap.push (seqObj "list" #[] 0)).update s.heap.objs.size (Obj.mapSeq (· ++ vs.toArray))).objs.size = s.heap.objs.size + 1 := by
    rw [Heap.size_update, size_push']
  have hoL : (((s.heap.push (seqObj "list" #[] 0)).update s.heap.objs.size (Obj.mapSeq (· ++ vs.toArray))).push (seqObj "list" vs.toArray 0)).get? (s.heap.objs.size + 1) = some (seqObj "list" vs.toArray 0) := by
    rw [← hsz]; exact Heap.get?_push_size _ rfl
  have keep : ∀ b o, s.heap.get? b = some o → b ≠ s.heap.objs.size + 1 ∧ (((s.heap.push (seqObj "list" #[] 0)).update s.heap.objs.size (Obj.mapSeq (· ++ vs.toArray))).push (seqObj "list" vs.toArray 0)).get? b = some o := fun b o q => by
    have hlt : b < s.heap.objs.size := Heap.lt_size q
    refine ⟨Nat.ne_of_lt (Nat.lt_succ_of_lt hlt), Heap.get?_push_of_some _ ?_⟩
    rw [Heap.get?_update_ne _ _ _ _ (Nat.ne_of_lt hlt)]
    exact Heap.get?_push_of_some _ q
  show wpAny _ _ _ _ _ { s with heap := ((s.heap.push (seqObj "list" #[] 0)).update s.heap.objs.size (Obj.mapSeq (· ++ vs.toArray))).push (seqObj "list" vs.toArray 0) }
  rw [hsz]
  refine wpAny_bind (wpAny_holding (wpAny_call_entry slot_list_sort ⟨_, hoL, rfl⟩ entry_list_sort (list_sort_ord O hoL hz (fun h2 => hS h2 _ _ hoL keep) fun out hs hb => ⟨_, rfl, ?_⟩) (args_list_sort _)))
  exact wpAny_pure ⟨_, rfl, h out hs hb⟩
/-! texts, any number of them -/
def ltSv (v u : Value) : Bool := ltCps (strOf v).cps.toList (strOf u).cps.toList
theorem swo_str : SrtO.Swo ltSv := by
  refine ⟨fun x y h => ?_, fun x y z h1 h2 => ?_⟩
  · unfold ltSv at h ⊢
    rw [ltCps_eq] at h ⊢
    have a := of_decide_eq_true h
    exact decide_eq_false fun b => absurd (List.lt_trans a b) (List.lt_irrefl _)
  · unfold ltSv at h1 h2 ⊢
    rw [ltCps_eq] at h1 h2 ⊢
    have a := of_decide_eq_false h1
    have b := of_decide_eq_false h2
    exact decide_eq_false fun c => by
      rcases Decidable.em ((strOf x).cps.toList < (strOf y).cps.toList) with q | q
      · exact b (List.lt_trans c q)
      · have e : (strOf x).cps.toList = (strOf y).cps.toList := List.le_antisymm (List.not_lt.mp a) (List.not_lt.mp q)
        rw [e] at c
        exact b c
theorem str_cmp {vs : List Value} {ss : List Str} (hI : StrsAre vs ss) : SrtO.Cmp prog w A s oneType' (fun p => p.1 ∈ vs) (SrtO.lt2 ltSv) := by
  intro p q hm hm'
  obtain ⟨a, t, e⟩ := hI.all _ hm
  obtain ⟨b, u, e'⟩ := hI.all _ hm'
  show wpAny (model prog w) A (keyLt' oneType' p.1 q.1) (fun r s' => s' = s ∧ r = ltSv p.1 q.1) (fun _ _ => False) s
  rw [e, e', keyLt'_oneType]
  exact oneLt_str ⟨rfl, (ltCps_eq _ _).symm⟩
theorem strs_sortable {a : Addr} {vs : List Value} {ss : List Str} (hI : StrsAre vs ss) (h2 : 2 ≤ vs.length) : SrtO.SortableO prog w A s a vs ltSv := by
  intro h' _
  refine ⟨oneType', fun Q E hq => ?_, str_cmp hI⟩
  match vs, hI, h2 with
  | v1 :: v2 :: rest, hI, _ =>
    rw [keyKind_strs hI]
    exact wpAny_pure hq
  | [], _, h => exact absurd h (by decide)
  | [v], _, h => exact absurd h (by simp)
theorem strs_out {vs out : List Value} {ss : List Str} (hI : StrsAre vs ss) (hs : SrtO.Srtd ltSv out) (hb : SrtO.Stb ltSv out vs) : StrsAre out (out.map strOf) ∧ (out.map strOf).Perm ss ∧ sortedS (out.map strOf) = true := by
  refine ⟨strsAre_map out fun v hv => hI.all v (hb.perm.mem_iff.mp hv), ?_, ?_⟩
  · have q := hb.perm.map strOf
    rw [hI.strs] at q
    exact q
  · exact sortedS_of_pairwise _ (List.pairwise_map.mpr (hs.imp fun {x y} h => h))
end
section
variable {Z : List Addr} {X : Cx}
theorem refs_T {K : Fg} {M : Ms} {H : Hp} : ∀ {vs : List V} {ts : List T}, VTs K M H vs ts → (ts.all fStr = true ∨ ts.all fTup = true) → ∀ x ∈ vs, ∃ a, x = V.ref a := fun {vs ts} hs hf x hx => by
  obtain ⟨t, ht, h⟩ := hs.mem x hx
  have : ∃ r, t = .tup r := by
    rcases hf with hf | hf
    · have := List.all_eq_true.mp hf t ht
      unfold fStr at this
      split at this
      · exact ⟨_, rfl⟩
      · cases this
    · have := List.all_eq_true.mp hf t ht
      unfold fTup at this
      split at this
      · exact ⟨_, rfl⟩
      · cases this
  obtain ⟨r, rfl⟩ := this
  cases h
  exact ⟨_, rfl⟩
theorem map_cw {pins : List (Addr × Obj)} {σ : L2.St} {H : Hp} {s : Shared} {M : Ms} (I : Inv X pins σ H s) : ∀ (ys : List T) (ws : List V), ys.all (T.isS 50) = true → VTs (kz Z X) M H ws ys → ws.map (cwV Z X M H) = ys.map T.cw
  | _, _, _, .nil => rfl
  | _, _, h, .cons b bs => by
    rw [List.all_cons, Bool.and_eq_true] at h
    rw [List.map_cons, List.map_cons, cwV_eq I h.1 b, map_cw I _ _ h.2 bs]
theorem swo_lexN {α : Type} (k : α → List Nat) : SrtO.Swo fun u v => lexN (k u) (k v) := ⟨fun x y h => lexN_asym _ _ h, fun x y z h1 h2 => lexN_neg _ _ _ h2 h1⟩
theorem sorted_core (hw : X.A.units + 130 < cLine) {pins : List (Addr × Obj)} {s : Shared} {σ : L2.St} {H : Hp} {O : Ms} {io : List Addr} {α : List (Option Addr)} {τ : DSt} {ρ : L2.St} {ts : List T} {k : Tok → Prop} {Q : VK} {a : Addr} {vs : List V} {its : List Value}
    (I : Inv X pins σ H s) (n : Now (kz Z X) O io none α τ ρ H) (hs : VTs (kz Z X) (Mu O α none) H vs ts) (rv : Vals vs its) (hl : s.heap.IsList a its.toArray ∨ s.heap.IsTuple a its.toArray) (hz : vs.length ≤ sizeLine) (q1 : SortedW ts k)
    (fin : ∀ z H', ResQ (kz Z X) O io α τ ρ H k z H' → Q z H') : wpAny (model X.prog X.w) X.A (call (.builtin "sorted") [.ref a]) (EP X pins σ Q) X.xe s := by
  cases e : strsOf ts with
  | some xs' =>
    have q := q1.onStrs xs' e
    obtain ⟨ev, ho⟩ := hs.strsOf e
    subst ev
    have hi := rv.strs
    refine sorted_ordA swo_str hl (by rw [← rv.length]; exact hz) (fun h2 h₁ a' _ _ => strs_sortable hi h2) fun out h1 h2 => ?_
    obtain ⟨k1, k2, k3⟩ := strs_out hi h1 h2
    obtain ⟨ep, he'⟩ := PyProof.Rows.sortedAll_at s.heap its out.toArray
    have hlen : ((out.map strOf).map V.str).length ≤ sizeLine := by
      rw [List.length_map, k2.length_eq]
      rw [List.length_map] at hz
      exact hz
    exact ⟨.ref _, upd H (s.heap.objs.size + 1) (.lst ((out.map strOf).map V.str)), I.laid (t' := s.toks) (fun _ _ => PyProof.Rows.sortedAll_old) (Nat.le_succ _) ⟨hlen, out, ep, vals_of_strs k1, he'⟩, rfl,
      fin _ _ (ResQ.lst n (VTs.ofStrs fun y hy => ho y (k2.mem_iff.mp hy)) (q _ k2 k3) _ (I.hok.fresh (Nat.le_succ _)))⟩
  | none =>
    obtain ⟨h1, h2, h3, h4⟩ := q1.onTups e
    clear e
    have rf := refs_T hs h3
    obtain ⟨e1, e2⟩ := refs_back rv rf
    refine sorted_ordA (ltv := fun u u' => lexN (cwV Z X (Mu O α none) H (backV u)) (cwV Z X (Mu O α none) H (backV u'))) (swo_lexN fun u => cwV Z X (Mu O α none) H (backV u)) hl (by rw [← rv.length]; exact hz) (fun h2' h₁ d hd kk h' keep => ?_) fun out hsr hst => ?_
    · have kp : ∀ b o, s.heap.get? b = some o → h'.get? b = some o := fun b o eb => keep b o (kk b o eb).1 (kk b o eb).2
      have I' : Inv X pins σ H { s with heap := h' } := I.kept (t' := s.toks) kp
      exact sortableT I' (A := X.A.in1.in1) (show X.A.units + 1 + 1 + 110 < cLine by omega) h2' hs rv h1 h2 h3
    · have p1 : (out.map backV).Perm vs := by
        rw [e1]
        exact hst.perm.map backV
      obtain ⟨ys, py, hy⟩ := VTs.perm p1 hs
      have ho : ∀ u ∈ out, ∃ a, u = Value.ref a := fun u hu => e2 u (hst.perm.mem_iff.mp hu)
      have hsorted : ys.Pairwise fun a b => lexN (T.cw b) (T.cw a) = false := by
        have hm : (out.map backV).map (cwV Z X (Mu O α none) H) = ys.map T.cw := by
          have all : ys.all (T.isS 50) = true := by
            rw [List.all_eq_true] at h1 ⊢
            exact fun x hx => h1 x (py.mem_iff.mp hx)
          exact map_cw I ys _ all hy
        have : ((out.map backV).map (cwV Z X (Mu O α none) H)).Pairwise fun a b => lexN b a = false := by
          rw [List.map_map]
          exact List.pairwise_map.mpr hsr
        rw [hm] at this
        exact List.pairwise_map.mp this
      obtain ⟨m, hn⟩ := PyProof.Rows.sortedAll_at s.heap its out.toArray
      have hd : s.heap.objs.size ≤ s.heap.objs.size + 1 := Nat.le_succ _
      refine ⟨.ref _, upd H (s.heap.objs.size + 1) (.lst (out.map backV)), I.laid (t' := s.toks) (fun b o eb => PyProof.Rows.sortedAll_old eb) hd ⟨?_, out, m, vals_back ho, hn⟩, rfl, fin _ _ (ResQ.lst n hy (h4 ys py hsorted) _ (I.hok.fresh hd))⟩
      rw [p1.length_eq]
      exact hz
theorem cd_sorted (hw : X.A.units + 130 < cLine) : CallD Z X (.builtin "sorted") bSorted := by
  intro pins s σ H xs us Q I rx ⟨O, io, α, τ, ρ, ts, k, n, c, q, fin⟩
  match ts, q with
  | [.lst ts], q =>
    obtain ⟨v, rfl, c1⟩ := c.one
    obtain ⟨a, vs, rfl, e, hs⟩ := c1.lst
    obtain ⟨u, rfl, ru⟩ := vals1 rx
    obtain rfl : u = Value.ref a := ru
    obtain ⟨its, rv, hl, hz⟩ := I.list (SqL.of e)
    exact sorted_core hw I n hs rv (.inl hl.isList) hz q fin
  | [.lsk ts], q =>
    obtain ⟨v, rfl, c1⟩ := c.one
    obtain ⟨a, vs, rfl, e, hs⟩ := c1.lsk
    obtain ⟨u, rfl, ru⟩ := vals1 rx
    obtain rfl : u = Value.ref a := ru
    obtain ⟨its, rv, hl, hz⟩ := I.list e
    exact sorted_core hw I n hs rv (.inl hl.isList) hz q fin
  | [.tup ts], q =>
    obtain ⟨v, rfl, c1⟩ := c.one
    obtain ⟨a, vs, rfl, e, hs⟩ := c1.tup
    obtain ⟨u, rfl, ru⟩ := vals1 rx
    obtain rfl : u = Value.ref a := ru
    obtain ⟨its, rv, hl, hz⟩ := I.tuple e
    exact sorted_core hw I n hs rv (.inr hl) hz q fin
end
end N1
namespace N1
open PySem PySem.Spec PyProof.Rows L2
theorem roomW {k : Nat} {A : Around} (r : Room k A) : A.units + 130 < cLine := by have := r.un; omega
theorem SortedW.ofStrs {ts : List T} {k : Tok → Prop} (xs : List Str) (e : strsOf ts = some xs) (h : ∀ ys : List Str, ys.Perm xs → sortedS ys = true → k (.fr (ys.map .str))) : SortedW ts k :=
  ⟨fun ys ey => by rw [e] at ey; cases ey; exact h, fun z => by rw [e] at z; cases z⟩
theorem SortedW.ofTups {k : Tok → Prop} {ts : List T} (e : strsOf ts = none) (h : bSortedP ts k) : SortedW ts k := ⟨fun ys ey => by (rw [e] at ey; cases ey), fun _ => h⟩
end N1
namespace N1
open PySem (Str sizeLine)
/-- a loop by its invariant; the row is given with a reason -/
theorem for_in {β : Type} {ts : List T} (xs : List β) {e : β → T} {g : DG} {tb : DS} {D : DEnds} {τ : DSt} (I : List β → DSt → Prop) (et : ts = xs.map e) (h0 : I [] τ)
    (hs : ∀ pre x post, xs = pre ++ x :: post → ∀ τ, I pre τ → ∀ K : DSt → Prop, (∀ τ', I (pre ++ [x]) τ' → K τ') → g (e x) τ fun τ1 => tb { D with nx := K, ct := K, bk := D.nx } τ1)
    (hd : ∀ τ, I xs τ → D.nx τ) : Loop (forL g tb D ts τ) := by
  rw [Loop.eq, et]
  exact for_inv I xs hs hd τ h0
theorem range_in {g : DG} {tb : DS} {D : DEnds} {m : Nat} {lo : Int} {τ : DSt} (n : Nat) (I : Nat → DSt → Prop) (em : m = n) (h0 : I 0 τ)
    (hs : ∀ i, i < n → ∀ τ, I i τ → ∀ K : DSt → Prop, (∀ τ', I (i + 1) τ' → K τ') → g (.int (lo + (i : Nat))) τ fun τ1 => tb { D with nx := K, ct := K, bk := D.nx } τ1)
    (hd : ∀ τ, I n τ → D.nx τ) : Loop (forL g tb D (intsFrom lo m) τ) := by
  rw [Loop.eq, em]
  exact range_inv I n lo hs hd τ h0
/-! ## what formulas say -/
mutual
def Fm.on (p : Str → Bool) : Fm → Bool
  | .at x => p x
  | .no m => !Fm.on p m
  | .nd b ms => Fm.ons p b ms
def Fm.ons (p : Str → Bool) : Bool → List Fm → Bool
  | b, [] => b
  | b, m :: ms => if Fm.on p m = b then Fm.ons p b ms else !b
end
mutual
/-- the formula and its members, in order -/
def Fm.wit : Fm → List Fm
  | .at x => [.at x]
  | .no m => .no m :: Fm.wit m
  | .nd b ms => .nd b ms :: Fm.wits ms
def Fm.wits : List Fm → List Fm
  | [] => []
  | m :: ms => Fm.wit m ++ Fm.wits ms
end
theorem Fm.wits_app (a b : List Fm) : Fm.wits (a ++ b) = Fm.wits a ++ Fm.wits b := by
  induction a with
  | nil => rfl
  | cons x a ih => show Fm.wit x ++ Fm.wits (a ++ b) = Fm.wit x ++ Fm.wits a ++ Fm.wits b; rw [ih, List.append_assoc]
theorem Fm.ons_skip (p : Str → Bool) (b : Bool) : ∀ (pre post : List Fm), (∀ m ∈ pre, Fm.on p m = b) → Fm.ons p b (pre ++ post) = Fm.ons p b post
  | [], _, _ => rfl
  | m :: pre, post, h => by
    show (if Fm.on p m = b then Fm.ons p b (pre ++ post) else !b) = _
    rw [if_pos (h m List.mem_cons_self), Fm.ons_skip p b pre post fun x hx => h x (List.mem_cons_of_mem _ hx)]
theorem Fm.nests_le {ms : List Fm} {n : Nat} (h : ∀ m ∈ ms, Fm.nest m ≤ n) : Fm.nests ms ≤ n := by
  induction ms with
  | nil => exact Nat.zero_le _
  | cons x ms ih => exact Nat.max_le.mpr ⟨h x List.mem_cons_self, ih fun m hm => h m (List.mem_cons_of_mem _ hm)⟩
theorem Fm.wit_self (m : Fm) : m ∈ Fm.wit m := by cases m <;> exact List.mem_cons_self
mutual
theorem Fm.wit_nest : ∀ (m x : Fm), x ∈ Fm.wit m → Fm.nest x ≤ Fm.nest m
  | .at y, x, h => by
    rw [List.mem_singleton.mp h]
    exact Nat.le_refl _
  | .no m, x, h => by
    rcases List.mem_cons.mp h with rfl | h
    · exact Nat.le_refl _
    · exact Nat.le_succ_of_le (Fm.wit_nest m x h)
  | .nd b ms, x, h => by
    rcases List.mem_cons.mp h with rfl | h
    · exact Nat.le_refl _
    · exact Nat.le_succ_of_le (Fm.wits_nest ms x h)
theorem Fm.wits_nest : ∀ (ms : List Fm) (x : Fm), x ∈ Fm.wits ms → Fm.nest x ≤ Fm.nests ms
  | [], x, h => by cases h
  | m :: ms, x, h => by
    show _ ≤ max _ _
    rcases List.mem_append.mp h with h | h
    · have := Fm.wit_nest m x h
      omega
    · have := Fm.wits_nest ms x h
      omega
end
mutual
theorem Fm.wit_len : ∀ m : Fm, (Fm.wit m).length = Fm.sz m
  | .at _ => rfl
  | .no m => by
    show (Fm.wit m).length + 1 = 1 + _
    rw [Fm.wit_len m]; omega
  | .nd b ms => by
    show (Fm.wits ms).length + 1 = 1 + Fm.szs ms
    rw [Fm.wits_len ms]; omega
theorem Fm.wits_len : ∀ ms : List Fm, (Fm.wits ms).length = Fm.szs ms
  | [] => rfl
  | m :: ms => by
    show (Fm.wit m ++ Fm.wits ms).length = _ + _
    rw [List.length_append, Fm.wit_len m, Fm.wits_len ms]
end
theorem Fm.sz_pos (m : Fm) : 0 < Fm.sz m := by cases m <;> (unfold Fm.sz; omega)
end N1
namespace N1
theorem lc_over {β : Type} {ts : List T} {i : Nat} {te : DE} {Q : DK} {τ : DSt} (e f : β → T) (xs : List β) (et : ts = xs.map e) (hw : ∀ s, wipeT (setSlot τ i s) [i] = τ)
    (hx : ∀ x ∈ xs, ∀ K : DK, K (.v (f x)) (setSlot τ i (some (.val (e x)))) → te (setSlot τ i (some (.val (e x)))) K) (h : Q (.fr (xs.map f)) τ) : Loop (lcL [i] (dgName i) dYes te Q ts [] τ) := by
  rw [Loop.eq, et]
  exact lc_pure e f hw xs [] hx h
end N1
namespace N1
theorem withInts.by {ts : List T} (ns : List Int) {c : List Int → Prop} (e : ts = ns.map .int) (h : c ns) : withInts ts c := by
  rw [e]; exact withInts.of h
theorem withStrs.by {ts : List T} (ns : List PySem.Str) {c : List PySem.Str → Prop} (e : ts = ns.map .str) (h : c ns) : withStrs ts c := by
  rw [e]; exact withStrs.of h
theorem Fm.sum_sz : ∀ ms : List Fm, (ms.map fun m => (Fm.sz m : Int)).sum = (Fm.szs ms : Nat)
  | [] => rfl
  | m :: ms => by
    rw [List.map_cons, List.sum_cons, Fm.sum_sz ms]
    show (Fm.sz m : Int) + (Fm.szs ms : Nat) = ((Fm.sz m + Fm.szs ms : Nat) : Int)
    omega
theorem Fm.sz_no (m : Fm) : (Fm.sz (.no m) : Int) = 1 + Fm.sz m := by
  show ((1 + Fm.sz m : Nat) : Int) = _
  omega
theorem Fm.sz_nd (b : Bool) (ms : List Fm) : (Fm.sz (.nd b ms) : Int) = 1 + Fm.szs ms := by
  show ((1 + Fm.szs ms : Nat) : Int) = _
  omega
end N1
namespace N1
theorem k_sa : ¬ kd false = PySem.Str.ofString "all" := by decide +kernel
theorem k_as : ¬ kd true = PySem.Str.ofString "some" := by decide +kernel
end N1
namespace N1
theorem dedup_len : ∀ (acc xs : List PySem.Str), (dedup acc xs).length ≤ acc.length + xs.length
  | acc, [] => Nat.le_refl _
  | acc, x :: xs => by
    unfold dedup
    split
    · have := dedup_len acc xs
      rw [List.length_cons]; omega
    · have := dedup_len (acc ++ [x]) xs
      rw [List.length_append, List.length_singleton] at this
      rw [List.length_cons]; omega
theorem len_app (x y : PySem.Str) : (x ++ y).length = x.length + y.length := Array.size_append
theorem len_one (c : Nat) : (⟨#[c]⟩ : PySem.Str).length = 1 := rfl
end N1
namespace N1
theorem tbl (ws : List Int) {i : Int} (h0 : 0 ≤ i) (h1 : i < ws.length) : ∃ w, atT (ws.map T.int) i = some (.int w) ∧ w ∈ ws := by
  obtain ⟨w, e, m⟩ := atT_in h0 h1
  exact ⟨w, by rw [atT_map, e]; rfl, m⟩
end N1
namespace N1
open PySem (Str)
theorem pickName {names : List Str} (h : 0 < names.length) (v : Int) : ∃ x, atT (names.map T.str) (v % ((names.map T.str).length : Nat)) = some (.str x) ∧ x ∈ names := by
  obtain ⟨x, e, m⟩ := atT_in (ts := names) (i := v % ((names.map T.str).length : Nat)) (Int.emod_nonneg _ (by rw [List.length_map]; omega)) (by rw [List.length_map]; exact Int.emod_lt_of_pos _ (by omega))
  exact ⟨x, by rw [atT_map, e]; rfl, m⟩
theorem pickKd {v : Int} (h0 : 0 ≤ v) (h1 : v < 2) : ∃ b, atT [T.str (Str.ofString "all"), T.str (Str.ofString "some")] v = some (.str (kd b)) := by
  have : v = 0 ∨ v = 1 := by omega
  rcases this with rfl | rfl
  · exact ⟨true, rfl⟩
  · exact ⟨false, rfl⟩
end N1
namespace N1
theorem Fm.enc_nd (b : Bool) (ms : List Fm) : Fm.enc (.nd b ms) = .tup [.str (kd b), .tup (ms.map Fm.enc)] := by
  rw [← Fm.encs_eq]; rfl
end N1
namespace N1
theorem Br.or {c d : Bool} {A B : Prop} (a : A) (b : B) : Br c (Br true A B) (Br d A B) := ⟨fun _ => .yes rfl a, fun _ => ⟨fun _ => a, fun _ => b⟩⟩
end N1
namespace N1
open PySem (Str sizeLine)
/-! ## rows in ascending order without doubles: texts, tuples -/
theorem lexN_tr (a b c : List Nat) (h1 : lexN a b = true) (h2 : lexN b c = true) : lexN a c = true := by
  cases h : lexN a c with
  | true => rfl
  | false =>
    have := lexN_neg _ _ _ h (lexN_asym _ _ h2)
    rw [h1] at this
    cases this
def ltT (a b : T) : Bool := lexN (T.cw a) (T.cw b)
theorem ltT_irr (a : T) : ltT a a = false := lexN_irr _
theorem ltT_tr {a b c : T} (h1 : ltT a b = true) (h2 : ltT b c = true) : ltT a c = true := lexN_tr _ _ _ h1 h2
theorem lexN_dv : ∀ {a b : List Nat}, Dv a b → lexN a b = true ∨ lexN b a = true
  | _, _, ⟨[], x, y, a, b, rfl, rfl, h⟩ => by
    show (decide (x < y) || (x == y) && lexN a b) = true ∨ (decide (y < x) || (y == x) && lexN b a) = true
    simp only [Bool.or_eq_true, decide_eq_true_eq]
    omega
  | _, _, ⟨c :: p, x, y, a, b, rfl, rfl, h⟩ => by
    have := lexN_dv (a := p ++ x :: a) (b := p ++ y :: b) ⟨p, x, y, a, b, rfl, rfl, h⟩
    simpa [lexN] using this
theorem ltT_tri {n : Nat} {a b : T} (ha : T.isS n a = true) (hb : T.isS n b = true) (h1 : ltT a b = false) (h2 : ltT b a = false) : a = b := Classical.byContradiction fun h => by
  rcases lexN_dv (T.cw_dv n a b ha hb h) with e | e
  · exact absurd (e.symm.trans h1) (by decide)
  · exact absurd (e.symm.trans h2) (by decide)
def insT (x : T) : List T → List T
  | [] => [x]
  | y :: ys => if ltT x y then x :: y :: ys else if ltT y x then y :: insT x ys else y :: ys
def ascT (ts : List T) : List T := ts.foldr insT []
def SAsc (ts : List T) : Prop := ts.Pairwise fun a b => ltT a b = true
theorem insT_mem {n : Nat} {x : T} (hx : T.isS n x = true) : ∀ {ys : List T}, ys.all (T.isS n) = true → ∀ z, z ∈ insT x ys ↔ z = x ∨ z ∈ ys
  | [], _, z => by simp [insT]
  | y :: ys, h, z => by
    rw [List.all_cons, Bool.and_eq_true] at h
    unfold insT
    split
    · simp
    · next h1 =>
      split
      · rw [List.mem_cons, insT_mem hx h.2 z, List.mem_cons]
        constructor
        · rintro (e | e | e)
          · exact .inr (.inl e)
          · exact .inl e
          · exact .inr (.inr e)
        · rintro (e | e | e)
          · exact .inr (.inl e)
          · exact .inl e
          · exact .inr (.inr e)
      · next h2 =>
        have e := ltT_tri hx h.1 (by simpa using h1) (by simpa using h2)
        subst e
        simp
theorem insT_all {n : Nat} {x : T} (hx : T.isS n x = true) {ys : List T} (h : ys.all (T.isS n) = true) : (insT x ys).all (T.isS n) = true := by
  rw [List.all_eq_true]
  intro z hz
  rcases (insT_mem hx h z).mp hz with rfl | hz
  · exact hx
  · exact List.all_eq_true.mp h z hz
theorem insT_asc {n : Nat} {x : T} (hx : T.isS n x = true) : ∀ {ys : List T}, ys.all (T.isS n) = true → SAsc ys → SAsc (insT x ys)
  | [], _, _ => List.pairwise_singleton _ _
  | y :: ys, h, g => by
    rw [List.all_cons, Bool.and_eq_true] at h
    obtain ⟨g1, g2⟩ := List.pairwise_cons.mp g
    unfold insT
    split
    · next h1 =>
      refine List.pairwise_cons.mpr ⟨fun z hz => ?_, g⟩
      rcases List.mem_cons.mp hz with rfl | hz
      · exact h1
      · exact ltT_tr h1 (g1 z hz)
    · split
      · next h2 =>
        refine List.pairwise_cons.mpr ⟨fun z hz => ?_, insT_asc hx h.2 g2⟩
        rcases (insT_mem hx h.2 z).mp hz with rfl | hz
        · exact h2
        · exact g1 z hz
      · exact g
theorem ascT_all {n : Nat} : ∀ {ts : List T}, ts.all (T.isS n) = true → (ascT ts).all (T.isS n) = true
  | [], _ => rfl
  | t :: ts, h => by
    rw [List.all_cons, Bool.and_eq_true] at h
    exact insT_all h.1 (ascT_all h.2)
theorem ascT_mem {n : Nat} : ∀ {ts : List T}, ts.all (T.isS n) = true → ∀ z, z ∈ ascT ts ↔ z ∈ ts
  | [], _, z => by simp [ascT]
  | t :: ts, h, z => by
    rw [List.all_cons, Bool.and_eq_true] at h
    show z ∈ insT t (ascT ts) ↔ _
    rw [insT_mem h.1 (ascT_all h.2), ascT_mem h.2, List.mem_cons]
theorem ascT_asc {n : Nat} : ∀ {ts : List T}, ts.all (T.isS n) = true → SAsc (ascT ts)
  | [], _ => List.Pairwise.nil
  | t :: ts, h => by
    rw [List.all_cons, Bool.and_eq_true] at h
    exact insT_asc h.1 (ascT_all h.2) (ascT_asc h.2)
theorem SAsc.ext : ∀ {xs ys : List T}, SAsc xs → SAsc ys → (∀ x, x ∈ xs ↔ x ∈ ys) → xs = ys
  | [], [], _, _, _ => rfl
  | [], y :: ys, _, _, h => absurd ((h y).mpr List.mem_cons_self) (by simp)
  | x :: xs, [], _, _, h => absurd ((h x).mp List.mem_cons_self) (by simp)
  | x :: xs, y :: ys, h1, h2, h => by
    obtain ⟨a1, b1⟩ := List.pairwise_cons.mp h1
    obtain ⟨a2, b2⟩ := List.pairwise_cons.mp h2
    have nd : ∀ {z : T} {zs : List T}, (∀ w ∈ zs, ltT z w = true) → z ∉ zs := fun a m => by
      have := a _ m
      rw [ltT_irr] at this
      cases this
    have e : x = y := by
      rcases List.mem_cons.mp ((h x).mp List.mem_cons_self) with e | m1
      · exact e
      · rcases List.mem_cons.mp ((h y).mpr List.mem_cons_self) with e | m2
        · exact e.symm
        · have := ltT_tr (a1 y m2) (a2 x m1)
          rw [ltT_irr] at this
          cases this
    subst e
    rw [SAsc.ext b1 b2 fun z => ⟨fun m => (List.mem_cons.mp ((h z).mp (List.mem_cons_of_mem _ m))).resolve_left fun e => nd a1 (e ▸ m), fun m => (List.mem_cons.mp ((h z).mpr (List.mem_cons_of_mem _ m))).resolve_left fun e => nd a2 (e ▸ m)⟩]
theorem SAsc.nodup {xs : List T} (h : SAsc xs) : xs.Nodup := h.imp fun {x y} z e => by
  subst e
  rw [ltT_irr] at z
  cases z
theorem ascT_id {n : Nat} {ts : List T} (h : ts.all (T.isS n) = true) (g : SAsc ts) : ascT ts = ts := (ascT_asc h).ext g fun z => ascT_mem h z
theorem ascT_ext {n m : Nat} {ts us : List T} (h : ts.all (T.isS n) = true) (g : us.all (T.isS m) = true) (e : ∀ z, z ∈ ts ↔ z ∈ us) : ascT ts = ascT us :=
  (ascT_asc h).ext (ascT_asc g) fun z => by rw [ascT_mem h, ascT_mem g, e]
theorem ascT_idem {n : Nat} {ts : List T} (h : ts.all (T.isS n) = true) : ascT (ascT ts) = ascT ts := ascT_id (ascT_all h) (ascT_asc h)
theorem insT_len (x : T) : ∀ ys : List T, (insT x ys).length ≤ ys.length + 1
  | [] => Nat.le_refl _
  | y :: ys => by
    unfold insT
    split
    · exact Nat.le_refl _
    · split
      · have := insT_len x ys; simp only [List.length_cons]; omega
      · simp only [List.length_cons]; omega
theorem ascT_len : ∀ ts : List T, (ascT ts).length ≤ ts.length
  | [] => Nat.le_refl _
  | t :: ts => by
    have h1 := insT_len t (ascT ts)
    have h2 := ascT_len ts
    show (insT t (ascT ts)).length ≤ ts.length + 1
    omega
/-- the loop that leaves out what equals the last one -/
noncomputable def ddT : List T → List T → List T
  | acc, [] => acc
  | acc, x :: xs => open Classical in if acc.getLast? = some x then ddT acc xs else ddT (acc ++ [x]) xs
theorem ddT_ok {n : Nat} : ∀ (xs acc : List T), xs.all (T.isS n) = true → acc.all (T.isS n) = true → SAsc acc → (acc ++ xs).Pairwise (fun a b => ltT b a = false) → SAsc (ddT acc xs) ∧ ∀ x, x ∈ ddT acc xs ↔ x ∈ acc ∨ x ∈ xs
  | [], acc, _, _, h, _ => ⟨h, fun x => by simp [ddT]⟩
  | x :: xs, acc, hx, ha, h, hp => by
    rw [List.all_cons, Bool.and_eq_true] at hx
    unfold ddT
    split
    · next e =>
      have hp' : (acc ++ xs).Pairwise (fun a b => ltT b a = false) := by
        rw [List.pairwise_append] at hp ⊢
        exact ⟨hp.1, (List.pairwise_cons.mp hp.2.1).2, fun a m b mb => hp.2.2 a m b (List.mem_cons_of_mem _ mb)⟩
      obtain ⟨h1, h2⟩ := ddT_ok xs acc hx.2 ha h hp'
      refine ⟨h1, fun y => ?_⟩
      rw [h2, List.mem_cons]
      constructor
      · rintro (z | z)
        · exact .inl z
        · exact .inr (.inr z)
      · rintro (z | rfl | z)
        · exact .inl z
        · exact .inl (List.mem_of_getLast? e)
        · exact .inr z
    · next e =>
      have hp' : (acc ++ [x] ++ xs).Pairwise (fun a b => ltT b a = false) := by rw [List.append_assoc]; exact hp
      have hasc : SAsc (acc ++ [x]) := by
        refine List.pairwise_append.mpr ⟨h, List.pairwise_singleton _ _, fun a ma b mb => ?_⟩
        have eb := List.mem_singleton.mp mb
        subst eb
        have le : ltT b a = false := (List.pairwise_append.mp hp).2.2 a ma b List.mem_cons_self
        cases q : ltT a b with
        | true => rfl
        | false =>
          have eab := ltT_tri (List.all_eq_true.mp ha a ma) hx.1 q le
          subst eab
          exfalso
          have hne : acc ≠ [] := by intro z; subst z; simp at ma
          obtain ⟨bs, l, rfl⟩ : ∃ bs l, acc = bs ++ [l] := ⟨acc.dropLast, acc.getLast hne, (List.dropLast_concat_getLast hne).symm⟩
          have hl : l ≠ a := fun z => e (by rw [z]; simp)
          rcases List.mem_append.mp ma with m | m
          · have q1 := (List.pairwise_append.mp h).2.2 a m l (by simp)
            have q2 : ltT a l = false := (List.pairwise_append.mp hp).2.2 l (by simp) a List.mem_cons_self
            rw [q1] at q2
            cases q2
          · exact hl (List.mem_singleton.mp m).symm
      have hall : (acc ++ [x]).all (T.isS n) = true := by rw [List.all_append, ha]; simp [hx.1]
      obtain ⟨h1, h2⟩ := ddT_ok xs (acc ++ [x]) hx.2 hall hasc hp'
      refine ⟨h1, fun y => ?_⟩
      rw [h2, List.mem_append, List.mem_singleton, List.mem_cons, or_assoc]
theorem ddT_asc {n : Nat} {xs ys : List T} (h : xs.all (T.isS n) = true) (p : ys.Perm xs) (s : ys.Pairwise fun a b => ltT b a = false) : ddT [] ys = ascT xs := by
  have hy : ys.all (T.isS n) = true := by
    rw [List.all_eq_true] at h ⊢
    exact fun x hx => h x (p.mem_iff.mp hx)
  obtain ⟨h1, h2⟩ := ddT_ok ys [] hy rfl List.Pairwise.nil s
  refine h1.ext (ascT_asc h) fun z => ?_
  rw [h2, ascT_mem h]
  simp [p.mem_iff]
/-! texts -/
theorem lexN_strs : ∀ a b c d : List Nat, lexN (a.map (· + 1) ++ 0 :: c) (b.map (· + 1) ++ 0 :: d) = (PySem.Spec.ltCps a b || (a == b) && lexN c d)
  | [], [], c, d => by simp [lexN, PySem.Spec.ltCps]
  | [], y :: b, c, d => by simp [lexN, PySem.Spec.ltCps]
  | x :: a, [], c, d => by simp [lexN, PySem.Spec.ltCps]
  | x :: a, y :: b, c, d => by
    simp only [List.map_cons, List.cons_append, lexN, PySem.Spec.ltCps, lexN_strs a b c d]
    rcases Nat.lt_trichotomy x y with h | h | h
    · simp [h]
    · subst h; simp
    · have h1 : ¬ x < y := by omega
      have h2 : x ≠ y := by omega
      have h3 : (x == y) = false := by simp [h2]
      simp [h1, h3]
theorem ltT_str (x y : Str) : ltT (.str x) (.str y) = ltS x y := by
  show lexN (1 :: (x.cps.toList.map (· + 1) ++ [0])) (1 :: (y.cps.toList.map (· + 1) ++ [0])) = _
  simp only [lexN]
  rw [lexN_strs]
  simp [ltS, lexN]
theorem sortedS_pw {ys : List Str} (h : PyProof.Rows.sortedS ys = true) : (ys.map T.str).Pairwise fun a b => ltT b a = false := by
  have key : ∀ (l : List Str), PyProof.Rows.sortedS l = true → l.Pairwise fun a b => ltS b a = false := by
    intro l
    induction l with
    | nil => intro _; exact .nil
    | cons y l ih =>
      intro h
      refine List.pairwise_cons.mpr ⟨risingS_le l y h, ih ?_⟩
      cases l with
      | nil => rfl
      | cons z l =>
        have h' : PyProof.Rows.risingS y (z :: l) = true := h
        unfold PyProof.Rows.risingS at h'
        rw [Bool.and_eq_true] at h'
        exact h'.2
  refine List.pairwise_map.mpr ((key ys h).imp fun {a b} q => ?_)
  rw [ltT_str]
  exact q
/-- rows that sorted() takes -/
def Srtb (ts : List T) : Prop := (∃ xs : List Str, ts = xs.map .str) ∨ (ts.all (T.isS 50) = true ∧ (∀ t ∈ ts, ∀ u ∈ ts, T.cok 50 t u = true) ∧ (ts.all fStr = true ∨ ts.all fTup = true))
theorem strsOf_all : ∀ {ts : List T} {xs : List Str}, strsOf ts = some xs → ts = xs.map .str
  | [], xs, h => by cases h; rfl
  | t :: ts, xs, h => by
    cases t with
    | str x =>
      cases q : strsOf ts with
      | none => simp [strsOf, q] at h
      | some ys =>
        simp [strsOf, q] at h
        subst h
        rw [List.map_cons, strsOf_all q]
    | _ => simp [strsOf] at h
theorem Srtb.isS {ts : List T} (h : Srtb ts) : ts.all (T.isS 50) = true := by
  rcases h with ⟨xs, rfl⟩ | h
  · rw [List.all_map, List.all_eq_true]; intro x _; rfl
  · exact h.1
theorem Srtb.sorted {ts : List T} {k : Tok → Prop} (h : Srtb ts) (q : ∀ ys : List T, ys.Perm ts → ys.Pairwise (fun a b => ltT b a = false) → k (.fr ys)) : SortedW ts k := by
  rcases h with ⟨xs, rfl⟩ | ⟨h1, h2, h3⟩
  · refine SortedW.ofStrs xs (strsOf_map xs) fun ys p s => q _ (p.map _) (sortedS_pw s)
  · cases ts with
    | nil => exact SortedW.ofStrs [] rfl fun ys p s => (by cases p.eq_nil; exact q [] (.refl _) .nil)
    | cons t ts =>
      refine SortedW.ofTups ?_ ⟨h1, h2, h3, q⟩
      have ht : fStr t = true ∨ fTup t = true := by
        rcases h3 with h | h
        · rw [List.all_cons, Bool.and_eq_true] at h; exact .inl h.1
        · rw [List.all_cons, Bool.and_eq_true] at h; exact .inr h.1
      cases t with
      | str x => rcases ht with h | h <;> cases h
      | _ => rfl
end N1
namespace N1
open PySem (Str sizeLine)
/-! ## loops that say only what they change -/
def slotO : DSt → Nat → Option Slot
  | [], _ => none
  | s :: _, 0 => s
  | _ :: r, n + 1 => slotO r n
/-- the slots ix hold vals -/
def putS : DSt → List Nat → List (Option Slot) → DSt
  | τ, i :: is, v :: vs => putS (setSlot τ i v) is vs
  | τ, _, _ => τ
/-- the slots dc hold anything -/
def putF : DSt → List Nat → (Nat → Option Slot) → DSt
  | τ, [], _ => τ
  | τ, i :: is, w => putF (setSlot τ i (w i)) is w
theorem setSlot_self : ∀ (τ : DSt) (i : Nat), setSlot τ i (slotO τ i) = τ
  | [], _ => rfl
  | s :: r, 0 => rfl
  | s :: r, n + 1 => by
    show s :: setSlot r n (slotO r n) = _
    rw [setSlot_self r n]
theorem putF_self (τ : DSt) : ∀ dc : List Nat, putF τ dc (slotO τ) = τ
  | [] => rfl
  | i :: is => by
    show putF (setSlot τ i (slotO τ i)) is _ = τ
    rw [setSlot_self]
    exact putF_self τ is
theorem for_s {β : Type} {e : β → T} {g : DG} {tb : DS} {D : DEnds} {ts : List T} {τ0 : DSt} (ix dc : List Nat) (I : List β → List (Option Slot) → Prop) (xs : List β) (et : ts = xs.map e)
    (v0 : List (Option Slot)) (e0 : τ0 = putF (putS τ0 ix v0) dc (slotO τ0)) (h0 : I [] v0)
    (hs : ∀ pre x post, xs = pre ++ x :: post → ∀ vals w, I pre vals → ∀ K : DSt → Prop, (∀ τ' vals', τ' = putF (putS τ0 ix vals') dc (slotO τ') → I (pre ++ [x]) vals' → K τ') → g (e x) (putF (putS τ0 ix vals) dc w) fun τ1 => tb { D with nx := K, ct := K, bk := D.nx } τ1)
    (hd : ∀ vals w, I xs vals → D.nx (putF (putS τ0 ix vals) dc w)) : Loop (forL g tb D ts τ0) := by
  refine for_in xs (fun pre τ => ∃ vals w, τ = putF (putS τ0 ix vals) dc w ∧ I pre vals) et ⟨v0, _, e0, h0⟩ (fun pre x post e τ hi K hK => ?_) fun τ hi => ?_
  · obtain ⟨vals, w, rfl, hi⟩ := hi
    exact hs pre x post e vals w hi K fun τ' vals' e' h' => hK τ' ⟨vals', _, e', h'⟩
  · obtain ⟨vals, w, rfl, hi⟩ := hi
    exact hd vals w hi
theorem range_s {g : DG} {tb : DS} {D : DEnds} {m : Nat} {lo : Int} {τ0 : DSt} (ix dc : List Nat) (I : Nat → List (Option Slot) → Prop)
    (v0 : List (Option Slot)) (e0 : τ0 = putF (putS τ0 ix v0) dc (slotO τ0)) (h0 : I 0 v0)
    (hs : ∀ i, i < m → ∀ vals w, I i vals → ∀ K : DSt → Prop, (∀ τ' vals', τ' = putF (putS τ0 ix vals') dc (slotO τ') → I (i + 1) vals' → K τ') → g (.int (lo + (i : Nat))) (putF (putS τ0 ix vals) dc w) fun τ1 => tb { D with nx := K, ct := K, bk := D.nx } τ1)
    (hd : ∀ vals w, I m vals → D.nx (putF (putS τ0 ix vals) dc w)) : Loop (forL g tb D (intsFrom lo m) τ0) := by
  refine range_in m (fun i τ => ∃ vals w, τ = putF (putS τ0 ix vals) dc w ∧ I i vals) rfl ⟨v0, _, e0, h0⟩ (fun i hi τ hI K hK => ?_) fun τ hi => ?_
  · obtain ⟨vals, w, rfl, hI⟩ := hI
    exact hs i hi vals w hI K fun τ' vals' e' h' => hK τ' ⟨vals', _, e', h'⟩
  · obtain ⟨vals, w, rfl, hi⟩ := hi
    exact hd vals w hi
/-! a comprehension with a state: I of what is done, the row so far, the slots -/
theorem lc_s {β : Type} {e : β → T} {vs : List Nat} {g : DG} {tt : DT} {te : DE} {Q : DK} {ts : List T} {τ0 : DSt} (ix : List Nat) (I : List β → List T → List (Option Slot) → Prop) (xs : List β) (et : ts = xs.map e)
    (v0 : List (Option Slot)) (e0 : τ0 = putS τ0 ix v0) (h0 : I [] [] v0)
    (hs : ∀ pre x post, xs = pre ++ x :: post → ∀ acc vals, I pre acc vals → ∀ K : List T → DSt → Prop, (∀ acc' τ' vals', τ' = putS τ0 ix vals' → I (pre ++ [x]) acc' vals' → K acc' τ') →
      g (e x) (putS τ0 ix vals) fun τ2 => tt τ2 fun b τ3 => Br b (te τ3 fun tk τ4 => froze τ4 tk fun y τ5 => K (acc ++ [y]) (wipeT τ5 vs)) (K acc (wipeT τ3 vs)))
    (hd : ∀ acc vals, I xs acc vals → Q (.fr acc) (putS τ0 ix vals)) : Loop (lcL vs g tt te Q ts [] τ0) := by
  rw [Loop.eq]
  have key : ∀ (post pre : List β) (acc : List T) (vals : List (Option Slot)), xs = pre ++ post → I pre acc vals → lcL vs g tt te Q (post.map e) acc (putS τ0 ix vals) := by
    intro post
    induction post with
    | nil =>
      intro pre acc vals h hi
      rw [List.append_nil] at h
      subst h
      exact hd acc vals hi
    | cons x post ih =>
      intro pre acc vals h hi
      refine hs pre x post h acc vals hi (fun acc' τ' => lcL vs g tt te Q (post.map e) acc' τ') fun acc' τ' vals' e' hi' => ?_
      rw [e']
      exact ih (pre ++ [x]) acc' vals' (by rw [List.append_assoc]; exact h) hi'
  rw [et, e0]
  exact key xs [] [] v0 rfl h0
/-! literal tables -/
theorem ixI {ts : List T} {ws : List Int} {i : Int} {k : T → Prop} (e : intsOf ts = some ws) (lo hi : Int) (hb : ws.all (fun w => decide (lo ≤ w) && decide (w ≤ hi)) = true) (h0 : 0 ≤ i) (h1 : i < ws.length) (q : ∀ w, lo ≤ w → w ≤ hi → k (.int w)) : ifSome (atT ts i) k := by
  obtain ⟨w, h, m⟩ := atT_in h0 h1
  have et : ts = ws.map .int := by
    clear hb h0 h1 h m q k
    induction ts generalizing ws with
    | nil => cases e; rfl
    | cons t ts ih =>
      cases t with
      | int i =>
        cases q : intsOf ts with
        | none => simp [intsOf, q] at e
        | some ms =>
          simp [intsOf, q] at e
          subst e
          rw [List.map_cons, ← ih q]
      | _ => simp [intsOf] at e
  have hw := List.all_eq_true.mp hb w m
  simp only [Bool.and_eq_true, decide_eq_true_eq] at hw
  exact ifSome.of (by rw [et, atT_map, h]; rfl) (q w hw.1 hw.2)
/-- an item of a list of ints, any -/
theorem ixAny {ns : List Int} {i : Int} {k : T → Prop} (h0 : 0 ≤ i) (h1 : i < ns.length) (q : ∀ w, k (.int w)) : ifSome (atT (ns.map T.int) i) k := by
  obtain ⟨w, h, m⟩ := atT_in h0 h1
  exact ifSome.of (by rw [atT_map, h]; rfl) (q w)
theorem ixMem {β : Type} {f : β → T} {xs : List β} {i : Int} {k : T → Prop} (h0 : 0 ≤ i) (h1 : i < xs.length) (q : ∀ x, x ∈ xs → k (f x)) : ifSome (atT (xs.map f) i) k := by
  obtain ⟨w, h, m⟩ := atT_in h0 h1
  exact ifSome.of (by rw [atT_map, h]; rfl) (q w m)
theorem ixKd {i : Int} {k : T → Prop} (h0 : 0 ≤ i) (h1 : i < 2) (q : ∀ b, k (.str (kd b))) : ifSome (atT [T.str (Str.ofString "all"), T.str (Str.ofString "some")] i) k := by
  obtain ⟨b, e⟩ := pickKd h0 h1
  exact ifSome.of e (q b)
theorem emod_lo {a b : Int} (h : 0 < b) : 0 ≤ a % b := Int.emod_nonneg _ (by omega)
theorem emod_hi {a b : Int} (h : 0 < b) : a % b < b := Int.emod_lt_of_pos _ h
theorem ixMod {β : Type} {f : β → T} {xs : List β} {v : Int} {k : T → Prop} (h : 0 < xs.length) (q : ∀ x, x ∈ xs → k (f x)) : ifSome (atT (xs.map f) (v % ((xs.map f).length : Nat))) k :=
  ixMem (emod_lo (by rw [List.length_map]; omega)) (by have := emod_hi (a := v) (b := ((xs.map f).length : Nat)) (by rw [List.length_map]; omega); rw [List.length_map] at this ⊢; exact this) q
theorem mod_pos {β : Type} {f : β → T} {xs : List β} (h : 0 < xs.length) : (0 : Int) < ((xs.map f).length : Nat) := by rw [List.length_map]; omega
/-! formulas -/
mutual
theorem Fm.isS : ∀ (m : Fm) (n : Nat), 2 * Fm.nest m + 1 ≤ n → T.isS n (Fm.enc m) = true
  | .at x, n, h => by
    obtain ⟨n, rfl⟩ : ∃ k, n = k + 1 := ⟨n - 1, by omega⟩
    cases n <;> rfl
  | .no m, n, h => by
    replace h : 2 * (Fm.nest m + 1) + 1 ≤ n := h
    obtain ⟨n, rfl⟩ : ∃ k, n = k + 1 := ⟨n - 1, by omega⟩
    have := Fm.isS m n (by omega)
    show (T.isS n _ && (T.isS n _ && true)) = true
    rw [this]
    cases n <;> rfl
  | .nd b ms, n, h => by
    replace h : 2 * (Fm.nests ms + 1) + 1 ≤ n := h
    obtain ⟨n, rfl⟩ : ∃ k, n = k + 2 := ⟨n - 2, by omega⟩
    have := Fm.isSs ms n (by omega)
    show (true && ((Fm.encs ms).all (T.isS n) && true)) = true
    rw [this]
    rfl
theorem Fm.isSs : ∀ (ms : List Fm) (n : Nat), 2 * Fm.nests ms + 1 ≤ n → (Fm.encs ms).all (T.isS n) = true
  | [], _, _ => rfl
  | m :: ms, n, h => by
    replace h : 2 * max (Fm.nest m) (Fm.nests ms) + 1 ≤ n := h
    show (T.isS n (Fm.enc m) && _) = true
    rw [Fm.isS m n (by omega), Fm.isSs ms n (by omega)]
    rfl
end
theorem Fm.fit (m : Fm) {n : Nat} (h : 2 * Fm.nest m + 1 ≤ n) : T.fit n (Fm.enc m) = true := T.isS_fit _ _ (Fm.isS m n h)
mutual
theorem Fm.inj : ∀ a b : Fm, Fm.enc a = Fm.enc b → a = b
  | .at x, b, h => by
    cases b with
    | «at» y => simp only [Fm.enc, T.tup.injEq, List.cons.injEq, T.str.injEq, true_and, and_true] at h; rw [h]
    | no m => simp only [Fm.enc, T.tup.injEq, List.cons.injEq, T.str.injEq] at h; exact absurd h.1.symm k_not_atom
    | nd b ms => simp only [Fm.enc, T.tup.injEq, List.cons.injEq, T.str.injEq] at h; exact absurd h.1.symm (k_kd_atom b)
  | .no a, b, h => by
    cases b with
    | «at» y => simp only [Fm.enc, T.tup.injEq, List.cons.injEq, T.str.injEq] at h; exact absurd h.1 k_not_atom
    | no m => simp only [Fm.enc, T.tup.injEq, List.cons.injEq, T.str.injEq, true_and, and_true] at h; rw [Fm.inj a m h]
    | nd b ms => simp only [Fm.enc, T.tup.injEq, List.cons.injEq, T.str.injEq] at h; exact absurd h.1.symm (k_kd_not b)
  | .nd c as, b, h => by
    cases b with
    | «at» y => simp only [Fm.enc, T.tup.injEq, List.cons.injEq, T.str.injEq] at h; exact absurd h.1 (k_kd_atom c)
    | no m => simp only [Fm.enc, T.tup.injEq, List.cons.injEq, T.str.injEq] at h; exact absurd h.1 (k_kd_not c)
    | nd b ms =>
      simp only [Fm.enc, T.tup.injEq, List.cons.injEq, T.str.injEq, and_true] at h
      have e : c = b := by
        have h1 := k_kd_all c
        rw [h.1, k_kd_all b] at h1
        exact h1.symm
      rw [e, Fm.injs as ms h.2]
theorem Fm.injs : ∀ a b : List Fm, Fm.encs a = Fm.encs b → a = b
  | [], [], _ => rfl
  | [], b :: bs, h => by simp [Fm.encs] at h
  | a :: as, [], h => by simp [Fm.encs] at h
  | a :: as, b :: bs, h => by
    simp only [Fm.encs, List.cons.injEq] at h
    rw [Fm.inj a b h.1, Fm.injs as bs h.2]
end
theorem Fm.eqT (a b : Fm) {n : Nat} (ha : 2 * Fm.nest a + 1 ≤ n) (hb : 2 * Fm.nest b + 1 ≤ n) : T.eq (Fm.enc a) (Fm.enc b) = true ↔ a = b :=
  (T.eq_S n _ _ (Fm.isS a n ha) (Fm.isS b n hb)).trans ⟨Fm.inj a b, fun h => by rw [h]⟩
theorem kd_inj {b c : Bool} (h : kd b = kd c) : b = c := by
  have h1 := k_kd_all b
  rw [h, k_kd_all c] at h1
  exact h1.symm
theorem T.eq_str' (x y : Str) : T.eq (.str x) (.str y) = true ↔ x = y := by rw [T.eq_str]; exact decide_eq_true_iff
mutual
/-- formulas can be compared -/
theorem Fm.cok : ∀ (a b : Fm) (n : Nat), 2 * Fm.nest a + 1 ≤ n → 2 * Fm.nest b + 1 ≤ n → T.cok n (Fm.enc a) (Fm.enc b) = true
  | .at x, b, n, h, g => by
    obtain ⟨n, rfl⟩ : ∃ k, n = k + 1 := ⟨n - 1, by omega⟩
    cases b with
    | «at» y =>
      show T.coks (T.cok n) [_, _] [_, _] = true
      simp only [T.coks, T.eq_str]
      cases n <;> (repeat' split) <;> rfl
    | no m =>
      show T.coks (T.cok n) [_, _] [_, _] = true
      unfold T.coks
      rw [if_neg (by rw [T.eq_str']; exact k_atom_not)]
      cases n <;> rfl
    | nd b ms =>
      show T.coks (T.cok n) [_, _] [_, _] = true
      unfold T.coks
      rw [if_neg (by rw [T.eq_str']; exact fun z => k_kd_atom b z.symm)]
      cases n <;> rfl
  | .no a, b, n, h, g => by
    replace h : 2 * (Fm.nest a + 1) + 1 ≤ n := h
    obtain ⟨n, rfl⟩ : ∃ k, n = k + 1 := ⟨n - 1, by omega⟩
    cases b with
    | «at» y =>
      show T.coks (T.cok n) [_, _] [_, _] = true
      unfold T.coks
      rw [if_neg (by rw [T.eq_str']; exact k_not_atom)]
      cases n <;> rfl
    | no m =>
      replace g : 2 * (Fm.nest m + 1) + 1 ≤ n + 1 := g
      show T.coks (T.cok n) [_, _] [_, _] = true
      have := Fm.cok a m n (by omega) (by omega)
      simp only [T.coks, T.eq_str]
      (repeat' split) <;> first | rfl | exact this | (cases n <;> rfl)
    | nd b ms =>
      show T.coks (T.cok n) [_, _] [_, _] = true
      unfold T.coks
      rw [if_neg (by rw [T.eq_str']; exact fun z => k_kd_not b z.symm)]
      cases n <;> rfl
  | .nd c as, b, n, h, g => by
    replace h : 2 * (Fm.nests as + 1) + 1 ≤ n := h
    obtain ⟨n, rfl⟩ : ∃ k, n = k + 2 := ⟨n - 2, by omega⟩
    cases b with
    | «at» y =>
      show T.coks (T.cok (n + 1)) [_, _] [_, _] = true
      unfold T.coks
      rw [if_neg (by rw [T.eq_str']; exact k_kd_atom c)]
      rfl
    | no m =>
      show T.coks (T.cok (n + 1)) [_, _] [_, _] = true
      unfold T.coks
      rw [if_neg (by rw [T.eq_str']; exact k_kd_not c)]
      rfl
    | nd b ms =>
      replace g : 2 * (Fm.nests ms + 1) + 1 ≤ n + 2 := g
      show T.coks (T.cok (n + 1)) [_, _] [_, _] = true
      have := Fm.coks as ms n (by omega) (by omega)
      simp only [T.coks, T.eq_str]
      (repeat' split) <;> first | rfl | exact this
theorem Fm.coks : ∀ (as bs : List Fm) (n : Nat), 2 * Fm.nests as + 1 ≤ n → 2 * Fm.nests bs + 1 ≤ n → T.coks (T.cok n) (Fm.encs as) (Fm.encs bs) = true
  | [], _, _, _, _ => by cases ‹List Fm› <;> rfl
  | a :: as, [], _, _, _ => rfl
  | a :: as, b :: bs, n, h, g => by
    replace h : 2 * max (Fm.nest a) (Fm.nests as) + 1 ≤ n := h
    replace g : 2 * max (Fm.nest b) (Fm.nests bs) + 1 ≤ n := g
    show (if _ then _ else _) = true
    split
    · exact Fm.coks as bs n (by omega) (by omega)
    · exact Fm.cok a b n (by omega) (by omega)
end
theorem Fm.srtb {ms : List Fm} (h : ∀ m ∈ ms, Fm.nest m ≤ 24) : Srtb (ms.map Fm.enc) := by
  refine .inr ⟨?_, ?_, .inl ?_⟩
  · rw [List.all_map, List.all_eq_true]
    exact fun m hm => Fm.isS m 50 (by have := h m hm; omega)
  · intro t ht u hu
    obtain ⟨a, ha, rfl⟩ := List.mem_map.mp ht
    obtain ⟨b, hb, rfl⟩ := List.mem_map.mp hu
    exact Fm.cok a b 50 (by have := h a ha; omega) (by have := h b hb; omega)
  · rw [List.all_map, List.all_eq_true]
    intro m _
    cases m <;> rfl
end N1
namespace N1
noncomputable instance : DecidableEq T := fun _ _ => Classical.propDecidable _
noncomputable instance : DecidableEq Fm := fun _ _ => Classical.propDecidable _
theorem T.isS_up : ∀ (n m : Nat) (t : T), n ≤ m → T.isS n t = true → T.isS m t = true := by
  intro n
  induction n with
  | zero =>
    intro m t _ h
    cases t <;> first | (cases h; done) | skip
    cases m <;> rfl
  | succ n ih =>
    intro m t hm h
    cases t <;> first | (cases h; done) | skip
    · cases m <;> rfl
    · obtain ⟨m, rfl⟩ : ∃ k, m = k + 1 := ⟨m - 1, by omega⟩
      have h : (_ : List T).all (T.isS n) = true := h
      show (_ : List T).all (T.isS m) = true
      rw [List.all_eq_true] at h ⊢
      exact fun x hx => ih m x (by omega) (h x hx)
theorem T.eqD {n : Nat} {a b : T} (ha : T.isS n a = true) (hb : T.isS n b = true) : T.eq a b = decide (a = b) := by
  have := T.eq_S n a b ha hb
  cases q : T.eq a b
  · rw [q] at this; exact (decide_eq_false fun z => by simpa using this.mpr z).symm
  · exact (decide_eq_true (this.mp q)).symm
theorem scalT_S {a b : T} {n : Nat} {c : Bool} (ha : T.isS n a = true) (hb : T.isS n b = true) (e : scalT a b = some c) : c = decide (a = b) := by
  have q : c = T.eq a b := by
    cases a <;> first | (cases n <;> cases ha; done) | skip
    · cases b <;> first | (cases n <;> cases hb; done) | (simp [scalT] at e; done) | skip
      rw [T.eq_str]
      simp only [scalT, Option.some.injEq] at e
      exact e.symm
    · cases b <;> simp [scalT] at e
  rw [q, T.eqD ha hb]
theorem opEq_S {a b : T} {k : Tok → Prop} (ha : T.isS 50 a = true) (hb : T.isS 50 b = true) (h : k (.v (.bl (decide (a = b))))) : opEq a b k := by
  unfold opEq
  split
  · next c e => rw [scalT_S ha hb e]; exact h
  · refine ⟨T.isS_fit _ _ (T.isS_up 50 60 _ (by decide) ha), T.isS_fit _ _ (T.isS_up 50 60 _ (by decide) hb), ?_⟩
    rw [T.eqD ha hb]
    exact h
theorem opNe_S {a b : T} {k : Tok → Prop} (ha : T.isS 50 a = true) (hb : T.isS 50 b = true) (h : k (.v (.bl (!decide (a = b))))) : opNe a b k := by
  unfold opNe
  split
  · next c e => rw [scalT_S ha hb e]; exact h
  · refine ⟨T.isS_fit _ _ (T.isS_up 50 60 _ (by decide) ha), T.isS_fit _ _ (T.isS_up 50 60 _ (by decide) hb), ?_⟩
    rw [T.eqD ha hb]
    exact h
end N1
namespace N1
theorem ddT_nil (acc : List T) : ddT acc [] = acc := by unfold ddT; rfl
theorem ddT_eq {acc xs : List T} {x : T} (h : acc.getLast? = some x) : ddT acc (x :: xs) = ddT acc xs := by conv => lhs; unfold ddT; rw [if_pos h]
theorem ddT_ne {acc xs : List T} {x : T} (h : acc.getLast? ≠ some x) : ddT acc (x :: xs) = ddT (acc ++ [x]) xs := by conv => lhs; unfold ddT; rw [if_neg h]
end N1
namespace N1
theorem rep1 (n : Nat) (x : Int) : (List.replicate n [T.int x]).flatten = (List.replicate n x).map T.int := by
  induction n with
  | zero => rfl
  | succ n ih => rw [List.replicate_succ, List.flatten_cons, ih, List.replicate_succ]; rfl
end N1
namespace N1
theorem rep_ok {n : Nat} {x : Int} (h : 0 < x ∧ x < 1000000) : ∀ z ∈ List.replicate n x, 0 < z ∧ z < 1000000 := fun z hz => by rw [List.eq_of_mem_replicate hz]; exact h
end N1
namespace N1
/-- digits: each one is below its size -/
def Dg : List Int → List Int → Prop
  | [], [] => True
  | x :: xs, z :: zs => (0 ≤ x ∧ x < z) ∧ Dg xs zs
  | _, _ => False
theorem Dg.len : ∀ {xs zs : List Int}, Dg xs zs → xs.length = zs.length
  | [], [], _ => rfl
  | [], _ :: _, h => h.elim
  | _ :: _, [], h => h.elim
  | _ :: _, _ :: _, h => by rw [List.length_cons, List.length_cons, Dg.len h.2]
theorem Dg.snoc : ∀ {xs zs : List Int} {x z : Int}, Dg xs zs → 0 ≤ x → x < z → Dg (xs ++ [x]) (zs ++ [z])
  | [], [], _, _, _, h0, h1 => ⟨⟨h0, h1⟩, trivial⟩
  | [], _ :: _, _, _, h, _, _ => h.elim
  | _ :: _, [], _, _, h, _, _ => h.elim
  | _ :: _, _ :: _, _, _, h, h0, h1 => ⟨h.1, Dg.snoc h.2 h0 h1⟩
theorem Dg.get : ∀ {xs zs : List Int} (i : Nat), Dg xs zs → ∀ (h : i < xs.length) (g : i < zs.length), 0 ≤ xs[i] ∧ xs[i] < zs[i]
  | [], [], _, _, h, _ => by simp at h
  | [], _ :: _, _, h, _, _ => h.elim
  | _ :: _, [], _, h, _, _ => h.elim
  | _ :: _, _ :: _, 0, h, _, _ => h.1
  | x :: xs, z :: zs, i + 1, h, hl, hg => by
    have := Dg.get i h.2 (by simpa using hl) (by simpa using hg)
    simpa using this
theorem Dg.rep {xs : List Int} {n : Nat} {z : Int} (h : Dg xs (List.replicate n z)) : ∀ x ∈ xs, 0 ≤ x ∧ x < z := by
  induction n generalizing xs with
  | zero => cases xs with
    | nil => intro x hx; simp at hx
    | cons => exact h.elim
  | succ n ih => cases xs with
    | nil => exact h.elim
    | cons y ys =>
      rw [List.replicate_succ] at h
      intro x hx
      rcases List.mem_cons.mp hx with rfl | hx
      · exact h.1
      · exact ih h.2 x hx
end N1
namespace N1
/-- formulas in ascending order -/
theorem ascF {ms : List Fm} {n : Nat} (h : ∀ m ∈ ms, Fm.nest m ≤ n) : ∃ ms' : List Fm, ascT (ms.map Fm.enc) = ms'.map Fm.enc ∧ ∀ m, m ∈ ms' ↔ m ∈ ms := by
  have hall : (ms.map Fm.enc).all (T.isS (2 * n + 1)) = true := by
    rw [List.all_map, List.all_eq_true]
    exact fun m hm => Fm.isS m _ (by have := h m hm; omega)
  have hm := ascT_mem hall
  have key : ∀ ts : List T, (∀ t ∈ ts, t ∈ ms.map Fm.enc) → ∃ ms' : List Fm, ts = ms'.map Fm.enc ∧ ∀ m ∈ ms', m ∈ ms := by
    intro ts
    induction ts with
    | nil => exact fun _ => ⟨[], rfl, fun m hm => by cases hm⟩
    | cons t ts ih =>
      intro ht
      obtain ⟨ms', e, hs⟩ := ih fun u hu => ht u (List.mem_cons_of_mem _ hu)
      obtain ⟨m, hmm, et⟩ := List.mem_map.mp (ht t List.mem_cons_self)
      refine ⟨m :: ms', by rw [List.map_cons, et, e], fun x hx => ?_⟩
      rcases List.mem_cons.mp hx with rfl | hx
      · exact hmm
      · exact hs x hx
  obtain ⟨ms', e, hs⟩ := key (ascT (ms.map Fm.enc)) fun t ht => (hm t).mp ht
  refine ⟨ms', e, fun m => ⟨hs m, fun hx => ?_⟩⟩
  have := (hm (Fm.enc m)).mpr (List.mem_map_of_mem hx)
  rw [e] at this
  obtain ⟨m', h1, h2⟩ := List.mem_map.mp this
  rw [← Fm.inj _ _ h2]
  exact h1
end N1
namespace N1
/-! slices -/
theorem sl_in {β : Type} {xs : List β} {a b : Int} (n m : Nat) (ha : a = (n : Int)) (hb : b = ((n + m : Nat) : Int)) (hl : n + m ≤ xs.length) :
    ((xs.drop (HT.sIx xs.length 0 (some a))).take (HT.sIx xs.length xs.length (some b) - HT.sIx xs.length 0 (some a))) = (xs.drop n).take m := by
  subst ha; subst hb
  rw [HT.sIx_nat, HT.sIx_nat, Nat.min_eq_left hl, Nat.min_eq_left (by omega), Nat.add_sub_cancel_left]
theorem sl_to {β : Type} {xs : List β} {b : Int} (m : Nat) (hb : b = (m : Int)) :
    ((xs.drop (HT.sIx xs.length 0 none)).take (HT.sIx xs.length xs.length (some b) - HT.sIx xs.length 0 none)) = xs.take m := by
  subst hb
  rw [HT.sIx_nat, HT.sIx_none, List.drop_zero, Nat.sub_zero]
  by_cases h : m ≤ xs.length
  · rw [Nat.min_eq_left h]
  · rw [Nat.min_eq_right (by omega), List.take_length, List.take_of_length_le (by omega)]
theorem Dg.drop : ∀ {xs zs : List Int} (n : Nat), Dg xs zs → Dg (xs.drop n) (zs.drop n)
  | _, _, 0, h => h
  | [], [], _ + 1, h => h
  | [], _ :: _, _ + 1, h => h.elim
  | _ :: _, [], _ + 1, h => h.elim
  | _ :: _, _ :: _, n + 1, h => Dg.drop n h.2
theorem Dg.take : ∀ {xs zs : List Int} (n : Nat), Dg xs zs → Dg (xs.take n) (zs.take n)
  | _, _, 0, h => trivial
  | [], [], _ + 1, h => h
  | [], _ :: _, _ + 1, h => h.elim
  | _ :: _, [], _ + 1, h => h.elim
  | _ :: _, _ :: _, n + 1, h => ⟨h.1, Dg.take n h.2⟩
theorem ixDg {dg sz : List Int} {i : Nat} {iI : Int} {k : T → Prop} {z : Int} (hd : Dg dg sz) (e : iI = (i : Int)) (hz : sz[i]? = some z) (q : ∀ v, 0 ≤ v → v < z → k (.int v)) : ifSome (atT (dg.map T.int) iI) k := by
  subst e
  obtain ⟨hl, hz⟩ := List.getElem?_eq_some_iff.mp hz
  have hg : i < dg.length := by rw [hd.len]; exact hl
  have := hd.get i hg hl
  rw [hz] at this
  exact ifSome.of (t := .int dg[i]) (by rw [atT_map, atT_get hg]; rfl) (q _ this.1 this.2)
/-- picks out of a literal list -/
structure IxG (ws : List Int) (i : Int) (k : T → Prop) : Prop where
  h : ifSome (atT (ws.map T.int) i) k
theorem intsOf_is {ts : List T} {ws : List Int} (e : intsOf ts = some ws) : ts = ws.map .int := by
  induction ts generalizing ws with
  | nil => cases e; rfl
  | cons t ts ih =>
    cases t with
    | int i =>
      cases q : intsOf ts with
      | none => simp [intsOf, q] at e
      | some ms =>
        simp [intsOf, q] at e
        subst e
        rw [List.map_cons, ← ih q]
    | _ => simp [intsOf] at e
theorem ixW {ts : List T} {ws : List Int} {i : Int} {k : T → Prop} (e : intsOf ts = some ws) (h : IxG ws i k) : ifSome (atT ts i) k := by
  rw [intsOf_is e]; exact h.h
theorem ixB {ws : List Int} {i : Int} {k : T → Prop} (lo hi : Int) (hb : ws.all (fun w => decide (lo ≤ w) && decide (w ≤ hi)) = true) (h0 : 0 ≤ i) (h1 : i < ws.length) (q : ∀ w, lo ≤ w → w ≤ hi → k (.int w)) : IxG ws i k :=
  ⟨ixI (intsOf_map ws) lo hi hb h0 h1 q⟩
end N1
namespace N1
open PySem (Str sizeLine)
open L2 (cutS)
theorem sl_dg {dg sz : List Int} (hd : Dg dg sz) {a b : Int} (n m : Nat) (ha : a = (n : Int)) (hb : b = ((n + m : Nat) : Int)) (hl : n + m ≤ sz.length) :
    ∃ p, (((dg.map T.int).drop (HT.sIx (dg.map T.int).length 0 (some a))).take (HT.sIx (dg.map T.int).length (dg.map T.int).length (some b) - HT.sIx (dg.map T.int).length 0 (some a))) = p.map T.int ∧ Dg p ((sz.drop n).take m) := by
  refine ⟨(dg.drop n).take m, ?_, (hd.drop n).take m⟩
  rw [sl_in n m ha hb (by rw [List.length_map, hd.len]; exact hl), List.map_take, List.map_drop]
theorem menu6 {v : Int} (h0 : 0 ≤ v) (h1 : v < 6) (ls : List (List Str)) (hs : ls.length = 6 ∧ ∀ l ∈ ls, l.length = 4 ∧ (∀ x ∈ l, x.length ≤ 8) ∧ PyProof.Rows.sortedS l = true ∧ l.Nodup) :
    ∃ l, atT (ls.map fun l => T.lst (l.map T.str)) v = some (.lst (l.map .str)) ∧ l.length = 4 ∧ (∀ x ∈ l, x.length ≤ 8) ∧ PyProof.Rows.sortedS l = true ∧ l.Nodup := by
  obtain ⟨l, e, m⟩ := atT_in (ts := ls) h0 (by rw [hs.1]; exact h1)
  exact ⟨l, by rw [atT_map, e]; rfl, hs.2 l m⟩
abbrev menuA : List (List Str) := [["a", "b", "c", "d"], ["p", "q1", "rain", "s"], ["b", "ba", "bab", "x9"], ["door", "key", "lamp", "z"], ["m1", "m10", "m2", "n"], ["card", "code", "guard", "night0"]].map (·.map Str.ofString)
theorem menuA_ok : menuA.length = 6 ∧ ∀ l ∈ menuA, l.length = 4 ∧ (∀ x ∈ l, x.length ≤ 8) ∧ PyProof.Rows.sortedS l = true ∧ l.Nodup := by decide +kernel
theorem sl_str {x : Str} {a : Int} (n : Nat) (ha : a = (n : Int)) : (cutS x none (some a)).length ≤ n ∧ (cutS x (some a) none).length ≤ x.length := by
  subst ha
  refine ⟨?_, ?_⟩
  · show (List.toArray _).size ≤ n
    simp [HT.sIx_nat, HT.sIx_none]
    omega
  · show (List.toArray _).size ≤ x.length
    have : x.cps.toList.length = x.length := Array.length_toList
    simp [HT.sIx_nat, HT.sIx_none]
    omega
abbrev letters36 : Str := Str.ofString "abcdefghijklmnopqrstuvwxyz0123456789"
theorem let36 {i : Int} (h0 : 0 ≤ i) (h1 : i < 36) {k : Nat → Prop} (q : ∀ c, k c) : ifSome (atT letters36.cps.toList i) k := by
  obtain ⟨v, e, _⟩ := atT_in (ts := letters36.cps.toList) h0 (by
    have : (letters36.cps.toList.length : Int) = 36 := by decide +kernel
    omega)
  exact ifSome.of e (q v)
theorem let36_len : letters36.length = 36 := by decide +kernel
end N1
namespace N1
theorem ixDgE {ts : List T} {dg sz : List Int} (i : Nat) {iI : Int} {k : T → Prop} {z : Int} (et : ts = dg.map .int) (hd : Dg dg sz) (e : iI = (i : Int)) (hz : sz[i]? = some z) (q : ∀ v, 0 ≤ v → v < z → k (.int v)) : ifSome (atT ts iI) k := by
  rw [et]; exact ixDg hd e hz q
theorem sl_dgE {ts : List T} {dg sz : List Int} (et : ts = dg.map .int) (hd : Dg dg sz) {a b : Int} (n m : Nat) (ha : a = (n : Int)) (hb : b = ((n + m : Nat) : Int)) (hl : n + m ≤ sz.length) :
    ((ts.drop (HT.sIx ts.length 0 (some a))).take (HT.sIx ts.length ts.length (some b) - HT.sIx ts.length 0 (some a))) = ((dg.drop n).take m).map .int ∧ Dg ((dg.drop n).take m) ((sz.drop n).take m) := by
  subst et
  refine ⟨?_, (hd.drop n).take m⟩
  rw [sl_in n m ha hb (by rw [List.length_map, hd.len]; exact hl), List.map_take, List.map_drop]
theorem sl_toE {β : Type} {f : β → T} {ts : List T} {xs : List β} {b : Int} (et : ts = xs.map f) (m : Nat) (hb : b = (m : Int)) :
    ((ts.drop (HT.sIx ts.length 0 none)).take (HT.sIx ts.length ts.length (some b) - HT.sIx ts.length 0 none)) = (xs.take m).map f := by
  subst et
  rw [sl_to m hb, List.map_take]
end N1
namespace N1
open PySem (Str)
theorem ascS (xs : List Str) : ∃ ys : List Str, ascT (xs.map .str) = ys.map .str ∧ ∀ m, m ∈ ys ↔ m ∈ xs := by
  have hall : (xs.map T.str).all (T.isS 0) = true := by
    rw [List.all_map, List.all_eq_true]
    exact fun m hm => rfl
  have hm := ascT_mem hall
  have key : ∀ ts : List T, (∀ t ∈ ts, t ∈ xs.map T.str) → ∃ ms' : List Str, ts = ms'.map T.str ∧ ∀ m ∈ ms', m ∈ xs := by
    intro ts
    induction ts with
    | nil => exact fun _ => ⟨[], rfl, fun m hm => by cases hm⟩
    | cons t ts ih =>
      intro ht
      obtain ⟨ms', e, hs⟩ := ih fun u hu => ht u (List.mem_cons_of_mem _ hu)
      obtain ⟨m, hmm, et⟩ := List.mem_map.mp (ht t List.mem_cons_self)
      refine ⟨m :: ms', by rw [List.map_cons, et, e], fun x hx => ?_⟩
      rcases List.mem_cons.mp hx with rfl | hx
      · exact hmm
      · exact hs x hx
  obtain ⟨ms', e, hs⟩ := key (ascT (xs.map T.str)) fun t ht => (hm t).mp ht
  refine ⟨ms', e, fun m => ⟨hs m, fun hx => ?_⟩⟩
  have := (hm (.str m)).mpr (List.mem_map_of_mem hx)
  rw [e] at this
  obtain ⟨m', h1, h2⟩ := List.mem_map.mp this
  cases h2
  exact h1
end N1
namespace N1
open PySem (Str)
/-! over all members of a row: all(..), any(..) -/
theorem gen_all {β : Type} {i : Nat} {te : DE} {Q : DK} {τ : DSt} {ts : List T} (e : β → T) (p : β → Bool) (xs : List β) (et : ts = xs.map e) (stop : Bool) (hw : ∀ s, wipeT (setSlot τ i s) [i] = τ)
    (hx : ∀ x ∈ xs, ∀ K : DK, K (.v (.bl (p x))) (setSlot τ i (some (.val (e x)))) → te (setSlot τ i (some (.val (e x)))) K)
    (h : Q (.v (.bl (if stop then xs.any p else xs.all p))) τ) : Loop (gaL [i] stop (dgName i) te Q ts τ) := by
  subst et
  rw [Loop.eq]
  induction xs with
  | nil => cases stop <;> exact h
  | cons x xs ih =>
    refine hx x List.mem_cons_self _ ?_
    show Br _ _ _
    rw [hw]
    refine ⟨fun hb => ?_, fun hb => ih (fun y hy => hx y (List.mem_cons_of_mem _ hy)) ?_⟩
    · have hb : p x = stop := by cases stop <;> cases q : p x <;> simp [q] at hb ⊢
      cases stop
      · simpa [hb] using h
      · simpa [hb] using h
    · have hb : p x = !stop := by cases stop <;> cases q : p x <;> simp [q] at hb ⊢
      cases stop
      · simpa [hb] using h
      · simpa [hb] using h
theorem Fm.ons_all (p : Str → Bool) (ms : List Fm) : Fm.on p (.nd true ms) = ms.all (Fm.on p) ∧ Fm.on p (.nd false ms) = ms.any (Fm.on p) := by
  show Fm.ons p true ms = _ ∧ Fm.ons p false ms = _
  induction ms with
  | nil => exact ⟨rfl, rfl⟩
  | cons m ms ih =>
    refine ⟨?_, ?_⟩
    · show (if Fm.on p m = true then Fm.ons p true ms else !true) = _
      rw [ih.1, List.all_cons]
      cases Fm.on p m <;> rfl
    · show (if Fm.on p m = false then Fm.ons p false ms else !false) = _
      rw [ih.2, List.any_cons]
      cases Fm.on p m <;> rfl
end N1
namespace N1
open PySem (Str)
mutual
/-- no "not" in it -/
def Fm.pos : Fm → Bool
  | .at _ => true
  | .no _ => false
  | .nd _ ms => Fm.poss ms
def Fm.poss : List Fm → Bool
  | [] => true
  | m :: ms => Fm.pos m && Fm.poss ms
end
theorem Fm.poss_iff {ms : List Fm} : Fm.poss ms = true ↔ ∀ m ∈ ms, Fm.pos m = true := by
  induction ms with
  | nil => exact ⟨fun _ m hm => (by cases hm), fun _ => rfl⟩
  | cons m ms ih =>
    show (Fm.pos m && Fm.poss ms) = true ↔ _
    rw [Bool.and_eq_true, ih]
    constructor
    · rintro ⟨h1, h2⟩ x hx
      rcases List.mem_cons.mp hx with rfl | hx
      · exact h1
      · exact h2 x hx
    · exact fun h => ⟨h m List.mem_cons_self, fun x hx => h x (List.mem_cons_of_mem _ hx)⟩
theorem Fm.ofs_iff {names : List Str} {ms : List Fm} : Fm.ofs names ms ↔ ∀ m ∈ ms, Fm.of names m := by
  induction ms with
  | nil => exact ⟨fun _ m hm => (by cases hm), fun _ => trivial⟩
  | cons m ms ih =>
    show Fm.of names m ∧ Fm.ofs names ms ↔ _
    rw [ih]
    constructor
    · rintro ⟨h1, h2⟩ x hx
      rcases List.mem_cons.mp hx with rfl | hx
      · exact h1
      · exact h2 x hx
    · exact fun h => ⟨h m List.mem_cons_self, fun x hx => h x (List.mem_cons_of_mem _ hx)⟩
theorem Fm.nests_iff {ms : List Fm} {n : Nat} : Fm.nests ms ≤ n ↔ ∀ m ∈ ms, Fm.nest m ≤ n := by
  induction ms with
  | nil => exact ⟨fun _ m hm => (by cases hm), fun _ => Nat.zero_le _⟩
  | cons m ms ih =>
    show max _ _ ≤ n ↔ _
    rw [Nat.max_le, ih]
    constructor
    · rintro ⟨h1, h2⟩ x hx
      rcases List.mem_cons.mp hx with rfl | hx
      · exact h1
      · exact h2 x hx
    · exact fun h => ⟨h m List.mem_cons_self, fun x hx => h x (List.mem_cons_of_mem _ hx)⟩
theorem snoc_all {β : Type} {P : β → Prop} {xs : List β} {x : β} (h : ∀ m ∈ xs, P m) (g : P x) : ∀ m ∈ xs ++ [x], P m := fun m hm => by
  rcases List.mem_append.mp hm with hm | hm
  · exact h m hm
  · rw [List.mem_singleton.mp hm]; exact g
/-- all worlds over names -/
def wld (names : List Str) : List (List Str) := names.foldl (fun ws x => ws ++ ws.map (· ++ [x])) [[]]
def encW (w : List Str) : T := .tup (w.map .str)
theorem wld_snoc (names : List Str) (x : Str) : wld (names ++ [x]) = wld names ++ (wld names).map (· ++ [x]) := by
  unfold wld
  rw [List.foldl_append]
  rfl
theorem wld_len (names : List Str) : (wld names).length = 2 ^ names.length := by
  have key : ∀ (names : List Str) (ws : List (List Str)), (names.foldl (fun ws x => ws ++ ws.map (· ++ [x])) ws).length = ws.length * 2 ^ names.length := by
    intro names
    induction names with
    | nil => intro ws; simp
    | cons x names ih =>
      intro ws
      rw [List.foldl_cons, ih, List.length_append, List.length_map, List.length_cons, Nat.pow_succ]
      rw [← Nat.two_mul, Nat.mul_comm 2, Nat.mul_assoc, Nat.mul_comm 2]
  have := key names [[]]
  rw [List.length_singleton, Nat.one_mul] at this
  exact this
theorem wld_mem {names : List Str} : ∀ w ∈ wld names, w.length ≤ names.length := by
  have key : ∀ (names : List Str) (ws : List (List Str)) (n : Nat), (∀ w ∈ ws, w.length ≤ n) → ∀ w ∈ names.foldl (fun ws x => ws ++ ws.map (· ++ [x])) ws, w.length ≤ n + names.length := by
    intro names
    induction names with
    | nil => intro ws n h w hw; exact h w hw
    | cons x names ih =>
      intro ws n h w hw
      have := ih _ (n + 1) (fun v hv => by
        rcases List.mem_append.mp hv with hv | hv
        · have := h v hv; omega
        · obtain ⟨u, hu, rfl⟩ := List.mem_map.mp hv
          have := h u hu
          simp; omega) w hw
      rw [List.length_cons]
      omega
  intro w hw
  have := key names [[]] 0 (fun w hw => by rw [List.mem_singleton.mp hw]; exact Nat.le_refl _) w hw
  omega
end N1
namespace N1
mutual
/-- how many members at most stand side by side -/
def Fm.wid : Fm → Nat
  | .at _ => 0
  | .no m => Fm.wid m
  | .nd _ ms => max ms.length (Fm.wids ms)
def Fm.wids : List Fm → Nat
  | [] => 0
  | m :: ms => max (Fm.wid m) (Fm.wids ms)
end
theorem Fm.wids_iff {ms : List Fm} {n : Nat} : Fm.wids ms ≤ n ↔ ∀ m ∈ ms, Fm.wid m ≤ n := by
  induction ms with
  | nil => exact ⟨fun _ m hm => (by cases hm), fun _ => Nat.zero_le _⟩
  | cons m ms ih =>
    show max _ _ ≤ n ↔ _
    rw [Nat.max_le, ih]
    constructor
    · rintro ⟨h1, h2⟩ x hx
      rcases List.mem_cons.mp hx with rfl | hx
      · exact h1
      · exact h2 x hx
    · exact fun h => ⟨h m List.mem_cons_self, fun x hx => h x (List.mem_cons_of_mem _ hx)⟩
/-- made of texts and tuples that are not too long -/
def T.isL : Nat → T → Bool
  | _, .str _ => true
  | n + 1, .tup ts => decide (ts.length ≤ 1000000) && ts.all (T.isL n)
  | _, _ => false
theorem T.isL_tup {n : Nat} {ts : List T} : T.isL (n + 1) (.tup ts) = true ↔ ts.length ≤ 1000000 ∧ ∀ t ∈ ts, T.isL n t = true := by
  show (decide _ && _) = true ↔ _
  rw [Bool.and_eq_true, decide_eq_true_eq, List.all_eq_true]
theorem T.isL_up : ∀ (n m : Nat) (t : T), n ≤ m → T.isL n t = true → T.isL m t = true := by
  intro n
  induction n with
  | zero =>
    intro m t _ h
    cases t <;> first | (cases h; done) | skip
    cases m <;> rfl
  | succ n ih =>
    intro m t hm h
    cases t <;> first | (cases h; done) | skip
    · cases m <;> rfl
    · obtain ⟨m, rfl⟩ : ∃ k, m = k + 1 := ⟨m - 1, by omega⟩
      rw [T.isL_tup] at h ⊢
      exact ⟨h.1, fun x hx => ih m x (by omega) (h.2 x hx)⟩
mutual
theorem Fm.isL : ∀ (m : Fm) (n : Nat), 2 * Fm.nest m + 1 ≤ n → Fm.wid m ≤ 1000000 → T.isL n (Fm.enc m) = true
  | .at x, n, h, _ => by
    obtain ⟨n, rfl⟩ : ∃ k, n = k + 1 := ⟨n - 1, by omega⟩
    cases n <;> rfl
  | .no m, n, h, g => by
    replace h : 2 * (Fm.nest m + 1) + 1 ≤ n := h
    obtain ⟨n, rfl⟩ : ∃ k, n = k + 2 := ⟨n - 2, by omega⟩
    have := Fm.isL m (n + 1) (by omega) g
    show (decide _ && (true && (T.isL (n + 1) _ && true))) = true
    rw [this]
    rfl
  | .nd b ms, n, h, g => by
    replace h : 2 * (Fm.nests ms + 1) + 1 ≤ n := h
    replace g : max ms.length (Fm.wids ms) ≤ 1000000 := g
    obtain ⟨n, rfl⟩ : ∃ k, n = k + 2 := ⟨n - 2, by omega⟩
    have := Fm.isLs ms n (by omega) (by omega)
    have e : (Fm.encs ms).length = ms.length := by rw [Fm.encs_eq, List.length_map]
    show (decide _ && (true && ((decide _ && (Fm.encs ms).all (T.isL n)) && true))) = true
    rw [this, e, decide_eq_true (show ms.length ≤ 1000000 by omega)]
    rfl
theorem Fm.isLs : ∀ (ms : List Fm) (n : Nat), 2 * Fm.nests ms + 1 ≤ n → Fm.wids ms ≤ 1000000 → (Fm.encs ms).all (T.isL n) = true
  | [], _, _, _ => rfl
  | m :: ms, n, h, g => by
    replace h : 2 * max (Fm.nest m) (Fm.nests ms) + 1 ≤ n := h
    replace g : max (Fm.wid m) (Fm.wids ms) ≤ 1000000 := g
    show (T.isL n (Fm.enc m) && _) = true
    rw [Fm.isL m n (by omega) (by omega), Fm.isLs ms n (by omega) (by omega)]
    rfl
end
end N1
namespace N1
open PySem (Str sizeLine)
/-- the same members, and no more of them -/
structure Sub (ys as : List Str) : Prop where
  mem : ∀ z, z ∈ ys ↔ z ∈ as
  len : ys.length ≤ as.length
theorem Sub.refl (xs : List Str) : Sub xs xs := ⟨fun _ => Iff.rfl, Nat.le_refl _⟩
theorem Sub.trans {a b c : List Str} (h : Sub a b) (g : Sub b c) : Sub a c := ⟨fun z => (h.mem z).trans (g.mem z), Nat.le_trans h.len g.len⟩
theorem Sub.app {a b c d : List Str} (h : Sub a b) (g : Sub c d) : Sub (a ++ c) (b ++ d) :=
  ⟨fun z => by rw [List.mem_append, List.mem_append, h.mem, g.mem], by rw [List.length_append, List.length_append]; have := h.len; have := g.len; omega⟩
theorem Sub.asc (xs : List Str) : ∃ ys : List Str, ascT (xs.map .str) = ys.map .str ∧ Sub ys xs := by
  obtain ⟨ys, e, h⟩ := ascS xs
  refine ⟨ys, e, h, ?_⟩
  have := ascT_len (xs.map T.str)
  rw [e, List.length_map, List.length_map] at this
  exact this
theorem asc_sub {xs ys : List Str} (h : Sub xs ys) : ascT (xs.map .str) = ascT (ys.map .str) := by
  have all : ∀ zs : List Str, (zs.map T.str).all (T.isS 0) = true := fun zs => by
    rw [List.all_map, List.all_eq_true]
    exact fun m hm => rfl
  refine ascT_ext (all _) (all _) fun z => ?_
  rw [List.mem_map, List.mem_map]
  constructor
  · rintro ⟨x, hx, rfl⟩
    exact ⟨x, (h.mem x).mp hx, rfl⟩
  · rintro ⟨x, hx, rfl⟩
    exact ⟨x, (h.mem x).mpr hx, rfl⟩
theorem lcI_all {j : Nat} {K : List T → DSt → Prop} {τ : DSt} (hC : ∀ s, slotAt (setSlot τ j s) j = s) (hA : ∀ s, wipeT (setSlot τ j s) [j] = τ) :
    ∀ (us acc : List T), acc.length + us.length ≤ 1000000 → K (acc ++ us) τ → lcI [j] (dgName j) dYes (dVar j) K us acc τ := by
  intro us
  induction us with
  | nil => intro acc _ h; rw [List.append_nil] at h; exact h
  | cons u us ih =>
    intro acc hl h
    rw [List.length_cons] at hl
    refine Br.yes rfl ?_
    show dVar j (setSlot τ j (some (.val u))) _
    unfold dVar
    rw [hC]
    refine ⟨by rw [sizeLine_is]; omega, ?_⟩
    rw [hA]
    exact ih _ (by rw [List.length_append, List.length_singleton]; omega) (by rw [List.append_assoc]; exact h)
/-- the names of all rows, row after row -/
theorem lc2_flat {β : Type} {i j : Nat} {d1 : DI} {Q : DK} {ts : List T} {τ : DSt} (e : β → T) (A : β → List Str) (xs : List β) (et : ts = xs.map e)
    (hA : ∀ a s, wipeT (setSlot (setSlot τ i a) j s) [j] = setSlot τ i a) (hB : ∀ a, wipeT (setSlot τ i a) [i, j] = τ) (hC : ∀ a s, slotAt (setSlot (setSlot τ i a) j s) j = s) (hD : ∀ a, wipeT (setSlot τ i a) [j] = setSlot τ i a)
    (hl : (xs.flatMap A).length ≤ 1000000)
    (hx : ∀ x ∈ xs, ∀ K : List T → DSt → Prop, (∀ ys : List Str, Sub ys (A x) → K (ys.map .str) (setSlot τ i (some (.val (e x))))) → d1 (setSlot τ i (some (.val (e x)))) K)
    (h : ∀ zs : List Str, Sub zs (xs.flatMap A) → Q (.fr (zs.map .str)) τ) : Loop (lcO [i, j] [j] (dgName i) dYes d1 (dgName j) dYes (dVar j) Q ts [] τ) := by
  subst et
  rw [Loop.eq]
  have key : ∀ (post pre : List β) (zs : List Str), xs = pre ++ post → Sub zs (pre.flatMap A) → lcO [i, j] [j] (dgName i) dYes d1 (dgName j) dYes (dVar j) Q (post.map e) (zs.map .str) τ := by
    intro post
    induction post with
    | nil =>
      intro pre zs ex hz
      rw [List.append_nil] at ex
      subst ex
      exact h zs hz
    | cons x post ih =>
      intro pre zs ex hz
      refine Br.yes rfl (hx x (by rw [ex]; simp) _ fun ys hy => ?_)
      show Loop _
      rw [Loop.eq, hD]
      have hz2 : Sub (zs ++ ys) ((pre ++ [x]).flatMap A) := by
        rw [List.flatMap_append]
        simpa using hz.app hy
      refine lcI_all (hC _) (hA _) _ _ ?_ ?_
      · rw [List.length_map, List.length_map]
        have := hz2.len
        rw [List.length_append] at this
        rw [ex, List.flatMap_append, List.flatMap_cons] at hl
        rw [List.flatMap_append] at this
        simp at this hl
        omega
      · rw [hB, ← List.map_append]
        exact ih (pre ++ [x]) _ (by rw [ex]; simp) hz2
  exact key xs [] [] rfl (Sub.refl _)
/-- the names whose bits are set -/
def bits : List Str → Nat → List Str
  | [], _ => []
  | x :: xs, i => (if i % 2 = 1 then [x] else []) ++ bits xs (i / 2)
theorem bits_snoc (x : Str) : ∀ (xs : List Str) (i : Nat), bits (xs ++ [x]) i = bits xs i ++ (if i / 2 ^ xs.length % 2 = 1 then [x] else [])
  | [], i => by simp [bits]
  | y :: ys, i => by
    show (if i % 2 = 1 then [y] else []) ++ bits (ys ++ [x]) (i / 2) = ((if i % 2 = 1 then [y] else []) ++ bits ys (i / 2)) ++ _
    rw [bits_snoc x ys, List.append_assoc, List.length_cons, Nat.pow_succ, Nat.div_div_eq_div_mul, Nat.mul_comm 2]
theorem bits_add : ∀ (xs : List Str) (c j : Nat), bits xs (2 ^ xs.length * c + j) = bits xs j
  | [], c, j => rfl
  | y :: ys, c, j => by
    have e : 2 ^ (y :: ys).length * c = 2 * (2 ^ ys.length * c) := by rw [List.length_cons, Nat.pow_succ, Nat.mul_comm _ 2, Nat.mul_assoc]
    rw [e]
    generalize hp : 2 ^ ys.length * c = p
    show (if (2 * p + j) % 2 = 1 then [y] else []) ++ bits ys ((2 * p + j) / 2) = (if j % 2 = 1 then [y] else []) ++ bits ys (j / 2)
    rw [show (2 * p + j) % 2 = j % 2 by omega, show (2 * p + j) / 2 = p + j / 2 by omega, ← hp, bits_add ys]
theorem wld_bits : ∀ (n : Nat) (names : List Str), names.length = n → wld names = (List.range (2 ^ n)).map (bits names)
  | 0, names, h => by
    cases names with
    | nil => rfl
    | cons => simp at h
  | n + 1, names, h => by
    have hne : names ≠ [] := by intro z; subst z; simp at h
    obtain ⟨xs, x, rfl⟩ : ∃ xs x, names = xs ++ [x] := ⟨_, _, (List.dropLast_concat_getLast hne).symm⟩
    have hl : xs.length = n := by simpa using h
    have ih := wld_bits n xs hl
    rw [wld_snoc, Nat.pow_succ, Nat.mul_two, List.range_add, List.map_append, List.map_map, ih, List.map_map]
    congr 1
    · refine List.map_congr_left fun i hi => ?_
      rw [bits_snoc, hl, Nat.div_eq_of_lt (List.mem_range.mp hi)]
      simp
    · refine List.map_congr_left fun i hi => ?_
      show _ = bits (xs ++ [x]) (2 ^ n + i)
      have e1 : bits xs (2 ^ n + i) = bits xs i := by
        have := bits_add xs 1 i
        rw [hl, Nat.mul_one] at this
        exact this
      have e2 : (2 ^ n + i) / 2 ^ n = 1 := by
        rw [Nat.add_div_left _ (Nat.pow_pos (by decide)), Nat.div_eq_of_lt (List.mem_range.mp hi)]
      rw [bits_snoc, hl, e1, e2]
      rfl
theorem bits_filter (i : Nat) : ∀ (n : Nat) (names : List Str), names.length = n → bits names i = ((List.range n).filter fun k => decide (i / 2 ^ k % 2 = 1)).map fun k => names.getD k default
  | 0, names, h => by
    cases names with
    | nil => rfl
    | cons => simp at h
  | n + 1, names, h => by
    have hne : names ≠ [] := by intro z; subst z; simp at h
    obtain ⟨xs, x, rfl⟩ : ∃ xs x, names = xs ++ [x] := ⟨_, _, (List.dropLast_concat_getLast hne).symm⟩
    have hl : xs.length = n := by simpa using h
    rw [bits_snoc, bits_filter i n xs hl, List.range_succ, List.filter_append, List.map_append, hl]
    congr 1
    · refine List.map_congr_left fun k hk => ?_
      have hk := List.mem_range.mp (List.mem_filter.mp hk).1
      simp [List.getD, List.getElem?_append_left (show k < xs.length by omega)]
    · by_cases hb : i / 2 ^ n % 2 = 1
      · rw [if_pos hb, List.filter_cons_of_pos (by simpa using hb)]
        subst hl
        simp
      · rw [if_neg hb, List.filter_cons_of_neg (by simpa using hb)]
        rfl
theorem pow_ix : ∀ (k : Nat), k < 7 → atT [T.int 1, T.int 2, T.int 4, T.int 8, T.int 16, T.int 32, T.int 64] (k : Int) = some (.int ((2 ^ k : Nat) : Int))
  | 0, _ => rfl
  | 1, _ => rfl
  | 2, _ => rfl
  | 3, _ => rfl
  | 4, _ => rfl
  | 5, _ => rfl
  | 6, _ => rfl
  | k + 7, h => by omega
/-- a comprehension with a test -/
theorem lc_filter {β : Type} {ts : List T} {i : Nat} {tt : DT} {te : DE} {Q : DK} {τ : DSt} (e f : β → T) (p : β → Bool) (xs : List β) (et : ts = xs.map e) (hw : ∀ s, wipeT (setSlot τ i s) [i] = τ)
    (ht : ∀ x ∈ xs, ∀ K : Bool → DSt → Prop, K (p x) (setSlot τ i (some (.val (e x)))) → tt (setSlot τ i (some (.val (e x)))) K)
    (hx : ∀ x ∈ xs, p x = true → ∀ K : DK, K (.v (f x)) (setSlot τ i (some (.val (e x)))) → te (setSlot τ i (some (.val (e x)))) K) (h : Q (.fr ((xs.filter p).map f)) τ) : Loop (lcL [i] (dgName i) tt te Q ts [] τ) := by
  rw [Loop.eq, et]
  have key : ∀ (post : List β) (acc : List T), (∀ x ∈ post, x ∈ xs) → Q (.fr (acc ++ (post.filter p).map f)) τ → lcL [i] (dgName i) tt te Q (post.map e) acc τ := by
    intro post
    induction post with
    | nil => intro acc _ h; rw [List.filter_nil, List.map_nil, List.append_nil] at h; exact h
    | cons x post ih =>
      intro acc hm h
      have hxm := hm x List.mem_cons_self
      refine ht x hxm _ ?_
      cases hp : p x with
      | true =>
        rw [List.filter_cons_of_pos hp] at h
        refine Br.yes rfl (hx x hxm hp _ ?_)
        show lcL _ _ _ _ _ _ _ (wipeT _ _)
        rw [hw]
        exact ih _ (fun y hy => hm y (List.mem_cons_of_mem _ hy)) (by rw [List.append_assoc]; exact h)
      | false =>
        rw [List.filter_cons_of_neg (by rw [hp]; simp)] at h
        refine Br.no rfl ?_
        rw [hw]
        exact ih _ (fun y hy => hm y (List.mem_cons_of_mem _ hy)) h
  exact key xs [] (fun x h => h) h
/-- a range loop that may be left by break: the same I then holds -/
theorem range_b {g : DG} {tb : DS} {D : DEnds} {m : Nat} {lo : Int} {τ0 : DSt} (ix dc : List Nat) (I : List (Option Slot) → Prop)
    (v0 : List (Option Slot)) (e0 : τ0 = putF (putS τ0 ix v0) dc (slotO τ0)) (h0 : I v0)
    (hs : ∀ i, i < m → ∀ vals w, I vals → ∀ K B : DSt → Prop, (∀ τ' vals', τ' = putF (putS τ0 ix vals') dc (slotO τ') → I vals' → K τ') → (∀ τ' vals', τ' = putF (putS τ0 ix vals') dc (slotO τ') → I vals' → B τ') → g (.int (lo + (i : Nat))) (putF (putS τ0 ix vals) dc w) fun τ1 => tb { D with nx := K, ct := K, bk := B } τ1)
    (hd : ∀ vals w, I vals → D.nx (putF (putS τ0 ix vals) dc w)) : Loop (forL g tb D (intsFrom lo m) τ0) := by
  refine range_s ix dc (fun _ vs => I vs) v0 e0 h0 (fun i hi vals w hI K hK => ?_) hd
  refine hs i hi vals w hI K D.nx hK fun τ' vals' e h => ?_
  rw [e]
  exact hd vals' _ h
theorem steps_lt (j c : Int) : ∀ (n : Nat) (lo : Int), 0 < c → (∀ k : Nat, k < n → lo + c * (k : Int) < j) → ∃ js : List Int, stepsT lo c n = js.map .int ∧ ∀ x ∈ js, lo ≤ x ∧ x < j
  | 0, lo, _, _ => ⟨[], rfl, fun x hx => by cases hx⟩
  | n + 1, lo, hc, h => by
    have h0 := h 0 (by omega)
    obtain ⟨js, e, hj⟩ := steps_lt j c n (lo + c) hc fun k hk => by
      have := h (k + 1) (by omega)
      have e : c * ((k + 1 : Nat) : Int) = c * (k : Int) + c := by
        rw [Int.natCast_succ, Int.mul_add, Int.mul_one]
      omega
    refine ⟨lo :: js, by show _ :: stepsT (lo + c) c n = _; rw [e]; rfl, fun x hx => ?_⟩
    rcases List.mem_cons.mp hx with rfl | hx
    · simp at h0
      exact ⟨Int.le_refl _, h0⟩
    · have := hj x hx
      omega
theorem steps_in (i j c : Int) (hc : 0 < c) : ∃ js : List Int, stepsT i c (PySem.Builtin.Range.rangeSize i j c).toNat = js.map .int ∧ ∀ x ∈ js, i ≤ x ∧ x < j := by
  refine steps_lt j c _ i hc fun k hk => ?_
  unfold PySem.Builtin.Range.rangeSize at hk
  rw [if_pos hc] at hk
  split at hk
  · have h1 : (k : Int) ≤ (j - i - 1) / c := by omega
    have h2 := Int.mul_le_mul_of_nonneg_left h1 (show 0 ≤ c by omega)
    have h3 : c * ((j - i - 1) / c) ≤ j - i - 1 := Int.mul_ediv_self_le (by omega)
    omega
  · simp at hk
theorem Fm.on_mono (p q : Str → Bool) (h : ∀ x, p x = true → q x = true) : ∀ m : Fm, Fm.pos m = true → Fm.on p m = true → Fm.on q m = true := by
  refine Fm.ind (fun x _ => h x) (fun m _ z => by cases z) (fun b ms ih hp => ?_)
  have hq := Fm.poss_iff.mp (show Fm.poss ms = true from hp)
  cases b with
  | true =>
    rw [(Fm.ons_all p ms).1, (Fm.ons_all q ms).1, List.all_eq_true, List.all_eq_true]
    exact fun g x hx => ih x hx (hq x hx) (g x hx)
  | false =>
    rw [(Fm.ons_all p ms).2, (Fm.ons_all q ms).2, List.any_eq_true, List.any_eq_true]
    exact fun ⟨x, hx, g⟩ => ⟨x, hx, ih x hx (hq x hx) g⟩
end N1
namespace N1
open PySem (Str sizeLine)
/-- a comprehension with two for: row after row -/
theorem lcI_gen {γ : Type} {j : Nat} {te : DE} {K : List T → DSt → Prop} {τ : DSt} (g f : γ → T) (hA : ∀ s, wipeT (setSlot τ j s) [j] = τ) :
    ∀ (us : List γ) (acc : List T), acc.length + us.length ≤ 1000000 → (∀ u ∈ us, ∀ Q : DK, Q (.v (f u)) (setSlot τ j (some (.val (g u)))) → te (setSlot τ j (some (.val (g u)))) Q) → K (acc ++ us.map f) τ → lcI [j] (dgName j) dYes te K (us.map g) acc τ := by
  intro us
  induction us with
  | nil => intro acc _ _ h; rw [List.map_nil, List.append_nil] at h; exact h
  | cons u us ih =>
    intro acc hl hu h
    rw [List.length_cons] at hl
    refine Br.yes rfl ?_
    refine hu u List.mem_cons_self _ ?_
    refine ⟨by rw [sizeLine_is]; omega, ?_⟩
    rw [hA]
    exact ih _ (by rw [List.length_append, List.length_singleton]; omega) (fun v hv => hu v (List.mem_cons_of_mem _ hv)) (by rw [List.append_assoc]; exact h)
theorem lc2_gen {β γ : Type} {i j : Nat} {d1 : DI} {te : DE} {Q : DK} {ts : List T} {τ : DSt} (e : β → T) (U : β → List γ) (g : γ → T) (f : β → γ → T) (xs : List β) (et : ts = xs.map e)
    (hA : ∀ a s, wipeT (setSlot (setSlot τ i a) j s) [j] = setSlot τ i a) (hB : ∀ a, wipeT (setSlot τ i a) [i, j] = τ) (hD : ∀ a, wipeT (setSlot τ i a) [j] = setSlot τ i a)
    (hl : (xs.flatMap fun x => (U x).map (f x)).length ≤ 1000000)
    (hx : ∀ x ∈ xs, ∀ K : List T → DSt → Prop, K ((U x).map g) (setSlot τ i (some (.val (e x)))) → d1 (setSlot τ i (some (.val (e x)))) K)
    (hu : ∀ x ∈ xs, ∀ u ∈ U x, ∀ Q : DK, Q (.v (f x u)) (setSlot (setSlot τ i (some (.val (e x)))) j (some (.val (g u)))) → te (setSlot (setSlot τ i (some (.val (e x)))) j (some (.val (g u)))) Q)
    (h : Q (.fr (xs.flatMap fun x => (U x).map (f x))) τ) : Loop (lcO [i, j] [j] (dgName i) dYes d1 (dgName j) dYes te Q ts [] τ) := by
  subst et
  rw [Loop.eq]
  have key : ∀ (post pre : List β), xs = pre ++ post → lcO [i, j] [j] (dgName i) dYes d1 (dgName j) dYes te Q (post.map e) (pre.flatMap fun x => (U x).map (f x)) τ := by
    intro post
    induction post with
    | nil =>
      intro pre ex
      rw [List.append_nil] at ex
      subst ex
      exact h
    | cons x post ih =>
      intro pre ex
      have hxm : x ∈ xs := by rw [ex]; simp
      refine Br.yes rfl (hx x hxm _ ?_)
      show Loop _
      rw [Loop.eq, hD]
      refine lcI_gen g (f x) (hA _) _ _ ?_ (hu x hxm) ?_
      · rw [ex, List.flatMap_append, List.flatMap_cons, List.length_append, List.length_append, List.length_map] at hl
        omega
      · rw [hB]
        have := ih (pre ++ [x]) (by rw [ex]; simp)
        rw [List.flatMap_append, List.flatMap_cons, List.flatMap_nil, List.append_nil] at this
        exact this
  exact key xs [] rfl
/-- a smaller world has a smaller number -/
theorem bits_mem : ∀ (xs : List Str) (i : Nat), ∀ x ∈ bits xs i, x ∈ xs
  | [], _, _, h => h
  | y :: ys, i, x, h => by
    rcases List.mem_append.mp h with h | h
    · split at h
      · rw [List.mem_singleton.mp h]; exact List.mem_cons_self
      · cases h
    · exact List.mem_cons_of_mem _ (bits_mem ys _ x h)
theorem bits_le : ∀ (xs : List Str) (i j : Nat), xs.Nodup → i < 2 ^ xs.length → j < 2 ^ xs.length → (∀ x ∈ bits xs i, x ∈ bits xs j) → i ≤ j
  | [], i, j, _, hi, _, _ => by
    have : i < 1 := hi
    omega
  | y :: ys, i, j, hn, hi, hj, h => by
    rw [List.nodup_cons] at hn
    rw [List.length_cons, Nat.pow_succ] at hi hj
    have h1 : i / 2 ≤ j / 2 := bits_le ys _ _ hn.2 (by omega) (by omega) fun x hx => by
      have hm := h x (List.mem_append_right _ hx)
      rcases List.mem_append.mp hm with hm | hm
      · split at hm
        · rw [List.mem_singleton.mp hm] at hx
          exact absurd (bits_mem ys _ _ hx) hn.1
        · cases hm
      · exact hm
    have h2 : i % 2 = 1 → j % 2 = 1 := fun hi2 => by
      have hm := h y (List.mem_append_left _ (by rw [if_pos hi2]; exact List.mem_cons_self))
      rcases List.mem_append.mp hm with hm | hm
      · split at hm
        · assumption
        · cases hm
      · exact absurd (bits_mem ys _ _ hm) hn.1
    omega
/-- a comprehension whose item is a fresh list -/
theorem lc_fr {β : Type} {ts : List T} {i : Nat} {te : DE} {Q : DK} {τ : DSt} (e f : β → T) (xs : List β) (et : ts = xs.map e) (hw : ∀ s, wipeT (setSlot τ i s) [i] = τ)
    (hx : ∀ x ∈ xs, ∀ K : T → DSt → Prop, K (f x) (setSlot τ i (some (.val (e x)))) → te (setSlot τ i (some (.val (e x)))) fun tk τ4 => froze τ4 tk K) (h : Q (.fr (xs.map f)) τ) : Loop (lcL [i] (dgName i) dYes te Q ts [] τ) := by
  rw [Loop.eq, et]
  have key : ∀ (post : List β) (acc : List T), (∀ x ∈ post, x ∈ xs) → Q (.fr (acc ++ post.map f)) τ → lcL [i] (dgName i) dYes te Q (post.map e) acc τ := by
    intro post
    induction post with
    | nil => intro acc _ h; rw [List.map_nil, List.append_nil] at h; exact h
    | cons x post ih =>
      intro acc hm h
      refine Br.yes rfl (hx x (hm x List.mem_cons_self) _ ?_)
      show lcL _ _ _ _ _ _ _ (wipeT _ _)
      rw [hw]
      exact ih _ (fun y hy => hm y (List.mem_cons_of_mem _ hy)) (by rw [List.append_assoc]; exact h)
  exact key xs [] (fun x h => h) h
end N1
namespace K45
open PySem PySem.Spec PyProof.Rows L2 N1
/-! the text -/
def topS (i : Nat) : Stmt := PySem.Challenge.pw_nevernot_k45_count_ladder_serves.main.body.getD i (.Pass ⟨0, 0, 0, 0⟩)
inductive Fn where
  | law
  | law_named
  | law_cell
  | law_spots
  | law_book
  | law_worlds
  | count_ladder
  | law_same
  | law_p
  | law_levels
  | law_bent
  | find_misfit
  | law_digits
  | law_spoilt
  | law_told
  | law_misfit
  | law_ascending
  | law_spot
  | law_take_viv
  | law_formula_vivv
  | law_keeps
  | at_least
  | law_whole
  | law_count
  | leaf_worlds
  | others
  | law_q
  | law_on
  | leaves_of
  | law_over_vivv
  | law_size
  | worlds_of
  | levels_of
  | picture_of
  | signature_of
  | stands_on
  | misfit_in
  | law_picture
  | law_below
  | all_worlds
  | keeps
  | levels_on
  | is_on
  | is_below
abbrev Cal := Fn → DSp
abbrev s_law : Stmt := topS 51
theorem sc_law : FnScope ["script", "names", "places", "book", "worlds", "ladder", "formulas", "k", "picks", "spoilt", "steps"] ["script"] (defScope s_law) := ⟨rfl, rfl, rfl, by decide +kernel, rfl, by decide +kernel, by decide +kernel⟩
abbrev s_law_named : Stmt := topS 30
theorem sc_law_named : FnScope ["cell", "head", "many", "menus", "signs", "found", "k", "part", "name", "sign"] ["cell"] (defScope s_law_named) := ⟨rfl, rfl, rfl, by decide +kernel, rfl, by decide +kernel, by decide +kernel⟩
abbrev s_law_cell : Stmt := topS 26
theorem sc_law_cell : FnScope ["script", "k", "seed", "cell"] ["script", "k"] (defScope s_law_cell) := ⟨rfl, rfl, rfl, by decide +kernel, rfl, by decide +kernel, by decide +kernel⟩
abbrev s_law_spots : Stmt := topS 33
theorem sc_law_spots : FnScope ["script", "at", "names", "menu", "head", "found", "k"] ["script", "at", "names", "menu"] (defScope s_law_spots) := ⟨rfl, rfl, rfl, by decide +kernel, rfl, by decide +kernel, by decide +kernel⟩
abbrev s_law_book : Stmt := topS 34
theorem sc_law_book : FnScope ["cell", "names", "row", "at", "lines", "turn", "sides", "side", "found", "k"] ["cell", "names"] (defScope s_law_book) := ⟨rfl, rfl, rfl, by decide +kernel, rfl, by decide +kernel, by decide +kernel⟩
abbrev s_law_worlds : Stmt := topS 37
theorem sc_law_worlds : FnScope ["book", "names", "found", "name", "kept", "world", "good", "sequent"] ["book", "names"] (defScope s_law_worlds) := ⟨rfl, rfl, rfl, by decide +kernel, rfl, by decide +kernel, by decide +kernel⟩
abbrev s_count_ladder : Stmt := topS 5
theorem sc_count_ladder : FnScope ["places", "many", "k"] ["places"] (defScope s_count_ladder) := ⟨rfl, rfl, rfl, by decide +kernel, rfl, by decide +kernel, by decide +kernel⟩
abbrev s_law_same : Stmt := topS 42
theorem sc_law_same : FnScope ["told", "due", "k"] ["told", "due"] (defScope s_law_same) := ⟨rfl, rfl, rfl, by decide +kernel, rfl, by decide +kernel, by decide +kernel⟩
abbrev s_law_p : Stmt := topS 40
theorem sc_law_p : FnScope ["places", "j", "k"] ["places", "j", "k"] (defScope s_law_p) := ⟨rfl, rfl, rfl, by decide +kernel, rfl, by decide +kernel, by decide +kernel⟩
abbrev s_law_levels : Stmt := topS 50
theorem sc_law_levels : FnScope ["book", "names", "worlds", "places", "ladder", "q", "k", "lot", "i", "opposite", "world"] ["book", "names", "worlds", "places", "ladder"] (defScope s_law_levels) := ⟨rfl, rfl, rfl, by decide +kernel, rfl, by decide +kernel, by decide +kernel⟩
abbrev s_law_bent : Stmt := topS 45
theorem sc_law_bent : FnScope ["cell", "places", "row", "found"] ["cell", "places"] (defScope s_law_bent) := ⟨rfl, rfl, rfl, by decide +kernel, rfl, by decide +kernel, by decide +kernel⟩
abbrev s_find_misfit : Stmt := topS 23
theorem sc_find_misfit : FnScope ["book", "names", "plan", "formulas", "signs", "worlds", "levels", "pictures", "signatures", "leaf", "lot", "pair", "world", "index"] ["book", "names", "plan", "formulas", "signs"] (defScope s_find_misfit) := ⟨rfl, rfl, rfl, by decide +kernel, rfl, by decide +kernel, by decide +kernel⟩
abbrev s_law_digits : Stmt := topS 27
theorem sc_law_digits : FnScope ["cell", "sizes", "row", "rest", "size", "seed", "k", "twice"] ["cell", "sizes"] (defScope s_law_digits) := ⟨rfl, rfl, rfl, by decide +kernel, rfl, by decide +kernel, by decide +kernel⟩
abbrev s_law_spoilt : Stmt := topS 48
theorem sc_law_spoilt : FnScope ["ladder", "picks", "names", "steps", "atom", "one", "two", "saved"] ["ladder", "picks", "names"] (defScope s_law_spoilt) := ⟨rfl, rfl, rfl, by decide +kernel, rfl, by decide +kernel, by decide +kernel⟩
abbrev s_law_told : Stmt := topS 49
theorem sc_law_told : FnScope ["told", "due"] ["told", "due"] (defScope s_law_told) := ⟨rfl, rfl, rfl, by decide +kernel, rfl, by decide +kernel, by decide +kernel⟩
abbrev s_law_misfit : Stmt := topS 47
theorem sc_law_misfit : FnScope ["worlds", "ladder", "formulas", "steps", "level", "lot", "pictures", "a", "b", "world"] ["worlds", "ladder", "formulas"] (defScope s_law_misfit) := ⟨rfl, rfl, rfl, by decide +kernel, rfl, by decide +kernel, by decide +kernel⟩
abbrev s_law_ascending : Stmt := topS 29
theorem sc_law_ascending : FnScope ["items", "rows", "item"] ["items"] (defScope s_law_ascending) := ⟨rfl, rfl, rfl, by decide +kernel, rfl, by decide +kernel, by decide +kernel⟩
abbrev s_law_spot : Stmt := topS 32
theorem sc_law_spot : FnScope ["cell", "names", "row", "at", "kind"] ["cell", "names"] (defScope s_law_spot) := ⟨rfl, rfl, rfl, by decide +kernel, rfl, by decide +kernel, by decide +kernel⟩
abbrev s_law_take : Stmt := topS 28
theorem sc_law_take : FnScope ["row", "at", "size", "value"] ["row", "at", "size"] (defScope s_law_take) := ⟨rfl, rfl, rfl, by decide +kernel, rfl, by decide +kernel, by decide +kernel⟩
abbrev s_law_formula : Stmt := topS 31
theorem sc_law_formula : FnScope ["row", "at", "names", "deep", "pick", "members", "k"] ["row", "at", "names", "deep"] (defScope s_law_formula) := ⟨rfl, rfl, rfl, by decide +kernel, rfl, by decide +kernel, by decide +kernel⟩
abbrev s_law_keeps : Stmt := topS 36
theorem sc_law_keeps : FnScope ["world", "sequent", "formula"] ["world", "sequent"] (defScope s_law_keeps) := ⟨rfl, rfl, rfl, by decide +kernel, rfl, by decide +kernel, by decide +kernel⟩
abbrev s_at_least : Stmt := topS 3
theorem sc_at_least : FnScope ["places", "j", "k", "with_last"] ["places", "j", "k"] (defScope s_at_least) := ⟨rfl, rfl, rfl, by decide +kernel, rfl, by decide +kernel, by decide +kernel⟩
abbrev s_law_whole : Stmt := topS 25
theorem sc_law_whole : FnScope ["value"] ["value"] (defScope s_law_whole) := ⟨rfl, rfl, rfl, by decide +kernel, rfl, by decide +kernel, by decide +kernel⟩
abbrev s_law_count : Stmt := topS 46
theorem sc_law_count : FnScope ["places", "world", "place"] ["places", "world"] (defScope s_law_count) := ⟨rfl, rfl, rfl, by decide +kernel, rfl, by decide +kernel, by decide +kernel⟩
abbrev s_leaf_worlds : Stmt := topS 21
theorem sc_leaf_worlds : FnScope ["book", "names", "plan", "leaf", "worlds", "world"] ["book", "names", "plan", "leaf"] (defScope s_leaf_worlds) := ⟨rfl, rfl, rfl, by decide +kernel, rfl, by decide +kernel, by decide +kernel⟩
abbrev s_others : Stmt := topS 4
theorem sc_others : FnScope ["places", "i", "j", "k", "with_last"] ["places", "i", "j", "k"] (defScope s_others) := ⟨rfl, rfl, rfl, by decide +kernel, rfl, by decide +kernel, by decide +kernel⟩
abbrev s_law_q : Stmt := topS 41
theorem sc_law_q : FnScope ["places", "i", "j", "k"] ["places", "i", "j", "k"] (defScope s_law_q) := ⟨rfl, rfl, rfl, by decide +kernel, rfl, by decide +kernel, by decide +kernel⟩
abbrev s_law_on : Stmt := topS 35
theorem sc_law_on : FnScope ["member", "world", "part"] ["member", "world"] (defScope s_law_on) := ⟨rfl, rfl, rfl, by decide +kernel, rfl, by decide +kernel, by decide +kernel⟩
abbrev s_leaves_of : Stmt := topS 17
theorem sc_leaves_of : FnScope ["plan", "leaves", "ladder", "leaf", "level"] ["plan"] (defScope s_leaves_of) := ⟨rfl, rfl, rfl, by decide +kernel, rfl, by decide +kernel, by decide +kernel⟩
abbrev s_law_over : Stmt := topS 44
theorem sc_law_over : FnScope ["row", "at", "places", "deep", "parts", "k", "inner"] ["row", "at", "places", "deep"] (defScope s_law_over) := ⟨rfl, rfl, rfl, by decide +kernel, rfl, by decide +kernel, by decide +kernel⟩
abbrev s_law_size : Stmt := topS 43
theorem sc_law_size : FnScope ["member", "part"] ["member"] (defScope s_law_size) := ⟨rfl, rfl, rfl, by decide +kernel, rfl, by decide +kernel, by decide +kernel⟩
abbrev s_worlds_of : Stmt := topS 11
theorem sc_worlds_of : FnScope ["book", "names", "world", "sequent"] ["book", "names"] (defScope s_worlds_of) := ⟨rfl, rfl, rfl, by decide +kernel, rfl, by decide +kernel, by decide +kernel⟩
abbrev s_levels_of : Stmt := topS 19
theorem sc_levels_of : FnScope ["plan", "world", "ladder"] ["plan", "world"] (defScope s_levels_of) := ⟨rfl, rfl, rfl, by decide +kernel, rfl, by decide +kernel, by decide +kernel⟩
abbrev s_picture_of : Stmt := topS 15
theorem sc_picture_of : FnScope ["formulas", "world", "formula"] ["formulas", "world"] (defScope s_picture_of) := ⟨rfl, rfl, rfl, by decide +kernel, rfl, by decide +kernel, by decide +kernel⟩
abbrev s_signature_of : Stmt := topS 13
theorem sc_signature_of : FnScope ["signs", "world", "sign"] ["signs", "world"] (defScope s_signature_of) := ⟨rfl, rfl, rfl, by decide +kernel, rfl, by decide +kernel, by decide +kernel⟩
abbrev s_stands_on : Stmt := topS 20
theorem sc_stands_on : FnScope ["levels", "leaf", "found", "level"] ["levels", "leaf"] (defScope s_stands_on) := ⟨rfl, rfl, rfl, by decide +kernel, rfl, by decide +kernel, by decide +kernel⟩
abbrev s_misfit_in : Stmt := topS 22
theorem sc_misfit_in : FnScope ["lot", "pictures", "signatures", "worlds", "low", "high"] ["lot", "pictures", "signatures", "worlds"] (defScope s_misfit_in) := ⟨rfl, rfl, rfl, by decide +kernel, rfl, by decide +kernel, by decide +kernel⟩
abbrev s_law_picture : Stmt := topS 39
theorem sc_law_picture : FnScope ["formulas", "world", "formula"] ["formulas", "world"] (defScope s_law_picture) := ⟨rfl, rfl, rfl, by decide +kernel, rfl, by decide +kernel, by decide +kernel⟩
abbrev s_law_below : Stmt := topS 38
theorem sc_law_below : FnScope ["low", "high", "name"] ["low", "high"] (defScope s_law_below) := ⟨rfl, rfl, rfl, by decide +kernel, rfl, by decide +kernel, by decide +kernel⟩
abbrev s_all_worlds : Stmt := topS 10
theorem sc_all_worlds : FnScope ["names", "found", "name", "world"] ["names"] (defScope s_all_worlds) := ⟨rfl, rfl, rfl, by decide +kernel, rfl, by decide +kernel, by decide +kernel⟩
abbrev s_keeps : Stmt := topS 8
theorem sc_keeps : FnScope ["world", "sequent", "formula"] ["world", "sequent"] (defScope s_keeps) := ⟨rfl, rfl, rfl, by decide +kernel, rfl, by decide +kernel, by decide +kernel⟩
abbrev s_levels_on : Stmt := topS 18
theorem sc_levels_on : FnScope ["ladder", "world", "values", "formula", "level"] ["ladder", "world"] (defScope s_levels_on) := ⟨rfl, rfl, rfl, by decide +kernel, rfl, by decide +kernel, by decide +kernel⟩
abbrev s_is_on : Stmt := topS 7
theorem sc_is_on : FnScope ["member", "world", "part"] ["member", "world"] (defScope s_is_on) := ⟨rfl, rfl, rfl, by decide +kernel, rfl, by decide +kernel, by decide +kernel⟩
abbrev s_is_below : Stmt := topS 9
theorem sc_is_below : FnScope ["low", "high", "name"] ["low", "high"] (defScope s_is_below) := ⟨rfl, rfl, rfl, by decide +kernel, rfl, by decide +kernel, by decide +kernel⟩
/-! the readings -/
def c_SURE : N1.T := (.tup [(.str (Str.ofString "all")), (.tup [])])
def c_NEVER : N1.T := (.tup [(.str (Str.ofString "some")), (.tup [])])
def rd_law_L0 (C : Cal) : DS :=
  (dAppend 6 (dCall (C .law_bent) [false, false] [] (dCons (dCall (C .law_cell) [false, false] [] (dCons (dVar 0) (dCons (dOp opAdd (dC (.int 8)) (dVar 7)) dNil))) (dCons (dVar 2) dNil))))
def rd_law_L1 (C : Cal) : DS :=
  (dIf (dNot (dTruth (dCall (C .law_told) [false, false] [] (dCons (dCall (C .find_misfit) [false, false, false, false] [(.tup [])] (dCons (dVar 3) (dCons (dVar 1) (dCons (dTup 1 (dCons (dVar 10) dNil)) (dCons (dCallB bTuple (dCons (dVar 6) dNil)) dNil))))) (dCons (dCall (C .law_misfit) [false, false, false] [] (dCons (dVar 4) (dCons (dVar 10) (dCons (dVar 6) dNil)))) dNil))))) (dRet (dC (.bl false))) dNext)
def rd_law_J0 (C : Cal) : DS :=
  (dSeq (dAsg 5 (dCall (C .count_ladder) [false] [] (dCons (dVar 2) dNil)))
  (dSeq (dIf (dNot (dTruth (dCall (C .law_same) [false, false] [] (dCons (dVar 5) (dCons (dCallB bTuple (dCons (dLc [7] (diRange1 (dCallB bLen (dCons (dVar 2) dNil))) (dgName 7) dYes (dCall (C .law_p) [false, false, false] [] (dCons (dVar 2) (dCons (dCallB bLen (dCons (dVar 2) dNil)) (dCons (dOp opAdd (dVar 7) (dC (.int 1))) dNil))))) dNil)) dNil))))) (dRet (dC (.bl false))) dNext)
  (dSeq (dIf (dNot (dTruth (dCall (C .law_levels) [false, false, false, false, false] [] (dCons (dVar 3) (dCons (dVar 1) (dCons (dVar 4) (dCons (dVar 2) (dCons (dVar 5) dNil)))))))) (dRet (dC (.bl false))) dNext)
  (dSeq (dAsg 6 (dCallB bList (dCons (dVar 2) dNil)))
  (dSeq (dFor (diRange1 (dCallB bMin (dCons (dC (.int 2)) (dCons (dOp opMul (dC (.int 2)) (dCallB bLen (dCons (dVar 2) dNil))) dNil)))) (dgName 7) (rd_law_L0 C))
  (dSeq (dIf (dTest (dOp opIsNot (dCall (C .find_misfit) [false, false, false, false] [(.tup [])] (dCons (dVar 3) (dCons (dVar 1) (dCons (dTup 1 (dCons (dVar 5) dNil)) (dCons (dVar 2) dNil))))) (dC .non))) (dRet (dC (.bl false))) dNext)
  (dSeq (dIf (dTest (dOp opIsNot (dCall (C .find_misfit) [false, false, false, false] [(.tup [])] (dCons (dVar 3) (dCons (dVar 1) (dCons (dTup 1 (dCons (dVar 5) dNil)) (dCons (dCallB bTuple (dCons (dVar 6) dNil)) dNil))))) (dC .non))) (dRet (dC (.bl false))) dNext)
  (dSeq (dAsg 8 (dCall (C .law_digits) [false, false] [] (dCons (dCall (C .law_cell) [false, false] [] (dCons (dVar 0) (dCons (dC (.int 10)) dNil))) (dCons (dLst 5 (dCons (dC (.int 8)) (dCons (dC (.int 60)) (dCons (dC (.int 60)) (dCons (dC (.int 60)) (dCons (dC (.int 60)) dNil)))))) dNil))))
  (dSeq (dAsg 9 (dCall (C .law_spoilt) [false, false, false] [] (dCons (dVar 5) (dCons (dVar 8) (dCons (dVar 1) dNil)))))
  (dSeq (dIf (dTest (dOp opIsNot (dCall (C .find_misfit) [false, false, false, false] [(.tup [])] (dCons (dVar 3) (dCons (dVar 1) (dCons (dTup 2 (dCons (dVar 9) (dCons (dVar 5) dNil))) (dCons (dCallB bTuple (dCons (dVar 6) dNil)) dNil))))) (dC .non))) (dRet (dC (.bl false))) dNext)
  (dSeq (dAsg 6 (dSl (dVar 6) (dPart (dOp opMod (dCallB bInt (dCons (dOp opIx (dVar 8) (dC (.int 4))) dNil)) (dCallB bMax (dCons (dC (.int 1)) (dCons (dCallB bLen (dCons (dVar 6) dNil)) dNil))))) dNoPart))
  (dSeq (dIf (dNot (dTruth (dCall (C .law_told) [false, false] [] (dCons (dCall (C .find_misfit) [false, false, false, false] [(.tup [])] (dCons (dVar 3) (dCons (dVar 1) (dCons (dTup 1 (dCons (dVar 9) dNil)) (dCons (dCallB bTuple (dCons (dVar 6) dNil)) dNil))))) (dCons (dCall (C .law_misfit) [false, false, false] [] (dCons (dVar 4) (dCons (dVar 9) (dCons (dVar 6) dNil)))) dNil))))) (dRet (dC (.bl false))) dNext)
  (dSeq (dAsg 6 (dOp opAdd (dVar 6) (dLst 1 (dCons (dTup 2 (dCons (dC (.str (Str.ofString "atom"))) (dCons (dOp opIx (dVar 1) (dOp opMod (dCallB bInt (dCons (dOp opIx (dVar 8) (dC (.int 2))) dNil)) (dCallB bLen (dCons (dVar 1) dNil)))) dNil))) dNil))))
  (dSeq (dFor (diAny (dLst 2 (dCons (dVar 9) (dCons (dVar 5) dNil)))) (dgName 10) (rd_law_L1 C))
  (dRet (dC (.bl true)))))))))))))))))
def rd_law (C : Cal) : DS :=
  (dSeq (dAsg 1 (dCall (C .law_named) [false] [] (dCons (dCall (C .law_cell) [false, false] [] (dCons (dVar 0) (dCons (dC (.int 0)) dNil))) dNil)))
  (dSeq (dAsg 2 (dCall (C .law_spots) [false, false, false, false] [] (dCons (dVar 0) (dCons (dC (.int 1)) (dCons (dVar 1) (dCons (dLst 12 (dCons (dC (.int 3)) (dCons (dC (.int 2)) (dCons (dC (.int 4)) (dCons (dC (.int 1)) (dCons (dC (.int 3)) (dCons (dC (.int 5)) (dCons (dC (.int 2)) (dCons (dC (.int 0)) (dCons (dC (.int 3)) (dCons (dC (.int 2)) (dCons (dC (.int 4)) (dCons (dC (.int 3)) dNil))))))))))))) dNil))))))
  (dSeq (dAsg 3 (dCall (C .law_book) [false, false] [] (dCons (dCall (C .law_cell) [false, false] [] (dCons (dVar 0) (dCons (dC (.int 7)) dNil))) (dCons (dVar 1) dNil))))
  (dSeq (dAsg 4 (dCall (C .law_worlds) [false, false] [] (dCons (dVar 3) (dCons (dVar 1) dNil))))
  (dSeq (dIf (dTest (dOp opLt (dCallB bLen (dCons (dVar 4) dNil)) (dC (.int 3)))) (dSeq (dAsg 3 (dTup 0 dNil))
  (dAsg 4 (dCall (C .law_worlds) [false, false] [] (dCons (dVar 3) (dCons (dVar 1) dNil))))) dNext)
  (rd_law_J0 C))))))
def rd_law_named_L0 (C : Cal) : DS :=
  (dAsg 8 (dOp opAdd (dVar 8) (dOp opIx (dVar 4) (dVar 9))))
def rd_law_named_J0 (C : Cal) : DS :=
  (dAppend 5 (dVar 8))
def rd_law_named_L1 (C : Cal) : DS :=
  (dSeq (dAsg 7 (dSl (dVar 1) (dPart (dOp opAdd (dC (.int 3)) (dOp opMul (dC (.int 9)) (dVar 6)))) (dPart (dOp opAdd (dC (.int 12)) (dOp opMul (dC (.int 9)) (dVar 6))))))
  (dSeq (dAsg 8 (dOp opIx (dVar 4) (dOp opIx (dVar 7) (dC (.int 0)))))
  (dSeq (dFor (diAny (dSl (dVar 7) (dPart (dC (.int 2))) (dPart (dOp opAdd (dC (.int 2)) (dOp opIx (dLst 6 (dCons (dC (.int 0)) (dCons (dC (.int 1)) (dCons (dC (.int 2)) (dCons (dC (.int 3)) (dCons (dC (.int 5)) (dCons (dC (.int 7)) dNil))))))) (dOp opIx (dVar 7) (dC (.int 1)))))))) (dgName 9) (rd_law_named_L0 C))
  (dSeq (dIf (dOr (dTest (dOp opIn (dVar 8) (dLst 4 (dCons (dC (.str (Str.ofString "all"))) (dCons (dC (.str (Str.ofString "some"))) (dCons (dC (.str (Str.ofString "not"))) (dCons (dC (.str (Str.ofString "gives"))) dNil))))))) (dTest (dOp opEq (dSl (dVar 8) dNoPart (dPart (dC (.int 2)))) (dC (.str (Str.ofString "no")))))) (dAsg 8 (dOp opAdd (dC (.str (Str.ofString "z"))) (dOp opIx (dVar 4) (dOp opAdd (dC (.int 26)) (dVar 6))))) dNext)
  (rd_law_named_J0 C)))))
def rd_law_named (C : Cal) : DS :=
  (dSeq (dAsg 1 (dCall (C .law_digits) [false, false] [] (dCons (dVar 0) (dCons (dOp opAdd (dLst 3 (dCons (dC (.int 2)) (dCons (dC (.int 6)) (dCons (dC (.int 12)) dNil)))) (dOp opMul (dLst 9 (dCons (dC (.int 26)) (dCons (dC (.int 6)) (dCons (dC (.int 36)) (dCons (dC (.int 36)) (dCons (dC (.int 36)) (dCons (dC (.int 36)) (dCons (dC (.int 36)) (dCons (dC (.int 36)) (dCons (dC (.int 36)) dNil)))))))))) (dC (.int 4)))) dNil))))
  (dSeq (dAsg 2 (dOp opIx (dLst 12 (dCons (dC (.int 3)) (dCons (dC (.int 2)) (dCons (dC (.int 3)) (dCons (dC (.int 4)) (dCons (dC (.int 2)) (dCons (dC (.int 3)) (dCons (dC (.int 4)) (dCons (dC (.int 3)) (dCons (dC (.int 2)) (dCons (dC (.int 4)) (dCons (dC (.int 1)) (dCons (dC (.int 3)) dNil))))))))))))) (dOp opIx (dVar 1) (dC (.int 2)))))
  (dSeq (dIf (dTest (dOp opEq (dOp opIx (dVar 1) (dC (.int 0))) (dC (.int 0)))) (dSeq (dAsg 3 (dLst 6 (dCons (dLst 4 (dCons (dC (.str (Str.ofString "a"))) (dCons (dC (.str (Str.ofString "b"))) (dCons (dC (.str (Str.ofString "c"))) (dCons (dC (.str (Str.ofString "d"))) dNil))))) (dCons (dLst 4 (dCons (dC (.str (Str.ofString "p"))) (dCons (dC (.str (Str.ofString "q1"))) (dCons (dC (.str (Str.ofString "rain"))) (dCons (dC (.str (Str.ofString "s"))) dNil))))) (dCons (dLst 4 (dCons (dC (.str (Str.ofString "b"))) (dCons (dC (.str (Str.ofString "ba"))) (dCons (dC (.str (Str.ofString "bab"))) (dCons (dC (.str (Str.ofString "x9"))) dNil))))) (dCons (dLst 4 (dCons (dC (.str (Str.ofString "door"))) (dCons (dC (.str (Str.ofString "key"))) (dCons (dC (.str (Str.ofString "lamp"))) (dCons (dC (.str (Str.ofString "z"))) dNil))))) (dCons (dLst 4 (dCons (dC (.str (Str.ofString "m1"))) (dCons (dC (.str (Str.ofString "m10"))) (dCons (dC (.str (Str.ofString "m2"))) (dCons (dC (.str (Str.ofString "n"))) dNil))))) (dCons (dLst 4 (dCons (dC (.str (Str.ofString "card"))) (dCons (dC (.str (Str.ofString "code"))) (dCons (dC (.str (Str.ofString "guard"))) (dCons (dC (.str (Str.ofString "night0"))) dNil))))) dNil))))))))
  (dRet (dCallB bTuple (dCons (dSl (dOp opIx (dVar 3) (dOp opIx (dVar 1) (dC (.int 1)))) dNoPart (dPart (dVar 2))) dNil)))) dNext)
  (dSeq (dAsg 4 (dC (.str (Str.ofString "abcdefghijklmnopqrstuvwxyz0123456789"))))
  (dSeq (dAsg 5 (dLst 0 dNil))
  (dSeq (dFor (diRange1 (dVar 2)) (dgName 6) (rd_law_named_L1 C))
  (dRet (dCall (C .law_ascending) [false] [] (dCons (dVar 5) dNil)))))))))
def rd_law_cell_L0 (C : Cal) : DS :=
  (dAsg 2 (dOp opMod (dCallB bInt (dCons (dOp opAdd (dOp opMul (dVar 2) (dC (.int 31))) (dOp opMod (dCallB bInt (dCons (dVar 3) dNil)) (dC (.int 1000003)))) dNil)) (dC (.int 1000003))))
def rd_law_cell (C : Cal) : DS :=
  (dSeq (dIf (dTest (dOp opLt (dVar 1) (dCallB bLen (dCons (dVar 0) dNil)))) (dRet (dOp opIx (dVar 0) (dVar 1))) dNext)
  (dSeq (dAsg 2 (dC (.int 17)))
  (dSeq (dFor (diAny (dVar 0)) (dgName 3) (rd_law_cell_L0 C))
  (dRet (dOp opMod (dCallB bInt (dCons (dOp opMul (dOp opMul (dOp opAdd (dVar 2) (dC (.int 7))) (dOp opAdd (dVar 1) (dC (.int 3)))) (dC (.int 69621))) dNil)) (dC (.int 2147483647)))))))
def rd_law_spots_L0 (C : Cal) : DS :=
  (dAppend 5 (dCall (C .law_spot) [false, false] [] (dCons (dCall (C .law_cell) [false, false] [] (dCons (dVar 0) (dCons (dOp opAdd (dOp opAdd (dVar 1) (dC (.int 1))) (dVar 6)) dNil))) (dCons (dVar 2) dNil))))
def rd_law_spots (C : Cal) : DS :=
  (dSeq (dAsg 4 (dCall (C .law_digits) [false, false] [] (dCons (dCall (C .law_cell) [false, false] [] (dCons (dVar 0) (dCons (dVar 1) dNil))) (dCons (dLst 1 (dCons (dC (.int 12)) dNil)) dNil))))
  (dSeq (dAsg 5 (dLst 0 dNil))
  (dSeq (dFor (diRange1 (dOp opIx (dVar 3) (dOp opIx (dVar 4) (dC (.int 0))))) (dgName 6) (rd_law_spots_L0 C))
  (dRet (dCall (C .law_ascending) [false] [] (dCons (dVar 5) dNil))))))
def rd_law_book_L0 (C : Cal) : DS :=
  (dAppend 8 (dCall (C .law_formula_vivv) [false, true, false, false] [] (dCons (dVar 2) (dCons (dVar 3) (dCons (dVar 1) (dCons (dOp opIx (dLst 3 (dCons (dC (.int 0)) (dCons (dC (.int 0)) (dCons (dC (.int 1)) dNil)))) (dCall (C .law_take_viv) [false, true, false] [] (dCons (dVar 2) (dCons (dVar 3) (dCons (dC (.int 3)) dNil))))) dNil))))))
def rd_law_book_L1 (C : Cal) : DS :=
  (dSeq (dAsg 8 (dLst 0 dNil))
  (dSeq (dFor (diRange1 (dOp opIx (dLst 4 (dCons (dC (.int 1)) (dCons (dC (.int 1)) (dCons (dC (.int 2)) (dCons (dC (.int 0)) dNil))))) (dCall (C .law_take_viv) [false, true, false] [] (dCons (dVar 2) (dCons (dVar 3) (dCons (dC (.int 4)) dNil)))))) (dgName 9) (rd_law_book_L0 C))
  (dAppend 6 (dCall (C .law_ascending) [false] [] (dCons (dVar 8) dNil)))))
def rd_law_book_L2 (C : Cal) : DS :=
  (dSeq (dAsg 6 (dLst 0 dNil))
  (dSeq (dFor (diRange1 (dC (.int 2))) (dgName 7) (rd_law_book_L1 C))
  (dAppend 4 (dTup 2 (dCons (dOp opIx (dVar 6) (dC (.int 0))) (dCons (dOp opIx (dVar 6) (dC (.int 1))) dNil))))))
def rd_law_book (C : Cal) : DS :=
  (dSeq (dAsg 2 (dCall (C .law_digits) [false, false] [] (dCons (dVar 0) (dCons (dOp opMul (dLst 1 (dCons (dC (.int 60)) dNil)) (dC (.int 40))) dNil))))
  (dSeq (dAsg 3 (dLst 1 (dCons (dC (.int 0)) dNil)))
  (dSeq (dAsg 4 (dLst 0 dNil))
  (dSeq (dFor (diRange1 (dOp opIx (dLst 6 (dCons (dC (.int 1)) (dCons (dC (.int 0)) (dCons (dC (.int 0)) (dCons (dC (.int 2)) (dCons (dC (.int 0)) (dCons (dC (.int 3)) dNil))))))) (dCall (C .law_take_viv) [false, true, false] [] (dCons (dVar 2) (dCons (dVar 3) (dCons (dC (.int 6)) dNil)))))) (dgName 5) (rd_law_book_L2 C))
  (dRet (dCallB bTuple (dCons (dVar 4) dNil)))))))
def rd_law_worlds_L0 (C : Cal) : DS :=
  (dAsg 2 (dOp opAdd (dVar 2) (dLc [5] (diAny (dVar 2)) (dgName 5) dYes (dOp opAdd (dVar 5) (dTup 1 (dCons (dVar 3) dNil))))))
def rd_law_worlds_L1 (C : Cal) : DS :=
  (dAsg 6 (dAndV (dVar 6) (dCall (C .law_keeps) [false, false] [] (dCons (dVar 5) (dCons (dVar 7) dNil)))))
def rd_law_worlds_L2 (C : Cal) : DS :=
  (dSeq (dAsg 6 (dC (.bl true)))
  (dSeq (dFor (diAny (dVar 0)) (dgName 7) (rd_law_worlds_L1 C))
  (dIf (dTruth (dVar 6)) (dAppend 4 (dVar 5)) dNext)))
def rd_law_worlds (C : Cal) : DS :=
  (dSeq (dAsg 2 (dLst 1 (dCons (dTup 0 dNil) dNil)))
  (dSeq (dFor (diAny (dVar 1)) (dgName 3) (rd_law_worlds_L0 C))
  (dSeq (dAsg 4 (dLst 0 dNil))
  (dSeq (dFor (diAny (dVar 2)) (dgName 5) (rd_law_worlds_L2 C))
  (dRet (dVar 4))))))
def rd_count_ladder (C : Cal) : DS :=
  (dSeq (dAsg 1 (dCallB bLen (dCons (dVar 0) dNil)))
  (dRet (dCallB bTuple (dCons (dLc [2] (diRange2 (dC (.int 1)) (dOp opAdd (dVar 1) (dC (.int 1)))) (dgName 2) dYes (dCall (C .at_least) [false, false, false] [] (dCons (dVar 0) (dCons (dVar 1) (dCons (dVar 2) dNil))))) dNil))))
def rd_law_same_L0 (C : Cal) : DS :=
  (dIf (dNot (dTruth (dCall (C .law_same) [false, false] [] (dCons (dOp opIx (dVar 0) (dVar 2)) (dCons (dOp opIx (dVar 1) (dVar 2)) dNil))))) (dRet (dC (.bl false))) dNext)
def rd_law_same (C : Cal) : DS :=
  (dSeq (dIf (dTruth (dCallB (bIsi "tuple" isTup) (dCons (dVar 1) (dCons (dC (.ty "tuple")) dNil)))) (dSeq (dIf (dOr (dNot (dTruth (dCallB (bIsi "tuple" isTup) (dCons (dVar 0) (dCons (dC (.ty "tuple")) dNil))))) (dTest (dOp opNe (dCallB bLen (dCons (dVar 0) dNil)) (dCallB bLen (dCons (dVar 1) dNil))))) (dRet (dC (.bl false))) dNext)
  (dSeq (dFor (diRange1 (dCallB bLen (dCons (dVar 1) dNil))) (dgName 2) (rd_law_same_L0 C))
  (dRet (dC (.bl true))))) dNext)
  (dSeq (dIf (dTruth (dCallB (bIsi "str" isStr) (dCons (dVar 1) (dCons (dC (.ty "str")) dNil)))) (dRet (dAndV (dCallB (bIsi "str" isStr) (dCons (dVar 0) (dCons (dC (.ty "str")) dNil))) (dOp opEq (dVar 0) (dVar 1)))) dNext)
  (dRet (dAndV (dCall (C .law_whole) [false] [] (dCons (dVar 0) dNil)) (dOp opEq (dVar 0) (dVar 1))))))
def rd_law_p (C : Cal) : DS :=
  (dSeq (dIf (dTest (dOp opEq (dVar 2) (dC (.int 0)))) (dRet (dTup 2 (dCons (dC (.str (Str.ofString "all"))) (dCons (dTup 0 dNil) dNil)))) dNext)
  (dSeq (dIf (dTest (dOp opGt (dVar 2) (dVar 1))) (dRet (dTup 2 (dCons (dC (.str (Str.ofString "some"))) (dCons (dTup 0 dNil) dNil)))) dNext)
  (dRet (dTup 2 (dCons (dC (.str (Str.ofString "some"))) (dCons (dTup 2 (dCons (dCall (C .law_p) [false, false, false] [] (dCons (dVar 0) (dCons (dOp opSub (dVar 1) (dC (.int 1))) (dCons (dVar 2) dNil)))) (dCons (dTup 2 (dCons (dC (.str (Str.ofString "all"))) (dCons (dTup 2 (dCons (dOp opIx (dVar 0) (dOp opSub (dVar 1) (dC (.int 1)))) (dCons (dCall (C .law_p) [false, false, false] [] (dCons (dVar 0) (dCons (dOp opSub (dVar 1) (dC (.int 1))) (dCons (dOp opSub (dVar 2) (dC (.int 1))) dNil)))) dNil))) dNil))) dNil))) dNil))))))
def rd_law_levels_L0 (C : Cal) : DS :=
  (dIf (dTest (dOp opEq (dCall (C .law_on) [false, false] [] (dCons (dVar 9) (dCons (dVar 10) dNil))) (dCall (C .law_on) [false, false] [] (dCons (dOp opIx (dVar 3) (dVar 8)) (dCons (dVar 10) dNil))))) (dRet (dC (.bl false))) dNext)
def rd_law_levels_L1 (C : Cal) : DS :=
  (dSeq (dAsg 9 (dCall (C .others) [false, false, false, false] [] (dCons (dVar 3) (dCons (dVar 8) (dCons (dVar 5) (dCons (dVar 6) dNil))))))
  (dSeq (dIf (dNot (dTruth (dCall (C .law_same) [false, false] [] (dCons (dVar 9) (dCons (dCall (C .law_q) [false, false, false, false] [] (dCons (dVar 3) (dCons (dVar 8) (dCons (dVar 5) (dCons (dVar 6) dNil))))) dNil))))) (dRet (dC (.bl false))) dNext)
  (dFor (diAny (dVar 7)) (dgName 10) (rd_law_levels_L0 C))))
def rd_law_levels_L2 (C : Cal) : DS :=
  (dSeq (dAsg 7 (dLc [10] (diAny (dVar 2)) (dgName 10) (dTest (dOp opEq (dCall (C .law_count) [false, false] [] (dCons (dVar 3) (dCons (dVar 10) dNil))) (dVar 6))) (dVar 10)))
  (dSeq (dIf (dNot (dTruth (dCall (C .law_same) [false, false] [] (dCons (dCall (C .leaf_worlds) [false, false, false, false] [] (dCons (dVar 0) (dCons (dVar 1) (dCons (dTup 1 (dCons (dVar 4) dNil)) (dCons (dTup 1 (dCons (dVar 6) dNil)) dNil))))) (dCons (dCallB bTuple (dCons (dVar 7) dNil)) dNil))))) (dRet (dC (.bl false))) dNext)
  (dFor (diRange1 (dVar 5)) (dgName 8) (rd_law_levels_L1 C))))
def rd_law_levels (C : Cal) : DS :=
  (dSeq (dAsg 5 (dCallB bLen (dCons (dVar 3) dNil)))
  (dSeq (dFor (diRange1 (dOp opAdd (dVar 5) (dC (.int 1)))) (dgName 6) (rd_law_levels_L2 C))
  (dRet (dCall (C .law_same) [false, false] [] (dCons (dCall (C .leaves_of) [false] [] (dCons (dTup 1 (dCons (dVar 4) dNil)) dNil)) (dCons (dCallB bTuple (dCons (dLc [6] (diRange1 (dOp opAdd (dVar 5) (dC (.int 1)))) (dgName 6) dYes (dTup 1 (dCons (dVar 6) dNil))) dNil)) dNil))))))
def rd_law_bent (C : Cal) : DS :=
  (dSeq (dAsg 2 (dCall (C .law_digits) [false, false] [] (dCons (dVar 0) (dCons (dOp opMul (dLst 1 (dCons (dC (.int 60)) dNil)) (dC (.int 40))) dNil))))
  (dSeq (dAsg 3 (dCall (C .law_over_vivv) [false, true, false, false] [] (dCons (dVar 2) (dConsF (dLst 1 (dCons (dC (.int 1)) dNil)) (dCons (dVar 1) (dCons (dOp opAdd (dC (.int 1)) (dCall (C .law_take_viv) [false, true, false] [] (dCons (dVar 2) (dConsF (dLst 1 (dCons (dC (.int 0)) dNil)) (dCons (dC (.int 2)) dNil))))) dNil))))))
  (dSeq (dIf (dTest (dOp opGt (dCall (C .law_size) [false] [] (dCons (dVar 3) dNil)) (dC (.int 60)))) (dRet (dTup 2 (dCons (dC (.str (Str.ofString "all"))) (dCons (dTup 2 (dCons (dTup 2 (dCons (dC (.str (Str.ofString "not"))) (dCons (dOp opIx (dVar 1) (dC (.int 0))) dNil))) (dCons (dOp opIx (dVar 1) (dNeg (dC (.int 1)))) dNil))) dNil)))) dNext)
  (dRet (dVar 3)))))
def rd_find_misfit_L0 (C : Cal) : DS :=
  (dSeq (dAsg 10 (dCallB bTuple (dCons (dLc [13] (diRange1 (dCallB bLen (dCons (dVar 5) dNil))) (dgName 13) (dTruth (dCall (C .stands_on) [false, false] [] (dCons (dOp opIx (dVar 6) (dVar 13)) (dCons (dVar 9) dNil)))) (dVar 13)) dNil)))
  (dSeq (dAsg 11 (dCall (C .misfit_in) [false, false, false, false] [] (dCons (dVar 10) (dCons (dVar 7) (dCons (dVar 8) (dCons (dVar 5) dNil))))))
  (dIf (dTest (dOp opIsNot (dVar 11) (dC .non))) (dRet (dTup 3 (dCons (dVar 9) (dCons (dOp opIx (dVar 11) (dC (.int 0))) (dCons (dOp opIx (dVar 11) (dC (.int 1))) dNil))))) dNext)))
def rd_find_misfit (C : Cal) : DS :=
  (dSeq (dAsg 5 (dCall (C .worlds_of) [false, false] [] (dCons (dVar 0) (dCons (dVar 1) dNil))))
  (dSeq (dAsg 6 (dLc [12] (diAny (dVar 5)) (dgName 12) dYes (dCall (C .levels_of) [false, false] [] (dCons (dVar 2) (dCons (dVar 12) dNil)))))
  (dSeq (dAsg 7 (dCallB bTuple (dCons (dLc [12] (diAny (dVar 5)) (dgName 12) dYes (dCall (C .picture_of) [false, false] [] (dCons (dVar 3) (dCons (dVar 12) dNil)))) dNil)))
  (dSeq (dAsg 8 (dCallB bTuple (dCons (dLc [12] (diAny (dVar 5)) (dgName 12) dYes (dCall (C .signature_of) [false, false] [] (dCons (dVar 4) (dCons (dVar 12) dNil)))) dNil)))
  (dSeq (dFor (diAny (dCall (C .leaves_of) [false] [] (dCons (dVar 2) dNil))) (dgName 9) (rd_find_misfit_L0 C))
  (dRet (dC .non)))))))
def rd_law_digits_L0 (C : Cal) : DS :=
  (dSeq (dAppend 2 (dOp opMod (dCallB bInt (dCons (dVar 3) dNil)) (dVar 4)))
  (dAsg 3 (dOp opFdiv (dCallB bInt (dCons (dVar 3) dNil)) (dVar 4))))
def rd_law_digits_L1 (C : Cal) : DS :=
  (dSeq (dAsg 5 (dOp opMod (dCallB bInt (dCons (dOp opAdd (dOp opAdd (dOp opMul (dVar 5) (dC (.int 48271))) (dOp opMul (dC (.int 974711)) (dVar 6))) (dC (.int 12345))) dNil)) (dC (.int 2147483647))))
  (dSeq (dAsg 7 (dOp opMod (dCallB bInt (dCons (dOp opMul (dVar 5) (dOp opAdd (dOp opFdiv (dVar 5) (dC (.int 65537))) (dC (.int 3)))) dNil)) (dC (.int 2147483629))))
  (dAppend 2 (dOp opMod (dOp opFdiv (dVar 7) (dC (.int 19))) (dOp opIx (dVar 1) (dVar 6))))))
def rd_law_digits (C : Cal) : DS :=
  (dSeq (dAsg 2 (dLst 0 dNil))
  (dSeq (dAsg 3 (dCallB bInt (dCons (dVar 0) dNil)))
  (dSeq (dIf (dTest (dOp opGe (dVar 3) (dOp opPow (dC (.int 10)) (dC (.int 18))))) (dSeq (dAsg 3 (dOp opSub (dVar 3) (dOp opPow (dC (.int 10)) (dC (.int 18)))))
  (dSeq (dFor (diAny (dVar 1)) (dgName 4) (rd_law_digits_L0 C))
  (dRet (dVar 2)))) dNext)
  (dSeq (dAsg 5 (dOp opMod (dCallB bInt (dCons (dVar 3) dNil)) (dC (.int 2147483629))))
  (dSeq (dFor (diRange1 (dCallB bLen (dCons (dVar 1) dNil))) (dgName 6) (rd_law_digits_L1 C))
  (dRet (dVar 2)))))))
def rd_law_spoilt_J0 (C : Cal) : DS :=
  (dRet (dCallB bTuple (dCons (dVar 3) dNil)))
def rd_law_spoilt (C : Cal) : DS :=
  (dSeq (dAsg 3 (dCallB bList (dCons (dVar 0) dNil)))
  (dSeq (dAsg 4 (dTup 2 (dCons (dC (.str (Str.ofString "atom"))) (dCons (dOp opIx (dVar 2) (dOp opMod (dCallB bInt (dCons (dOp opIx (dVar 1) (dC (.int 1))) dNil)) (dCallB bLen (dCons (dVar 2) dNil)))) dNil))))
  (dSeq (dIf (dTest (dOp opEq (dCallB bLen (dCons (dVar 3) dNil)) (dC (.int 0)))) (dRet (dTup 1 (dCons (dVar 4) dNil))) dNext)
  (dSeq (dAsg 5 (dOp opMod (dCallB bInt (dCons (dOp opIx (dVar 1) (dC (.int 2))) dNil)) (dCallB bLen (dCons (dVar 3) dNil))))
  (dSeq (dAsg 6 (dOp opMod (dCallB bInt (dCons (dOp opAdd (dOp opAdd (dVar 5) (dC (.int 1))) (dOp opMod (dCallB bInt (dCons (dOp opIx (dVar 1) (dC (.int 3))) dNil)) (dCallB bMax (dCons (dC (.int 1)) (dCons (dOp opSub (dCallB bLen (dCons (dVar 3) dNil)) (dC (.int 1))) dNil))))) dNil)) (dCallB bLen (dCons (dVar 3) dNil))))
  (dSeq (dIf (dTest (dOp opLt (dOp opIx (dVar 1) (dC (.int 0))) (dC (.int 4)))) (dRet (dCallB bTuple (dCons (dOp opAdd (dSl (dVar 3) dNoPart (dPart (dVar 5))) (dSl (dVar 3) (dPart (dOp opAdd (dVar 5) (dC (.int 1)))) dNoPart)) dNil))) dNext)
  (dSeq (dIf (dTest (dOp opLt (dOp opIx (dVar 1) (dC (.int 0))) (dC (.int 6)))) (dSeq (dAsg 7 (dOp opIx (dVar 3) (dVar 5)))
  (dSeq (dSetIx 3 (dVar 5) (dOp opIx (dVar 3) (dVar 6)))
  (dSetIx 3 (dVar 6) (dVar 7)))) (dIf (dTest (dOp opEq (dOp opIx (dVar 1) (dC (.int 0))) (dC (.int 6)))) (dAsg 3 (dOp opAdd (dOp opAdd (dSl (dVar 3) dNoPart (dPart (dVar 5))) (dLst 1 (dCons (dOp opIx (dVar 3) (dVar 6)) dNil))) (dSl (dVar 3) (dPart (dVar 5)) dNoPart))) (dSetIx 3 (dVar 5) (dVar 4))))
  (rd_law_spoilt_J0 C))))))))
def rd_law_told (C : Cal) : DS :=
  (dSeq (dIf (dTest (dOp opIs (dVar 1) (dC .non))) (dRet (dOp opIs (dVar 0) (dC .non))) dNext)
  (dRet (dCall (C .law_same) [false, false] [] (dCons (dVar 0) (dCons (dVar 1) dNil)))))
def rd_law_misfit_L0 (C : Cal) : DS :=
  (dIf (dAnd (dTest (dOp opNe (dOp opIx (dVar 6) (dVar 7)) (dOp opIx (dVar 6) (dVar 8)))) (dTruth (dCall (C .law_below) [false, false] [] (dCons (dOp opIx (dVar 5) (dVar 7)) (dCons (dOp opIx (dVar 5) (dVar 8)) dNil))))) (dRet (dTup 3 (dCons (dTup 1 (dCons (dVar 4) dNil)) (dCons (dOp opIx (dVar 5) (dVar 7)) (dCons (dOp opIx (dVar 5) (dVar 8)) dNil))))) dNext)
def rd_law_misfit_L1 (C : Cal) : DS :=
  (dFor (diRange1 (dCallB bLen (dCons (dVar 5) dNil))) (dgName 8) (rd_law_misfit_L0 C))
def rd_law_misfit_J0 (C : Cal) : DS :=
  (dSeq (dAsg 6 (dLc [9] (diAny (dVar 5)) (dgName 9) dYes (dCall (C .law_picture) [false, false] [] (dCons (dVar 2) (dCons (dVar 9) dNil)))))
  (dFor (diRange1 (dCallB bLen (dCons (dVar 5) dNil))) (dgName 7) (rd_law_misfit_L1 C)))
def rd_law_misfit_L2 (C : Cal) : DS :=
  (dSeq (dAsg 5 (dLc [9] (diAny (dVar 0)) (dgName 9) (dAnd (dTruth (dCall (C .law_on) [false, false] [] (dCons (dOp opIx (dVar 3) (dVar 4)) (dCons (dVar 9) dNil)))) (dNot (dTruth (dCall (C .law_on) [false, false] [] (dCons (dOp opIx (dVar 3) (dOp opAdd (dVar 4) (dC (.int 1)))) (dCons (dVar 9) dNil)))))) (dVar 9)))
  (rd_law_misfit_J0 C))
def rd_law_misfit (C : Cal) : DS :=
  (dSeq (dAsg 3 (dOp opAdd (dOp opAdd (dLst 1 (dCons (dTup 2 (dCons (dC (.str (Str.ofString "all"))) (dCons (dTup 0 dNil) dNil))) dNil)) (dCallB bList (dCons (dVar 1) dNil))) (dLst 1 (dCons (dTup 2 (dCons (dC (.str (Str.ofString "some"))) (dCons (dTup 0 dNil) dNil))) dNil))))
  (dSeq (dFor (diRange1 (dOp opAdd (dCallB bLen (dCons (dVar 1) dNil)) (dC (.int 1)))) (dgName 4) (rd_law_misfit_L2 C))
  (dRet (dC .non))))
def rd_law_ascending_L0 (C : Cal) : DS :=
  (dIf (dOr (dTest (dOp opEq (dCallB bLen (dCons (dVar 1) dNil)) (dC (.int 0)))) (dTest (dOp opNe (dOp opIx (dVar 1) (dNeg (dC (.int 1)))) (dVar 2)))) (dAppend 1 (dVar 2)) dNext)
def rd_law_ascending (C : Cal) : DS :=
  (dSeq (dAsg 1 (dLst 0 dNil))
  (dSeq (dFor (diAny (dCallB bSorted (dCons (dVar 0) dNil))) (dgName 2) (rd_law_ascending_L0 C))
  (dRet (dCallB bTuple (dCons (dVar 1) dNil)))))
def rd_law_spot (C : Cal) : DS :=
  (dSeq (dAsg 2 (dCall (C .law_digits) [false, false] [] (dCons (dVar 0) (dCons (dOp opMul (dLst 1 (dCons (dC (.int 60)) dNil)) (dC (.int 30))) dNil))))
  (dSeq (dAsg 3 (dLst 1 (dCons (dC (.int 0)) dNil)))
  (dSeq (dAsg 4 (dCall (C .law_take_viv) [false, true, false] [] (dCons (dVar 2) (dCons (dVar 3) (dCons (dC (.int 12)) dNil)))))
  (dSeq (dIf (dTest (dOp opLt (dVar 4) (dC (.int 6)))) (dRet (dTup 2 (dCons (dC (.str (Str.ofString "atom"))) (dCons (dOp opIx (dVar 1) (dOp opMod (dCallB bInt (dCons (dCall (C .law_take_viv) [false, true, false] [] (dCons (dVar 2) (dCons (dVar 3) (dCons (dC (.int 60)) dNil)))) dNil)) (dCallB bLen (dCons (dVar 1) dNil)))) dNil)))) dNext)
  (dSeq (dIf (dTest (dOp opLt (dVar 4) (dC (.int 11)))) (dRet (dCall (C .law_formula_vivv) [false, true, false, false] [] (dCons (dVar 2) (dCons (dVar 3) (dCons (dVar 1) (dCons (dOp opAdd (dC (.int 1)) (dOp opMod (dCallB bInt (dCons (dVar 4) dNil)) (dC (.int 2)))) dNil)))))) dNext)
  (dRet (dOp opIx (dLst 2 (dCons (dTup 2 (dCons (dC (.str (Str.ofString "all"))) (dCons (dTup 0 dNil) dNil))) (dCons (dTup 2 (dCons (dC (.str (Str.ofString "some"))) (dCons (dTup 0 dNil) dNil))) dNil))) (dCall (C .law_take_viv) [false, true, false] [] (dCons (dVar 2) (dCons (dVar 3) (dCons (dC (.int 2)) dNil)))))))))))
def rd_law_take_viv (C : Cal) : DS :=
  (dSeq (dAsg 3 (dOp opMod (dCallB bInt (dCons (dOp opIx (dVar 0) (dOp opMod (dOp opIx (dVar 1) (dC (.int 0))) (dCallB bLen (dCons (dVar 0) dNil)))) dNil)) (dVar 2)))
  (dSeq (dSetIx 1 (dC (.int 0)) (dOp opAdd (dOp opIx (dVar 1) (dC (.int 0))) (dC (.int 1))))
  (dRet (dVar 3))))
def rd_law_formula_vivv_L0 (C : Cal) : DS :=
  (dAppend 5 (dCall (C .law_formula_vivv) [false, true, false, false] [] (dCons (dVar 0) (dCons (dVar 1) (dCons (dVar 2) (dCons (dOp opSub (dVar 3) (dC (.int 1))) dNil))))))
def rd_law_formula_vivv (C : Cal) : DS :=
  (dSeq (dAsg 4 (dCall (C .law_take_viv) [false, true, false] [] (dCons (dVar 0) (dCons (dVar 1) (dCons (dC (.int 10)) dNil)))))
  (dSeq (dIf (dOr (dTest (dOp opEq (dVar 3) (dC (.int 0)))) (dTest (dOp opLt (dVar 4) (dC (.int 3))))) (dRet (dTup 2 (dCons (dC (.str (Str.ofString "atom"))) (dCons (dOp opIx (dVar 2) (dOp opMod (dCallB bInt (dCons (dCall (C .law_take_viv) [false, true, false] [] (dCons (dVar 0) (dCons (dVar 1) (dCons (dC (.int 60)) dNil)))) dNil)) (dCallB bLen (dCons (dVar 2) dNil)))) dNil)))) dNext)
  (dSeq (dAsg 5 (dLst 0 dNil))
  (dSeq (dFor (diRange1 (dOp opIx (dLst 12 (dCons (dC (.int 2)) (dCons (dC (.int 2)) (dCons (dC (.int 3)) (dCons (dC (.int 2)) (dCons (dC (.int 1)) (dCons (dC (.int 2)) (dCons (dC (.int 2)) (dCons (dC (.int 3)) (dCons (dC (.int 2)) (dCons (dC (.int 2)) (dCons (dC (.int 2)) (dCons (dC (.int 0)) dNil))))))))))))) (dCall (C .law_take_viv) [false, true, false] [] (dCons (dVar 0) (dCons (dVar 1) (dCons (dC (.int 12)) dNil)))))) (dgName 6) (rd_law_formula_vivv_L0 C))
  (dRet (dTup 2 (dCons (dOp opIx (dLst 2 (dCons (dC (.str (Str.ofString "all"))) (dCons (dC (.str (Str.ofString "some"))) dNil))) (dCall (C .law_take_viv) [false, true, false] [] (dCons (dVar 0) (dCons (dVar 1) (dCons (dC (.int 2)) dNil))))) (dCons (dCallB bTuple (dCons (dVar 5) dNil)) dNil))))))))
def rd_law_keeps_L0 (C : Cal) : DS :=
  (dIf (dNot (dTruth (dCall (C .law_on) [false, false] [] (dCons (dVar 2) (dCons (dVar 0) dNil))))) (dRet (dC (.bl true))) dNext)
def rd_law_keeps_L1 (C : Cal) : DS :=
  (dIf (dTruth (dCall (C .law_on) [false, false] [] (dCons (dVar 2) (dCons (dVar 0) dNil)))) (dRet (dC (.bl true))) dNext)
def rd_law_keeps (C : Cal) : DS :=
  (dSeq (dFor (diAny (dOp opIx (dVar 1) (dC (.int 0)))) (dgName 2) (rd_law_keeps_L0 C))
  (dSeq (dFor (diAny (dOp opIx (dVar 1) (dC (.int 1)))) (dgName 2) (rd_law_keeps_L1 C))
  (dRet (dC (.bl false)))))
def rd_at_least (C : Cal) : DS :=
  (dSeq (dIf (dTest (dOp opEq (dVar 2) (dC (.int 0)))) (dRet (dC c_SURE)) dNext)
  (dSeq (dIf (dTest (dOp opGt (dVar 2) (dVar 1))) (dRet (dC c_NEVER)) dNext)
  (dSeq (dAsg 3 (dTup 2 (dCons (dC (.str (Str.ofString "all"))) (dCons (dTup 2 (dCons (dOp opIx (dVar 0) (dOp opSub (dVar 1) (dC (.int 1)))) (dCons (dCall (C .at_least) [false, false, false] [] (dCons (dVar 0) (dCons (dOp opSub (dVar 1) (dC (.int 1))) (dCons (dOp opSub (dVar 2) (dC (.int 1))) dNil)))) dNil))) dNil))))
  (dRet (dTup 2 (dCons (dC (.str (Str.ofString "some"))) (dCons (dTup 2 (dCons (dCall (C .at_least) [false, false, false] [] (dCons (dVar 0) (dCons (dOp opSub (dVar 1) (dC (.int 1))) (dCons (dVar 2) dNil)))) (dCons (dVar 3) dNil))) dNil)))))))
def rd_law_whole (C : Cal) : DS :=
  (dRet (dAndV (dCallB (bIsi "int" isInt) (dCons (dVar 0) (dCons (dC (.ty "int")) dNil))) (dNotV (dCallB (bIsi "bool" isBool) (dCons (dVar 0) (dCons (dC (.ty "bool")) dNil))))))
def rd_law_count (C : Cal) : DS :=
  (dRet (dCallB bSum (dCons (dLc [2] (diAny (dVar 0)) (dgName 2) dYes (dCallB bInt (dCons (dCall (C .law_on) [false, false] [] (dCons (dVar 2) (dCons (dVar 1) dNil))) dNil))) dNil)))
def rd_leaf_worlds (C : Cal) : DS :=
  (dSeq (dAsg 4 (dCall (C .worlds_of) [false, false] [] (dCons (dVar 0) (dCons (dVar 1) dNil))))
  (dRet (dCallB bTuple (dCons (dLc [5] (diAny (dVar 4)) (dgName 5) (dTruth (dCall (C .stands_on) [false, false] [] (dCons (dCall (C .levels_of) [false, false] [] (dCons (dVar 2) (dCons (dVar 5) dNil))) (dCons (dVar 3) dNil)))) (dVar 5)) dNil))))
def rd_others (C : Cal) : DS :=
  (dSeq (dIf (dTest (dOp opEq (dVar 2) (dOp opAdd (dVar 1) (dC (.int 1))))) (dRet (dCall (C .at_least) [false, false, false] [] (dCons (dVar 0) (dCons (dVar 1) (dCons (dVar 3) dNil))))) dNext)
  (dSeq (dIf (dTest (dOp opEq (dVar 3) (dC (.int 0)))) (dRet (dC c_SURE)) dNext)
  (dSeq (dIf (dTest (dOp opGt (dVar 3) (dOp opSub (dVar 2) (dC (.int 1))))) (dRet (dC c_NEVER)) dNext)
  (dSeq (dAsg 4 (dTup 2 (dCons (dC (.str (Str.ofString "all"))) (dCons (dTup 2 (dCons (dOp opIx (dVar 0) (dOp opSub (dVar 2) (dC (.int 1)))) (dCons (dCall (C .others) [false, false, false, false] [] (dCons (dVar 0) (dCons (dVar 1) (dCons (dOp opSub (dVar 2) (dC (.int 1))) (dCons (dOp opSub (dVar 3) (dC (.int 1))) dNil))))) dNil))) dNil))))
  (dRet (dTup 2 (dCons (dC (.str (Str.ofString "some"))) (dCons (dTup 2 (dCons (dCall (C .others) [false, false, false, false] [] (dCons (dVar 0) (dCons (dVar 1) (dCons (dOp opSub (dVar 2) (dC (.int 1))) (dCons (dVar 3) dNil))))) (dCons (dVar 4) dNil))) dNil))))))))
def rd_law_q (C : Cal) : DS :=
  (dSeq (dIf (dTest (dOp opEq (dVar 2) (dOp opAdd (dVar 1) (dC (.int 1))))) (dRet (dCall (C .law_p) [false, false, false] [] (dCons (dVar 0) (dCons (dVar 1) (dCons (dVar 3) dNil))))) dNext)
  (dSeq (dIf (dTest (dOp opEq (dVar 3) (dC (.int 0)))) (dRet (dTup 2 (dCons (dC (.str (Str.ofString "all"))) (dCons (dTup 0 dNil) dNil)))) dNext)
  (dSeq (dIf (dTest (dOp opGt (dVar 3) (dOp opSub (dVar 2) (dC (.int 1))))) (dRet (dTup 2 (dCons (dC (.str (Str.ofString "some"))) (dCons (dTup 0 dNil) dNil)))) dNext)
  (dRet (dTup 2 (dCons (dC (.str (Str.ofString "some"))) (dCons (dTup 2 (dCons (dCall (C .law_q) [false, false, false, false] [] (dCons (dVar 0) (dCons (dVar 1) (dCons (dOp opSub (dVar 2) (dC (.int 1))) (dCons (dVar 3) dNil))))) (dCons (dTup 2 (dCons (dC (.str (Str.ofString "all"))) (dCons (dTup 2 (dCons (dOp opIx (dVar 0) (dOp opSub (dVar 2) (dC (.int 1)))) (dCons (dCall (C .law_q) [false, false, false, false] [] (dCons (dVar 0) (dCons (dVar 1) (dCons (dOp opSub (dVar 2) (dC (.int 1))) (dCons (dOp opSub (dVar 3) (dC (.int 1))) dNil))))) dNil))) dNil))) dNil))) dNil)))))))
def rd_law_on_L0 (C : Cal) : DS :=
  (dIf (dTest (dOp opNe (dCall (C .law_on) [false, false] [] (dCons (dVar 2) (dCons (dVar 1) dNil))) (dOp opEq (dOp opIx (dVar 0) (dC (.int 0))) (dC (.str (Str.ofString "all")))))) (dRet (dOp opNe (dOp opIx (dVar 0) (dC (.int 0))) (dC (.str (Str.ofString "all"))))) dNext)
def rd_law_on (C : Cal) : DS :=
  (dSeq (dIf (dTest (dOp opEq (dOp opIx (dVar 0) (dC (.int 0))) (dC (.str (Str.ofString "atom"))))) (dRet (dOp opIn (dOp opIx (dVar 0) (dC (.int 1))) (dVar 1))) dNext)
  (dSeq (dIf (dTest (dOp opEq (dOp opIx (dVar 0) (dC (.int 0))) (dC (.str (Str.ofString "not"))))) (dRet (dNotV (dCall (C .law_on) [false, false] [] (dCons (dOp opIx (dVar 0) (dC (.int 1))) (dCons (dVar 1) dNil))))) dNext)
  (dSeq (dFor (diAny (dOp opIx (dVar 0) (dC (.int 1)))) (dgName 2) (rd_law_on_L0 C))
  (dRet (dOp opEq (dOp opIx (dVar 0) (dC (.int 0))) (dC (.str (Str.ofString "all"))))))))
def rd_leaves_of_L0 (C : Cal) : DS :=
  (dAsg 1 (dLc2 [3, 4] [4] (diAny (dVar 1)) (dgName 3) dYes (diRange1 (dOp opAdd (dCallB bLen (dCons (dVar 2) dNil)) (dC (.int 1)))) (dgName 4) dYes (dOp opAdd (dVar 3) (dTup 1 (dCons (dVar 4) dNil)))))
def rd_leaves_of (C : Cal) : DS :=
  (dSeq (dAsg 1 (dLst 1 (dCons (dTup 0 dNil) dNil)))
  (dSeq (dFor (diAny (dVar 0)) (dgName 2) (rd_leaves_of_L0 C))
  (dRet (dCallB bTuple (dCons (dVar 1) dNil)))))
def rd_law_over_vivv_L0 (C : Cal) : DS :=
  (dSeq (dAsg 6 (dCall (C .law_over_vivv) [false, true, false, false] [] (dCons (dVar 0) (dCons (dVar 1) (dCons (dVar 2) (dCons (dCallB bMax (dCons (dC (.int 0)) (dCons (dOp opSub (dOp opSub (dVar 3) (dC (.int 1))) (dCall (C .law_take_viv) [false, true, false] [] (dCons (dVar 0) (dCons (dVar 1) (dCons (dC (.int 2)) dNil))))) dNil))) dNil))))))
  (dIf (dTest (dOp opEq (dCall (C .law_take_viv) [false, true, false] [] (dCons (dVar 0) (dCons (dVar 1) (dCons (dC (.int 2)) dNil)))) (dC (.int 0)))) (dAppend 4 (dTup 2 (dCons (dC (.str (Str.ofString "not"))) (dCons (dVar 6) dNil)))) (dAppend 4 (dVar 6))))
def rd_law_over_vivv (C : Cal) : DS :=
  (dSeq (dIf (dTest (dOp opEq (dVar 3) (dC (.int 0)))) (dRet (dOp opIx (dVar 2) (dOp opMod (dCallB bInt (dCons (dCall (C .law_take_viv) [false, true, false] [] (dCons (dVar 0) (dCons (dVar 1) (dCons (dC (.int 60)) dNil)))) dNil)) (dCallB bLen (dCons (dVar 2) dNil))))) dNext)
  (dSeq (dAsg 4 (dLst 0 dNil))
  (dSeq (dFor (diRange1 (dOp opIx (dLst 6 (dCons (dC (.int 2)) (dCons (dC (.int 2)) (dCons (dC (.int 3)) (dCons (dC (.int 1)) (dCons (dC (.int 2)) (dCons (dC (.int 0)) dNil))))))) (dCall (C .law_take_viv) [false, true, false] [] (dCons (dVar 0) (dCons (dVar 1) (dCons (dC (.int 6)) dNil)))))) (dgName 5) (rd_law_over_vivv_L0 C))
  (dRet (dTup 2 (dCons (dOp opIx (dLst 2 (dCons (dC (.str (Str.ofString "all"))) (dCons (dC (.str (Str.ofString "some"))) dNil))) (dCall (C .law_take_viv) [false, true, false] [] (dCons (dVar 0) (dCons (dVar 1) (dCons (dC (.int 2)) dNil))))) (dCons (dCallB bTuple (dCons (dVar 4) dNil)) dNil)))))))
def rd_law_size (C : Cal) : DS :=
  (dSeq (dIf (dTest (dOp opEq (dOp opIx (dVar 0) (dC (.int 0))) (dC (.str (Str.ofString "atom"))))) (dRet (dC (.int 1))) dNext)
  (dSeq (dIf (dTest (dOp opEq (dOp opIx (dVar 0) (dC (.int 0))) (dC (.str (Str.ofString "not"))))) (dRet (dOp opAdd (dC (.int 1)) (dCall (C .law_size) [false] [] (dCons (dOp opIx (dVar 0) (dC (.int 1))) dNil)))) dNext)
  (dRet (dOp opAdd (dC (.int 1)) (dCallB bSum (dCons (dLc [1] (diAny (dOp opIx (dVar 0) (dC (.int 1)))) (dgName 1) dYes (dCall (C .law_size) [false] [] (dCons (dVar 1) dNil))) dNil))))))
def rd_worlds_of (C : Cal) : DS :=
  (dRet (dCallB bTuple (dCons (dLc [2] (diAny (dCall (C .all_worlds) [false] [] (dCons (dVar 1) dNil))) (dgName 2) (dTruth (dGen [3] false (diAny (dVar 0)) (dgName 3) (dCall (C .keeps) [false, false] [] (dCons (dVar 2) (dCons (dVar 3) dNil))))) (dVar 2)) dNil)))
def rd_levels_of (C : Cal) : DS :=
  (dRet (dCallB bTuple (dCons (dLc [2] (diAny (dVar 0)) (dgName 2) dYes (dCall (C .levels_on) [false, false] [] (dCons (dVar 2) (dCons (dVar 1) dNil)))) dNil)))
def rd_picture_of (C : Cal) : DS :=
  (dRet (dCallB bTuple (dCons (dLc [2] (diAny (dVar 0)) (dgName 2) dYes (dCall (C .is_on) [false, false] [] (dCons (dVar 2) (dCons (dVar 1) dNil)))) dNil)))
def rd_signature_of (C : Cal) : DS :=
  (dRet (dCallB bTuple (dCons (dLc [2] (diAny (dVar 0)) (dgName 2) dYes (dCall (C .is_on) [false, false] [] (dCons (dVar 2) (dCons (dVar 1) dNil)))) dNil)))
def rd_stands_on (C : Cal) : DS :=
  (dRet (dCallB bAll (dCons (dLc [2, 3] (diZip (dVar 0) (dVar 1)) (dgTup 2 (dgCons (dgName 2) (dgCons (dgName 3) dgNil))) dYes (dOp opIn (dVar 3) (dVar 2))) dNil)))
def rd_misfit_in_L0 (C : Cal) : DS :=
  (dIf (dAnd (dTest (dOp opLt (dVar 4) (dVar 5))) (dAnd (dTest (dOp opEq (dOp opIx (dVar 2) (dVar 4)) (dOp opIx (dVar 2) (dVar 5)))) (dTest (dOp opNe (dOp opIx (dVar 1) (dVar 4)) (dOp opIx (dVar 1) (dVar 5)))))) (dIf (dTruth (dCall (C .is_below) [false, false] [] (dCons (dOp opIx (dVar 3) (dVar 4)) (dCons (dOp opIx (dVar 3) (dVar 5)) dNil)))) (dRet (dTup 2 (dCons (dOp opIx (dVar 3) (dVar 4)) (dCons (dOp opIx (dVar 3) (dVar 5)) dNil)))) dNext) dNext)
def rd_misfit_in_L1 (C : Cal) : DS :=
  (dFor (diAny (dVar 0)) (dgName 5) (rd_misfit_in_L0 C))
def rd_misfit_in (C : Cal) : DS :=
  (dSeq (dFor (diAny (dVar 0)) (dgName 4) (rd_misfit_in_L1 C))
  (dRet (dC .non)))
def rd_law_picture (C : Cal) : DS :=
  (dRet (dLc [2] (diAny (dVar 0)) (dgName 2) dYes (dCall (C .law_on) [false, false] [] (dCons (dVar 2) (dCons (dVar 1) dNil)))))
def rd_law_below_L0 (C : Cal) : DS :=
  (dIf (dTest (dOp opNotIn (dVar 2) (dVar 1))) (dRet (dC (.bl false))) dNext)
def rd_law_below (C : Cal) : DS :=
  (dSeq (dFor (diAny (dVar 0)) (dgName 2) (rd_law_below_L0 C))
  (dRet (dC (.bl true))))
def rd_all_worlds_L0 (C : Cal) : DS :=
  (dAsg 1 (dOp opAdd (dVar 1) (dLc [3] (diAny (dVar 1)) (dgName 3) dYes (dOp opAdd (dVar 3) (dTup 1 (dCons (dVar 2) dNil))))))
def rd_all_worlds (C : Cal) : DS :=
  (dSeq (dAsg 1 (dLst 1 (dCons (dTup 0 dNil) dNil)))
  (dSeq (dFor (diAny (dVar 0)) (dgName 2) (rd_all_worlds_L0 C))
  (dRet (dCallB bTuple (dCons (dVar 1) dNil)))))
def rd_keeps (C : Cal) : DS :=
  (dSeq (dIf (dNot (dTruth (dGen [2] false (diAny (dOp opIx (dVar 1) (dC (.int 0)))) (dgName 2) (dCall (C .is_on) [false, false] [] (dCons (dVar 2) (dCons (dVar 0) dNil)))))) (dRet (dC (.bl true))) dNext)
  (dRet (dGen [2] true (diAny (dOp opIx (dVar 1) (dC (.int 1)))) (dgName 2) (dCall (C .is_on) [false, false] [] (dCons (dVar 2) (dCons (dVar 0) dNil))))))
def rd_levels_on (C : Cal) : DS :=
  (dSeq (dAsg 2 (dOp opAdd (dOp opAdd (dLst 1 (dCons (dC (.bl true)) dNil)) (dLc [3] (diAny (dVar 0)) (dgName 3) dYes (dCall (C .is_on) [false, false] [] (dCons (dVar 3) (dCons (dVar 1) dNil))))) (dLst 1 (dCons (dC (.bl false)) dNil))))
  (dRet (dCallB bTuple (dCons (dLc [4] (diRange1 (dOp opAdd (dCallB bLen (dCons (dVar 0) dNil)) (dC (.int 1)))) (dgName 4) (dAnd (dTruth (dOp opIx (dVar 2) (dVar 4))) (dNot (dTruth (dOp opIx (dVar 2) (dOp opAdd (dVar 4) (dC (.int 1))))))) (dVar 4)) dNil))))
def rd_is_on (C : Cal) : DS :=
  (dSeq (dIf (dTest (dOp opEq (dOp opIx (dVar 0) (dC (.int 0))) (dC (.str (Str.ofString "atom"))))) (dRet (dOp opIn (dOp opIx (dVar 0) (dC (.int 1))) (dVar 1))) dNext)
  (dSeq (dIf (dTest (dOp opEq (dOp opIx (dVar 0) (dC (.int 0))) (dC (.str (Str.ofString "not"))))) (dRet (dNotV (dCall (C .is_on) [false, false] [] (dCons (dOp opIx (dVar 0) (dC (.int 1))) (dCons (dVar 1) dNil))))) dNext)
  (dSeq (dIf (dTest (dOp opEq (dOp opIx (dVar 0) (dC (.int 0))) (dC (.str (Str.ofString "all"))))) (dRet (dGen [2] false (diAny (dOp opIx (dVar 0) (dC (.int 1)))) (dgName 2) (dCall (C .is_on) [false, false] [] (dCons (dVar 2) (dCons (dVar 1) dNil))))) dNext)
  (dRet (dGen [2] true (diAny (dOp opIx (dVar 0) (dC (.int 1)))) (dgName 2) (dCall (C .is_on) [false, false] [] (dCons (dVar 2) (dCons (dVar 1) dNil))))))))
def rd_is_below (C : Cal) : DS :=
  (dRet (dGen [2] false (diAny (dVar 0)) (dgName 2) (dOp opIn (dVar 2) (dVar 1))))
def sem : Nat → Fn → DSp
  | 0, _ => fun _ _ => False
  | n + 1, .law => dFn 11 [false] (rd_law (sem n))
  | n + 1, .law_named => dFn 10 [false] (rd_law_named (sem n))
  | n + 1, .law_cell => dFn 4 [false, false] (rd_law_cell (sem n))
  | n + 1, .law_spots => dFn 7 [false, false, false, false] (rd_law_spots (sem n))
  | n + 1, .law_book => dFn 10 [false, false] (rd_law_book (sem n))
  | n + 1, .law_worlds => dFn 8 [false, false] (rd_law_worlds (sem n))
  | n + 1, .count_ladder => dFn 3 [false] (rd_count_ladder (sem n))
  | n + 1, .law_same => dFn 3 [false, false] (rd_law_same (sem n))
  | n + 1, .law_p => dFn 3 [false, false, false] (rd_law_p (sem n))
  | n + 1, .law_levels => dFn 11 [false, false, false, false, false] (rd_law_levels (sem n))
  | n + 1, .law_bent => dFn 4 [false, false] (rd_law_bent (sem n))
  | n + 1, .find_misfit => dFn 14 [false, false, false, false, false] (rd_find_misfit (sem n))
  | n + 1, .law_digits => dFn 8 [false, false] (rd_law_digits (sem n))
  | n + 1, .law_spoilt => dFn 8 [false, false, false] (rd_law_spoilt (sem n))
  | n + 1, .law_told => dFn 2 [false, false] (rd_law_told (sem n))
  | n + 1, .law_misfit => dFn 10 [false, false, false] (rd_law_misfit (sem n))
  | n + 1, .law_ascending => dFn 3 [false] (rd_law_ascending (sem n))
  | n + 1, .law_spot => dFn 5 [false, false] (rd_law_spot (sem n))
  | n + 1, .law_take_viv => dFn 4 [false, true, false] (rd_law_take_viv (sem n))
  | n + 1, .law_formula_vivv => dFn 7 [false, true, false, false] (rd_law_formula_vivv (sem n))
  | n + 1, .law_keeps => dFn 3 [false, false] (rd_law_keeps (sem n))
  | n + 1, .at_least => dFn 4 [false, false, false] (rd_at_least (sem n))
  | n + 1, .law_whole => dFn 1 [false] (rd_law_whole (sem n))
  | n + 1, .law_count => dFn 3 [false, false] (rd_law_count (sem n))
  | n + 1, .leaf_worlds => dFn 6 [false, false, false, false] (rd_leaf_worlds (sem n))
  | n + 1, .others => dFn 5 [false, false, false, false] (rd_others (sem n))
  | n + 1, .law_q => dFn 4 [false, false, false, false] (rd_law_q (sem n))
  | n + 1, .law_on => dFn 3 [false, false] (rd_law_on (sem n))
  | n + 1, .leaves_of => dFn 5 [false] (rd_leaves_of (sem n))
  | n + 1, .law_over_vivv => dFn 7 [false, true, false, false] (rd_law_over_vivv (sem n))
  | n + 1, .law_size => dFn 2 [false] (rd_law_size (sem n))
  | n + 1, .worlds_of => dFn 4 [false, false] (rd_worlds_of (sem n))
  | n + 1, .levels_of => dFn 3 [false, false] (rd_levels_of (sem n))
  | n + 1, .picture_of => dFn 3 [false, false] (rd_picture_of (sem n))
  | n + 1, .signature_of => dFn 3 [false, false] (rd_signature_of (sem n))
  | n + 1, .stands_on => dFn 4 [false, false] (rd_stands_on (sem n))
  | n + 1, .misfit_in => dFn 6 [false, false, false, false] (rd_misfit_in (sem n))
  | n + 1, .law_picture => dFn 3 [false, false] (rd_law_picture (sem n))
  | n + 1, .law_below => dFn 3 [false, false] (rd_law_below (sem n))
  | n + 1, .all_worlds => dFn 4 [false] (rd_all_worlds (sem n))
  | n + 1, .keeps => dFn 3 [false, false] (rd_keeps (sem n))
  | n + 1, .levels_on => dFn 5 [false, false] (rd_levels_on (sem n))
  | n + 1, .is_on => dFn 3 [false, false] (rd_is_on (sem n))
  | n + 1, .is_below => dFn 3 [false, false] (rd_is_below (sem n))
def psOf : Fn → List Str
  | .law => ["script"]
  | .law_named => ["cell"]
  | .law_cell => ["script", "k"]
  | .law_spots => ["script", "at", "names", "menu"]
  | .law_book => ["cell", "names"]
  | .law_worlds => ["book", "names"]
  | .count_ladder => ["places"]
  | .law_same => ["told", "due"]
  | .law_p => ["places", "j", "k"]
  | .law_levels => ["book", "names", "worlds", "places", "ladder"]
  | .law_bent => ["cell", "places"]
  | .find_misfit => ["book", "names", "plan", "formulas", "signs"]
  | .law_digits => ["cell", "sizes"]
  | .law_spoilt => ["ladder", "picks", "names"]
  | .law_told => ["told", "due"]
  | .law_misfit => ["worlds", "ladder", "formulas"]
  | .law_ascending => ["items"]
  | .law_spot => ["cell", "names"]
  | .law_take_viv => ["row", "at", "size"]
  | .law_formula_vivv => ["row", "at", "names", "deep"]
  | .law_keeps => ["world", "sequent"]
  | .at_least => ["places", "j", "k"]
  | .law_whole => ["value"]
  | .law_count => ["places", "world"]
  | .leaf_worlds => ["book", "names", "plan", "leaf"]
  | .others => ["places", "i", "j", "k"]
  | .law_q => ["places", "i", "j", "k"]
  | .law_on => ["member", "world"]
  | .leaves_of => ["plan"]
  | .law_over_vivv => ["row", "at", "places", "deep"]
  | .law_size => ["member"]
  | .worlds_of => ["book", "names"]
  | .levels_of => ["plan", "world"]
  | .picture_of => ["formulas", "world"]
  | .signature_of => ["signs", "world"]
  | .stands_on => ["levels", "leaf"]
  | .misfit_in => ["lot", "pictures", "signatures", "worlds"]
  | .law_picture => ["formulas", "world"]
  | .law_below => ["low", "high"]
  | .all_worlds => ["names"]
  | .keeps => ["world", "sequent"]
  | .levels_on => ["ladder", "world"]
  | .is_on => ["member", "world"]
  | .is_below => ["low", "high"]
end K45
namespace K45
open N1
open PySem (Str sizeLine)
local macro_rules
  | `(tactic| sizeOf_list_dec) => `(tactic| first
    | assumption | omega | exact ⟨by omega, by omega⟩
    | exact cmul_l (by omega) (by omega) | exact cmul_r (by omega) (by omega)
    | exact fit_strs _ _ | exact fit_ints _ _ | exact Fm.fit _ (by omega)
    | exact emod_lo (by omega) | exact emod_hi (by omega) | exact mod_pos (by assumption)
    | (simp only [List.length_map, List.length_append, List.length_cons, List.length_nil, List.length_replicate, sizeLine_is]; first | done | omega | exact ⟨by omega, by omega⟩)
    | rfl | decide)
local macro_rules
  | `(tactic| and_intros) => `(tactic| repeat' (first
    | refine And.intro (by sizeOf_list_dec) ?_
    | refine Br.yes rfl ?_
    | refine Br.no rfl ?_
    | refine Br.is (by first | rfl | assumption | omega) ?_
    | refine Br.isnt (by first | assumption | exact k_not_atom | exact k_kd_atom _ | exact k_kd_not _ | exact k_atom_not | exact k_sa | exact k_as | omega) ?_
    | refine Br.notis (by first | assumption | exact k_not_atom | exact k_kd_atom _ | exact k_kd_not _ | exact k_atom_not | exact k_sa | exact k_as | omega) ?_
    | refine Br.notisnt (by first | rfl | assumption | omega) ?_
    | array_get_dec
    | (refine ixDg (i := 0) (by assumption) rfl rfl ?_; intro _ _ _)
    | (refine ixDg (i := 1) (by assumption) rfl rfl ?_; intro _ _ _)
    | (refine ixDg (i := 2) (by assumption) rfl rfl ?_; intro _ _ _)
    | (refine ixDg (i := 3) (by assumption) rfl rfl ?_; intro _ _ _)
    | (refine ixW rfl ?_
       first
       | refine ixB 0 1 (by decide) (by sizeOf_list_dec) (by sizeOf_list_dec) ?_
       | refine ixB 1 2 (by decide) (by sizeOf_list_dec) (by sizeOf_list_dec) ?_
       | refine ixB 0 2 (by decide) (by sizeOf_list_dec) (by sizeOf_list_dec) ?_
       | refine ixB 1 3 (by decide) (by sizeOf_list_dec) (by sizeOf_list_dec) ?_
       | refine ixB 0 3 (by decide) (by sizeOf_list_dec) (by sizeOf_list_dec) ?_
       | refine ixB 1 4 (by decide) (by sizeOf_list_dec) (by sizeOf_list_dec) ?_
       | refine ixB 0 4 (by decide) (by sizeOf_list_dec) (by sizeOf_list_dec) ?_
       | refine ixB 0 5 (by decide) (by sizeOf_list_dec) (by sizeOf_list_dec) ?_
       | refine ixB 1 6 (by decide) (by sizeOf_list_dec) (by sizeOf_list_dec) ?_
       | refine ixB 0 7 (by decide) (by sizeOf_list_dec) (by sizeOf_list_dec) ?_
       | refine ixB 0 12 (by decide) (by sizeOf_list_dec) (by sizeOf_list_dec) ?_
       | refine ixB 0 60 (by decide) (by sizeOf_list_dec) (by sizeOf_list_dec) ?_
       intro _ _ _)
    | (refine ixKd (by sizeOf_list_dec) (by sizeOf_list_dec) ?_; intro _)
    | (refine ixMod (by assumption) ?_; intro _ _)
    | (refine let36 (by sizeOf_list_dec) (by sizeOf_list_dec) ?_; intro _)
    | refine Br.of (fun _ => ?_) (fun _ => ?_)
    | refine Br.ofNot (fun _ => ?_) (fun _ => ?_)
    | refine Br.mk (fun _ => ?_) (fun _ => ?_)))
local macro_rules
  | `(tactic| array_mem_dec) => `(tactic| try dsimp only [putF, putS, setSlot, putAll, ownOf, slotAt, startT, slotsFrom, nones, List.cons_append, List.nil_append, List.length_cons, List.length_nil, Nat.reduceAdd, Nat.reduceSub, Nat.zero_add, Nat.sub_self, Nat.add_sub_cancel])
theorem take_ok (N : Nat) (hN : 0 < N) {ns : List Int} {k size : Int} {R : Tok → List (List T) → Prop} (h0 : 0 < ns.length) (hs : 0 < size) (h : ∀ v, 0 ≤ v → v < size → R (.v (.int v)) [[.int (k + 1)]]) :
    sem N .law_take_viv [.v (.lst (ns.map .int)), .io [.int k], .v (.int size)] R := by
  obtain ⟨n, rfl⟩ : ∃ M, N = M + 1 := ⟨N - 1, by omega⟩
  refine ⟨rfl, ?_⟩
  have hl : (0 : Int) < ((ns.map T.int).length : Nat) := by rw [List.length_map]; omega
  obtain ⟨v, e, _⟩ := atT_in (ts := ns) (i := k % ((ns.map T.int).length : Nat)) (Int.emod_nonneg _ (by omega)) (by rw [List.length_map]; exact Int.emod_lt_of_pos _ (by omega))
  refine ⟨hl, ifSome.of (t := .int v) (by rw [atT_map, e]; rfl) ⟨hs, rfl, ?_⟩⟩
  exact ⟨rfl, h _ (Int.emod_nonneg _ (by omega)) (Int.emod_lt_of_pos _ hs)⟩
theorem cell_ok (N : Nat) (hN : 0 < N) {ns : List Int} {kI : Int} {sc : T} {R : Tok → List (List T) → Prop} (hsc : sc = .lsk (ns.map .int) ∨ sc = .lst (ns.map .int)) (hn : ns.length ≤ 63) (hk : 0 ≤ kI) (h : ∀ v : Int, R (.v (.int v)) []) :
    sem N .law_cell [.v sc, .v (.int kI)] R := by
  obtain ⟨n, rfl⟩ : ∃ M, N = M + 1 := ⟨N - 1, by omega⟩
  obtain ⟨k, rfl⟩ := Int.eq_ofNat_of_zero_le hk
  rcases hsc with rfl | rfl
  all_goals
    refine ⟨rfl, ?_⟩
    refine Br.of (fun hlt => ?_) (fun hge => ?_)
    · rw [List.length_map] at hlt
      have hlt' : k < ns.length := by omega
      refine ifSome.of (t := .int ns[k]) ?_ (h _)
      rw [atT_map, atT_get hlt']
      rfl
    · array_mem_dec
      refine for_s [2] [3] (fun _ vs => ∃ s, vs = [some (.val (.int s))] ∧ 0 ≤ s ∧ s < 1000003) ns rfl [_] rfl ⟨17, rfl, by decide, by decide⟩ (fun pre x post e vs w hi K hK => ?_) (fun vs w hi => ?_)
      · obtain ⟨s, rfl, s0, s1⟩ := hi
        refine ⟨cmul_l (by omega) (by omega), by decide, by decide, hK _ [_] rfl ⟨_, rfl, Int.emod_nonneg _ (by decide), Int.emod_lt_of_pos _ (by decide)⟩⟩
      · obtain ⟨s, rfl, s0, s1⟩ := hi
        refine ⟨cmul_l (by omega) (by omega), cmul_r (by decide) (by decide), by decide, h _⟩
theorem digits_ok (N : Nat) (hN : 0 < N) {c : Int} {ts : List T} {R : Tok → List (List T) → Prop} (sz : List Int) (et : ts = sz.map .int) (hz : ∀ z ∈ sz, 0 < z ∧ z < 1000000) (hl : sz.length ≤ 1000) (h : ∀ ns : List Int, Dg ns sz → R (.fr (ns.map .int)) []) :
    sem N .law_digits [.v (.int c), .v (.lst ts)] R := by
  obtain ⟨n, rfl⟩ : ∃ M, N = M + 1 := ⟨N - 1, by omega⟩
  subst et
  refine ⟨rfl, ?_⟩
  refine ⟨rfl, ⟨by decide, by decide, by decide⟩, Br.of (fun hlt => ?_) (fun hge => ?_)⟩
  · refine ⟨⟨by decide, by decide, by decide⟩, ?_⟩
    array_mem_dec
    refine for_s [2, 3] [4] (fun pre vs => ∃ (ns : List Int) (r : Int), vs = [some (.own (ns.map .int)), some (.val (.int r))] ∧ Dg ns pre) sz rfl [_, _] rfl ⟨[], _, rfl, trivial⟩ (fun pre x post e vs w hi K hK => ?_) (fun vs w hi => ?_)
    · obtain ⟨ns, r, rfl, e1⟩ := hi
      have hx := hz x (by rw [e]; simp)
      have hp : pre.length ≤ sz.length := by rw [e]; simp
      have e2 := e1.len
      refine ⟨rfl, hx.1, ?_, ⟨hx.1, by omega⟩, hK _ [_, _] rfl ⟨ns ++ [r % x], _, by rw [List.map_append]; rfl, e1.snoc (Int.emod_nonneg _ (by omega)) (Int.emod_lt_of_pos _ hx.1)⟩⟩
      rw [List.length_map, sizeLine_is]
      omega
    · obtain ⟨ns, r, rfl, e1⟩ := hi
      exact h ns e1
  · refine ⟨by decide, ?_, ?_⟩
    · rw [List.length_map]; omega
    array_mem_dec
    have em : ((List.map T.int sz).length : Int).toNat = sz.length := by simp
    refine range_s [2, 5] [6, 7] (fun i vs => ∃ (ns : List Int) (s : Int), vs = [some (.own (ns.map .int)), some (.val (.int s))] ∧ (0 ≤ s ∧ s < 2147483647) ∧ Dg ns (sz.take i)) [_, _] rfl ⟨[], _, rfl, ⟨Int.emod_nonneg _ (by decide), Int.lt_trans (Int.emod_lt_of_pos _ (by decide)) (by decide)⟩, trivial⟩ (fun i hi vs w hI K hK => ?_) (fun vs w hI => ?_)
    · rw [em] at hi
      obtain ⟨ns, s, rfl, ⟨s0, s1⟩, e1⟩ := hI
      have hx := hz _ (List.getElem_mem hi)
      have e0 : (0 : Int) + (i : Nat) = (i : Nat) := by omega
      have hu : ∀ u : Int, 0 ≤ u → u < 2147483647 → L2.CMul u (u / 65537 + 3) := fun u h0 h1 => cmul_l (by omega) (by omega)
      have e2 := e1.len
      rw [List.length_take] at e2
      have et : sz.take (i + 1) = sz.take i ++ [sz[i]] := by rw [List.take_succ, List.getElem?_eq_getElem hi]; rfl
      refine ⟨cmul_l (by omega) (by omega), cmul_l (by decide) (by decide), by decide, ⟨by decide, by decide⟩, hu _ (Int.emod_nonneg _ (by decide)) (Int.emod_lt_of_pos _ (by decide)), by decide, rfl, ⟨by decide, by decide⟩, ifSome.of (t := .int sz[i]) ?_ ⟨hx.1, ?_, hK _ [_, _] rfl ⟨ns ++ [_], _, by rw [List.map_append]; rfl, ⟨Int.emod_nonneg _ (by decide), Int.emod_lt_of_pos _ (by decide)⟩, by rw [et]; exact e1.snoc (Int.emod_nonneg _ (by omega)) (Int.emod_lt_of_pos _ hx.1)⟩⟩⟩
      · rw [e0, atT_map, atT_get hi]
        rfl
      · rw [List.length_map, sizeLine_is]
        omega
    · obtain ⟨ns, s, rfl, _, e1⟩ := hI
      rw [em, List.take_length] at e1
      exact h ns e1
theorem ascending_ok (N : Nat) (hN : 0 < N) {ts : List T} {R : Tok → List (List T) → Prop} (hs : Srtb ts) (hl : ts.length ≤ 1000) (h : R (.v (.tup (ascT ts))) []) :
    sem N .law_ascending [.v (.lst ts)] R := by
  obtain ⟨n, rfl⟩ : ∃ M, N = M + 1 := ⟨N - 1, by omega⟩
  refine ⟨rfl, rfl, hs.sorted fun ys hp hw => ?_⟩
  have hall : ∀ x ∈ ys, T.isS 50 x = true := fun x hx => List.all_eq_true.mp hs.isS x (hp.mem_iff.mp hx)
  refine for_in ys (e := id) (fun pre τ => ∃ (acc : List T) (x0 x2 : Option Slot), τ = [x0, some (.own acc), x2] ∧ acc.length ≤ pre.length ∧ (∀ x ∈ acc, T.isS 50 x = true) ∧ ∀ post, ys = pre ++ post → ddT acc post = ddT [] ys) (by simp) ⟨[], _, _, rfl, Nat.le_refl _, fun x hx => by simp at hx, fun post e => by rw [e]; rfl⟩ (fun pre x post e τ hi K hK => ?_) (fun τ hi => ?_)
  · obtain ⟨acc, x0, x2, rfl, hle, ha, hd⟩ := hi
    have hd' := hd (x :: post) e
    have hx := hall x (by rw [e]; simp)
    have hlp : pre.length < ts.length := by
      have : ys.length = ts.length := hp.length_eq
      rw [e] at this
      simp at this
      omega
    have uni : ∀ post2, ys = pre ++ [x] ++ post2 → post2 = post := fun post2 e2 => by
      rw [e, List.append_assoc] at e2
      have := List.append_cancel_left e2
      simpa using this.symm
    have put : acc.getLast? ≠ some x → K [x0, some (.own (acc ++ [x])), some (.val x)] := fun en => hK _ ⟨acc ++ [x], _, _, rfl, by simp; omega, fun y hy => by
      rcases List.mem_append.mp hy with hy | hy
      · exact ha y hy
      · rw [List.mem_singleton.mp hy]; exact hx, fun post2 e2 => by
      rw [uni post2 e2, ← ddT_ne en]
      exact hd'⟩
    refine Br.of (fun h0 => Br.yes rfl ⟨rfl, ?_, put ?_⟩) (fun h0 => ?_)
    · rw [sizeLine_is]; omega
    · have : acc = [] := List.length_eq_zero_iff.mp (by omega)
      subst this
      simp
    · have hne : acc ≠ [] := fun z => by subst z; exact h0 rfl
      obtain ⟨bs, b, rfl⟩ : ∃ bs b, acc = bs ++ [b] := ⟨acc.dropLast, acc.getLast hne, (List.dropLast_concat_getLast hne).symm⟩
      have hb := ha b (by simp)
      refine ifSome.of (t := b) (atT_last _ _) ?_
      dsimp only [dVar, slotAt, use, setSlot]
      refine opNe_S hb hx ?_
      refine Br.ofNot (fun hb => ⟨rfl, ?_, put ?_⟩) (fun hb => ?_)
      · rw [sizeLine_is]; omega
      · simp; exact hb
      · subst hb
        refine hK _ ⟨bs ++ [b], _, _, rfl, by simp at hle ⊢; omega, ha, fun post2 e2 => ?_⟩
        rw [uni post2 e2, ← ddT_eq (x := b) (by simp)]
        exact hd'
  · obtain ⟨acc, x0, x2, rfl, hle, ha, hd⟩ := hi
    have e := hd [] (by simp)
    rw [ddT_nil, ddT_asc hs.isS hp hw] at e
    subst e
    exact h
end K45
set_option maxHeartbeats 4000000
namespace K45
open N1
open PySem (Str sizeLine)
local macro_rules
  | `(tactic| sizeOf_list_dec) => `(tactic| first
    | assumption | omega | exact ⟨by omega, by omega⟩
    | exact cmul_l (by omega) (by omega) | exact cmul_r (by omega) (by omega)
    | exact fit_strs _ _ | exact fit_ints _ _ | exact Fm.fit _ (by omega)
    | exact emod_lo (by omega) | exact emod_hi (by omega) | exact mod_pos (by assumption)
    | (simp only [List.length_map, List.length_append, List.length_cons, List.length_nil, List.length_replicate, sizeLine_is]; first | done | omega | exact ⟨by omega, by omega⟩)
    | rfl | decide)
local macro_rules
  | `(tactic| and_intros) => `(tactic| repeat' (first
    | refine And.intro (by sizeOf_list_dec) ?_
    | refine Br.yes rfl ?_
    | refine Br.no rfl ?_
    | refine Br.is (by first | rfl | assumption | omega) ?_
    | refine Br.isnt (by first | assumption | exact k_not_atom | exact k_kd_atom _ | exact k_kd_not _ | exact k_atom_not | exact k_sa | exact k_as | omega) ?_
    | refine Br.notis (by first | assumption | exact k_not_atom | exact k_kd_atom _ | exact k_kd_not _ | exact k_atom_not | exact k_sa | exact k_as | omega) ?_
    | refine Br.notisnt (by first | rfl | assumption | omega) ?_
    | array_get_dec
    | (refine ixDg (i := 0) (by assumption) rfl rfl ?_; intro _ _ _)
    | (refine ixDg (i := 1) (by assumption) rfl rfl ?_; intro _ _ _)
    | (refine ixDg (i := 2) (by assumption) rfl rfl ?_; intro _ _ _)
    | (refine ixDg (i := 3) (by assumption) rfl rfl ?_; intro _ _ _)
    | (refine ixW rfl ?_
       first
       | refine ixB 0 1 (by decide) (by sizeOf_list_dec) (by sizeOf_list_dec) ?_
       | refine ixB 1 2 (by decide) (by sizeOf_list_dec) (by sizeOf_list_dec) ?_
       | refine ixB 0 2 (by decide) (by sizeOf_list_dec) (by sizeOf_list_dec) ?_
       | refine ixB 1 3 (by decide) (by sizeOf_list_dec) (by sizeOf_list_dec) ?_
       | refine ixB 0 3 (by decide) (by sizeOf_list_dec) (by sizeOf_list_dec) ?_
       | refine ixB 1 4 (by decide) (by sizeOf_list_dec) (by sizeOf_list_dec) ?_
       | refine ixB 0 4 (by decide) (by sizeOf_list_dec) (by sizeOf_list_dec) ?_
       | refine ixB 0 5 (by decide) (by sizeOf_list_dec) (by sizeOf_list_dec) ?_
       | refine ixB 1 6 (by decide) (by sizeOf_list_dec) (by sizeOf_list_dec) ?_
       | refine ixB 0 7 (by decide) (by sizeOf_list_dec) (by sizeOf_list_dec) ?_
       | refine ixB 0 12 (by decide) (by sizeOf_list_dec) (by sizeOf_list_dec) ?_
       | refine ixB 0 60 (by decide) (by sizeOf_list_dec) (by sizeOf_list_dec) ?_
       intro _ _ _)
    | (refine ixKd (by sizeOf_list_dec) (by sizeOf_list_dec) ?_; intro _)
    | (refine ixMod (by assumption) ?_; intro _ _)
    | (refine let36 (by sizeOf_list_dec) (by sizeOf_list_dec) ?_; intro _)
    | refine Br.of (fun _ => ?_) (fun _ => ?_)
    | refine Br.ofNot (fun _ => ?_) (fun _ => ?_)
    | refine Br.mk (fun _ => ?_) (fun _ => ?_)))
local macro_rules
  | `(tactic| array_mem_dec) => `(tactic| try dsimp only [putF, putS, setSlot, putAll, ownOf, slotAt, startT, slotsFrom, nones, List.cons_append, List.nil_append, List.length_cons, List.length_nil, Nat.reduceAdd, Nat.reduceSub, Nat.zero_add, Nat.sub_self, Nat.add_sub_cancel])

local macro_rules
  | `(tactic| array_get_dec) => `(tactic| (refine take_ok _ (by omega) (by assumption) (by decide) ?_; intro _ _ _; array_mem_dec))
/-- a formula that is drawn -/
def Fd (names : List Str) (n : Nat) (m : Fm) : Prop := Fm.of names m ∧ Fm.nest m ≤ n ∧ Fm.pos m = true ∧ Fm.wid m ≤ 1000
theorem Fd.at {names : List Str} {n : Nat} {x : Str} (h : x ∈ names) : Fd names n (.at x) := ⟨h, Nat.zero_le _, rfl, Nat.zero_le _⟩
theorem Fd.nd {names : List Str} {n : Nat} {b : Bool} {ms : List Fm} (h : ∀ m ∈ ms, Fd names n m) (hl : ms.length ≤ 1000) : Fd names (n + 1) (.nd b ms) :=
  ⟨Fm.ofs_iff.mpr fun m hm => (h m hm).1, Nat.succ_le_succ (Fm.nests_iff.mpr fun m hm => (h m hm).2.1), Fm.poss_iff.mpr fun m hm => (h m hm).2.2.1, Nat.max_le.mpr ⟨hl, Fm.wids_iff.mpr fun m hm => (h m hm).2.2.2⟩⟩
theorem Fd.mono {names : List Str} {n k : Nat} {m : Fm} (h : Fd names n m) (e : n ≤ k) : Fd names k m := ⟨h.1, Nat.le_trans h.2.1 e, h.2.2⟩
theorem formula_ok {ns : List Int} (h0 : 0 < ns.length) {names : List Str} (hn : 0 < names.length) : ∀ (d N : Nat), d + 1 < N → ∀ (dI k : Int), dI = d → ∀ (R : Tok → List (List T) → Prop),
    (∀ k' m t, t = Fm.enc m → Fd names d m → R (.v t) [[.int k']]) → sem N .law_formula_vivv [.v (.lst (ns.map .int)), .io [.int k], .v (.tup (names.map .str)), .v (.int dI)] R := by
  intro d
  induction d with
  | zero =>
    intro N hN dI k ed R h
    subst ed
    obtain ⟨N, rfl⟩ : ∃ M, N = M + 1 := ⟨N - 1, by omega⟩
    refine ⟨rfl, ?_⟩
    array_mem_dec
    and_intros
    rename_i x hx
    exact h _ (.at x) _ rfl (.at hx)
  | succ d ih =>
    intro N hN dI k ed R h
    subst ed
    obtain ⟨N, rfl⟩ : ∃ M, N = M + 1 := ⟨N - 1, by omega⟩
    refine ⟨rfl, ?_⟩
    array_mem_dec
    and_intros
    · rename_i x hx
      exact h _ (.at x) _ rfl (.at hx)
    · rename_i w _ _
      array_mem_dec
      refine range_s [1, 5] [6] (fun i vs => ∃ k ms, vs = [some (.io 0 [.int k]), some (.own (ms.map Fm.enc))] ∧ ms.length = i ∧ ∀ m ∈ ms, Fd names d m) [_, _] rfl ⟨_, [], rfl, rfl, fun m hm => by cases hm⟩ (fun i hi vs x6 hI K hK => ?_) (fun vs x6 hI => ?_)
      · obtain ⟨k, ms, rfl, hl, hm⟩ := hI
        array_mem_dec
        dsimp only [putF, putS, setSlot] at hK
        and_intros
        refine ih N (by omega) _ _ (by omega) _ fun k' m t et hm' => ?_
        subst et
        and_intros
        exact hK _ [_, _] rfl ⟨_, ms ++ [m], by rw [List.map_append]; rfl, by simp [hl], snoc_all hm hm'⟩
      · obtain ⟨k, ms, rfl, hl, hm⟩ := hI
        array_mem_dec
        and_intros
        rename_i b
        exact h _ (.nd b ms) _ (Fm.enc_nd _ _).symm (.nd hm (by omega))
theorem spot_ok {names : List Str} (hn : 0 < names.length) (N : Nat) (hN : 4 < N) {c : Int} {R : Tok → List (List T) → Prop} (h : ∀ m t, t = Fm.enc m → Fd names 8 m → R (.v t) []) :
    sem N .law_spot [.v (.int c), .v (.tup (names.map .str))] R := by
  obtain ⟨N, rfl⟩ : ∃ M, N = M + 1 := ⟨N - 1, by omega⟩
  refine ⟨rfl, ?_⟩
  array_mem_dec
  and_intros
  refine digits_ok N (by omega) (List.replicate 30 60) (rep1 30 60) (rep_ok (by decide)) (by decide) fun ns hl => ?_
  have h0 : 0 < ns.length := by rw [hl.len]; decide
  and_intros
  · rename_i x hx
    exact h (.at x) _ rfl (.at hx)
  · rename_i v _ _ _ _
    refine formula_ok h0 hn (1 + v % 2).toNat N (by omega) _ _ (by omega) _ fun k' m t et hm => ?_
    subst et
    exact h m _ rfl (hm.mono (by omega))
  · rename_i v _ _
    have : v = 0 ∨ v = 1 := by omega
    rcases this with rfl | rfl
    · exact h (.nd true []) _ rfl (.nd (n := 7) (fun m hm => by cases hm) (by decide))
    · exact h (.nd false []) _ rfl (.nd (n := 7) (fun m hm => by cases hm) (by decide))
local macro_rules
  | `(tactic| array_get_dec) => `(tactic| (refine cell_ok _ (by omega) (by assumption) (by assumption) (by omega) ?_; intro _; array_mem_dec))
theorem spots_ok {ns : List Int} {sc : T} (hsc : sc = .lsk (ns.map .int) ∨ sc = .lst (ns.map .int)) (hn : ns.length ≤ 63) {names : List Str} (h0 : 0 < names.length) (N : Nat) (hN : 5 < N) {R : Tok → List (List T) → Prop} (h : ∀ ms : List Fm, ms.length ≤ 5 → (∀ m ∈ ms, Fd names 8 m) → R (.v (.tup (ms.map Fm.enc))) []) :
    sem N .law_spots [.v sc, .v (.int 1), .v (.tup (names.map .str)), .v (.lst ([3, 2, 4, 1, 3, 5, 2, 0, 3, 2, 4, 3].map T.int))] R := by
  obtain ⟨N, rfl⟩ : ∃ M, N = M + 1 := ⟨N - 1, by omega⟩
  refine ⟨rfl, ?_⟩
  array_mem_dec
  and_intros
  refine digits_ok N (by omega) [12] rfl (by decide) (by decide) fun dg hd => ?_
  obtain ⟨x, rfl⟩ := List.length_eq_one_iff.mp hd.len
  obtain ⟨⟨x0, x1⟩, _⟩ := hd
  array_mem_dec
  and_intros
  rename_i w w0 w1
  array_mem_dec
  refine range_s [5] [6] (fun i vs => ∃ ms, vs = [some (.own (ms.map Fm.enc))] ∧ ms.length = i ∧ ∀ m ∈ ms, Fd names 8 m) [_] rfl ⟨[], rfl, rfl, fun m hm => by cases hm⟩ (fun i hi vs xs hI K hK => ?_) (fun vs xs hI => ?_)
  · obtain ⟨ms, rfl, hl, hm⟩ := hI
    array_mem_dec
    dsimp only [putF, putS, setSlot] at hK
    and_intros
    refine spot_ok h0 N (by omega) fun m t et hm' => ?_
    subst et
    and_intros
    exact hK _ [_] rfl ⟨ms ++ [m], by rw [List.map_append]; rfl, by simp [hl], snoc_all hm hm'⟩
  · obtain ⟨ms, rfl, hl, hm⟩ := hI
    array_mem_dec
    and_intros
    refine ascending_ok N (by omega) (Fm.srtb fun m hx => by have := (hm m hx).2.1; omega) (by simp; omega) ?_
    obtain ⟨ms', e, h2⟩ := ascF (ms := ms) (n := 24) fun m hx => by have := (hm m hx).2.1; omega
    rw [e]
    have h3 := ascT_len (ms.map Fm.enc)
    rw [e, List.length_map, List.length_map] at h3
    exact h ms' (by omega) fun m hx => hm m ((h2 m).mp hx)
end K45
set_option maxHeartbeats 4000000
namespace K45
open N1
open PySem (Str sizeLine)
local macro_rules
  | `(tactic| sizeOf_list_dec) => `(tactic| first
    | assumption | omega | exact ⟨by omega, by omega⟩
    | exact cmul_l (by omega) (by omega) | exact cmul_r (by omega) (by omega)
    | exact fit_strs _ _ | exact fit_ints _ _ | exact Fm.fit _ (by omega)
    | exact emod_lo (by omega) | exact emod_hi (by omega) | exact mod_pos (by assumption)
    | (simp only [List.length_map, List.length_append, List.length_cons, List.length_nil, List.length_replicate, sizeLine_is]; first | done | omega | exact ⟨by omega, by omega⟩)
    | rfl | decide)
local macro_rules
  | `(tactic| and_intros) => `(tactic| repeat' (first
    | refine And.intro (by sizeOf_list_dec) ?_
    | refine Br.yes rfl ?_
    | refine Br.no rfl ?_
    | refine Br.is (by first | rfl | assumption | omega) ?_
    | refine Br.isnt (by first | assumption | exact k_not_atom | exact k_kd_atom _ | exact k_kd_not _ | exact k_atom_not | exact k_sa | exact k_as | omega) ?_
    | refine Br.notis (by first | assumption | exact k_not_atom | exact k_kd_atom _ | exact k_kd_not _ | exact k_atom_not | exact k_sa | exact k_as | omega) ?_
    | refine Br.notisnt (by first | rfl | assumption | omega) ?_
    | array_get_dec
    | (refine ixDg (i := 0) (by assumption) rfl rfl ?_; intro _ _ _)
    | (refine ixDg (i := 1) (by assumption) rfl rfl ?_; intro _ _ _)
    | (refine ixDg (i := 2) (by assumption) rfl rfl ?_; intro _ _ _)
    | (refine ixDg (i := 3) (by assumption) rfl rfl ?_; intro _ _ _)
    | (refine ixW rfl ?_
       first
       | refine ixB 0 1 (by decide) (by sizeOf_list_dec) (by sizeOf_list_dec) ?_
       | refine ixB 1 2 (by decide) (by sizeOf_list_dec) (by sizeOf_list_dec) ?_
       | refine ixB 0 2 (by decide) (by sizeOf_list_dec) (by sizeOf_list_dec) ?_
       | refine ixB 1 3 (by decide) (by sizeOf_list_dec) (by sizeOf_list_dec) ?_
       | refine ixB 0 3 (by decide) (by sizeOf_list_dec) (by sizeOf_list_dec) ?_
       | refine ixB 1 4 (by decide) (by sizeOf_list_dec) (by sizeOf_list_dec) ?_
       | refine ixB 0 4 (by decide) (by sizeOf_list_dec) (by sizeOf_list_dec) ?_
       | refine ixB 0 5 (by decide) (by sizeOf_list_dec) (by sizeOf_list_dec) ?_
       | refine ixB 1 6 (by decide) (by sizeOf_list_dec) (by sizeOf_list_dec) ?_
       | refine ixB 0 7 (by decide) (by sizeOf_list_dec) (by sizeOf_list_dec) ?_
       | refine ixB 0 12 (by decide) (by sizeOf_list_dec) (by sizeOf_list_dec) ?_
       | refine ixB 0 60 (by decide) (by sizeOf_list_dec) (by sizeOf_list_dec) ?_
       intro _ _ _)
    | (refine ixKd (by sizeOf_list_dec) (by sizeOf_list_dec) ?_; intro _)
    | (refine ixMod (by assumption) ?_; intro _ _)
    | (refine let36 (by sizeOf_list_dec) (by sizeOf_list_dec) ?_; intro _)
    | refine Br.of (fun _ => ?_) (fun _ => ?_)
    | refine Br.ofNot (fun _ => ?_) (fun _ => ?_)
    | refine Br.mk (fun _ => ?_) (fun _ => ?_)))
local macro_rules
  | `(tactic| array_mem_dec) => `(tactic| try dsimp only [putF, putS, setSlot, putAll, ownOf, slotAt, startT, slotsFrom, nones, List.cons_append, List.nil_append, List.length_cons, List.length_nil, Nat.reduceAdd, Nat.reduceSub, Nat.zero_add, Nat.sub_self, Nat.add_sub_cancel])

theorem named_ok (N : Nat) (hN : 2 < N) {c : Int} {R : Tok → List (List T) → Prop} (h : ∀ (xs : List Str) (ts : List T), ts = xs.map .str → 0 < xs.length → xs.length ≤ 4 → (∀ x ∈ xs, x.length ≤ 8) → xs.Nodup → R (.v (.tup ts)) []) :
    sem N .law_named [.v (.int c)] R := by
  obtain ⟨N, rfl⟩ : ∃ M, N = M + 1 := ⟨N - 1, by omega⟩
  refine ⟨rfl, ?_⟩
  array_mem_dec
  and_intros
  refine digits_ok N (by omega) ([2, 6, 12] ++ [26, 6, 36, 36, 36, 36, 36, 36, 36] ++ [26, 6, 36, 36, 36, 36, 36, 36, 36] ++ [26, 6, 36, 36, 36, 36, 36, 36, 36] ++ [26, 6, 36, 36, 36, 36, 36, 36, 36]) rfl (by decide) (by decide) fun dg hd => ?_
  array_mem_dec
  and_intros
  · rename_i w w0 w1 _ _ _ _ v v0 v1
    obtain ⟨l, e, h4, h8, _, hnd⟩ := menu6 v0 v1 menuA menuA_ok
    refine ifSome.of e ?_
    and_intros
    exact h _ _ (sl_toE rfl w.toNat (by omega)) (by rw [List.length_take]; omega) (by rw [List.length_take]; omega) (fun x hx => h8 x (List.mem_of_mem_take hx)) (hnd.sublist (List.take_sublist _ _))
  · rename_i w w0 w1 _ _ _ _
    array_mem_dec
    refine range_s [5] [6, 7, 8, 9] (fun i vs => ∃ fs, vs = [some (.own (fs.map .str))] ∧ fs.length = i ∧ ∀ f ∈ fs, Str.length f ≤ 8) [_] rfl ⟨[], rfl, rfl, fun m hm => by cases hm⟩ (fun i hi vs xs hI K hK => ?_) (fun vs xs hI => ?_)
    · obtain ⟨fs, rfl, hl, hf⟩ := hI
      array_mem_dec
      dsimp only [putF, putS, setSlot] at hK
      obtain ⟨part, e, hp⟩ := sl_dg hd (a := 3 + 9 * (0 + (i : Int))) (b := 12 + 9 * (0 + (i : Int))) (3 + 9 * i) 9 (by omega) (by omega) (by
        show _ ≤ 39
        omega)
      have hp : Dg part [26, 6, 36, 36, 36, 36, 36, 36, 36] := by
        have : i = 0 ∨ i = 1 ∨ i = 2 ∨ i = 3 := by omega
        rcases this with rfl | rfl | rfl | rfl <;> exact hp
      and_intros
      refine ixDgE 0 e hp rfl rfl fun v v0 v1 => ?_
      and_intros
      refine ixDgE 1 e hp rfl rfl fun v v0 v1 => ?_
      and_intros
      rename_i wl wl0 wl1
      obtain ⟨e2, hp2⟩ := sl_dgE e hp (a := 2) (b := 2 + wl) 2 wl.toNat rfl (by omega) (by
        show _ ≤ 9
        omega)
      have h36 : ∀ z ∈ (part.drop 2).take wl.toNat, 0 ≤ z ∧ z < 36 := by
        have : ([26, 6, 36, 36, 36, 36, 36, 36, 36].drop 2).take wl.toNat = List.replicate wl.toNat (36 : Int) := by
          have : wl.toNat ≤ 7 := by omega
          generalize wl.toNat = m at this
          have : m = 0 ∨ m = 1 ∨ m = 2 ∨ m = 3 ∨ m = 4 ∨ m = 5 ∨ m = 6 ∨ m = 7 := by omega
          rcases this with rfl | rfl | rfl | rfl | rfl | rfl | rfl | rfl <;> rfl
        rw [this] at hp2
        exact hp2.rep
      array_mem_dec
      refine for_s [8] [9] (fun pre vs => ∃ nm : Str, vs = [some (.val (.str nm))] ∧ nm.length ≤ 1 + pre.length) ((part.drop 2).take wl.toNat) e2 [_] rfl ⟨_, rfl, by simp [len_one]⟩ (fun pre x post ex vs xs hI K2 hK2 => ?_) (fun vs xs hI => ?_)
      · obtain ⟨nm, rfl, hnm⟩ := hI
        dsimp only [putF, putS, setSlot] at hK2
        array_mem_dec
        have hx := h36 x (by rw [ex]; simp)
        have hpl : pre.length ≤ 7 := by
          have h1 := congrArg List.length ex
          have h2 := hp2.len
          rw [h1] at h2
          simp at h2
          omega
        and_intros
        rename_i c0
        have hb8 : nm.length + 1 ≤ 9 := by omega
        refine ⟨Nat.le_trans hb8 (by rw [sizeLine_is]; decide), ?_⟩
        exact hK2 _ [_] rfl ⟨_, rfl, by rw [len_app, len_one, List.length_append, List.length_singleton]; omega⟩
      · obtain ⟨nm, rfl, hnm⟩ := hI
        have hn8 : nm.length ≤ 8 := by
          have h2 := hp2.len
          rw [h2] at hnm
          simp at hnm
          omega
        have hnl : nm.length ≤ sizeLine := by rw [sizeLine_is]; omega
        array_mem_dec
        have fin : ∀ nm' x7 x9, Str.length nm' ≤ 8 → K [some (.val (.int c)), some (.own (dg.map .int)), some (.val (.int w)), none, some (.val (.str letters36)), some (.own (fs.map .str ++ [.str nm'])), some (.val (.int (0 + (i : Int)))), x7, some (.val (.str nm')), x9] := fun nm' x7 x9 hn' => hK _ [_] rfl ⟨fs ++ [nm'], by rw [List.map_append]; rfl, by simp [hl], snoc_all hf hn'⟩
        have nx : ∀ c0, (Str.ofString "z" ++ (⟨#[c0]⟩ : Str)).length ≤ 8 ∧ (Str.ofString "z").length + (⟨#[c0]⟩ : Str).length ≤ sizeLine := fun c0 => by
          have e1 : (Str.ofString "z").length = 1 := by decide +kernel
          rw [len_app, len_one, e1, sizeLine_is]
          decide
        and_intros
        · refine ⟨(nx _).2, ?_⟩
          and_intros
          exact fin _ _ _ (nx _).1
        · refine ⟨(nx _).2, ?_⟩
          and_intros
          exact fin _ _ _ (nx _).1
        · exact fin _ _ _ hn8
    · obtain ⟨fs, rfl, hl, hf⟩ := hI
      array_mem_dec
      and_intros
      refine ascending_ok N (by omega) (.inl ⟨fs, rfl⟩) (by simp; omega) ?_
      obtain ⟨xs', e, h2⟩ := ascS fs
      have h3 := ascT_len (fs.map T.str)
      rw [e, List.length_map, List.length_map] at h3
      have hall : (fs.map T.str).all (T.isS 0) = true := by
        rw [List.all_map, List.all_eq_true]
        exact fun m hm => rfl
      have hnd := (ascT_asc hall).nodup
      rw [e] at hnd
      refine h xs' _ e ?_ (by omega) (fun m hx => hf m ((h2 m).mp hx)) (List.Pairwise.of_map T.str (fun a b hab hc => hab (by rw [hc])) hnd)
      obtain ⟨f, hfm⟩ := List.exists_mem_of_length_pos (l := fs) (by omega)
      exact List.length_pos_of_mem ((h2 f).mpr hfm)
end K45
set_option maxHeartbeats 4000000
namespace K45
open N1
open PySem (Str sizeLine)
local macro_rules
  | `(tactic| sizeOf_list_dec) => `(tactic| first
    | assumption | omega | exact ⟨by omega, by omega⟩
    | exact cmul_l (by omega) (by omega) | exact cmul_r (by omega) (by omega)
    | exact fit_strs _ _ | exact fit_ints _ _ | exact Fm.fit _ (by omega)
    | exact emod_lo (by omega) | exact emod_hi (by omega) | exact mod_pos (by assumption)
    | (simp only [List.length_map, List.length_append, List.length_cons, List.length_nil, List.length_replicate, sizeLine_is]; first | done | omega | exact ⟨by omega, by omega⟩)
    | rfl | decide)
local macro_rules
  | `(tactic| and_intros) => `(tactic| repeat' (first
    | refine And.intro (by sizeOf_list_dec) ?_
    | refine Br.yes rfl ?_
    | refine Br.no rfl ?_
    | refine Br.is (by first | rfl | assumption | omega) ?_
    | refine Br.isnt (by first | assumption | exact k_not_atom | exact k_kd_atom _ | exact k_kd_not _ | exact k_atom_not | exact k_sa | exact k_as | omega) ?_
    | refine Br.notis (by first | assumption | exact k_not_atom | exact k_kd_atom _ | exact k_kd_not _ | exact k_atom_not | exact k_sa | exact k_as | omega) ?_
    | refine Br.notisnt (by first | rfl | assumption | omega) ?_
    | array_get_dec
    | (refine ixDg (i := 0) (by assumption) rfl rfl ?_; intro _ _ _)
    | (refine ixDg (i := 1) (by assumption) rfl rfl ?_; intro _ _ _)
    | (refine ixDg (i := 2) (by assumption) rfl rfl ?_; intro _ _ _)
    | (refine ixDg (i := 3) (by assumption) rfl rfl ?_; intro _ _ _)
    | (refine ixW rfl ?_
       first
       | refine ixB 26 36 (by decide) (by sizeOf_list_dec) (by sizeOf_list_dec) ?_
       | refine ixB 0 1 (by decide) (by sizeOf_list_dec) (by sizeOf_list_dec) ?_
       | refine ixB 1 2 (by decide) (by sizeOf_list_dec) (by sizeOf_list_dec) ?_
       | refine ixB 0 2 (by decide) (by sizeOf_list_dec) (by sizeOf_list_dec) ?_
       | refine ixB 1 3 (by decide) (by sizeOf_list_dec) (by sizeOf_list_dec) ?_
       | refine ixB 0 3 (by decide) (by sizeOf_list_dec) (by sizeOf_list_dec) ?_
       | refine ixB 1 4 (by decide) (by sizeOf_list_dec) (by sizeOf_list_dec) ?_
       | refine ixB 0 4 (by decide) (by sizeOf_list_dec) (by sizeOf_list_dec) ?_
       | refine ixB 0 5 (by decide) (by sizeOf_list_dec) (by sizeOf_list_dec) ?_
       | refine ixB 1 6 (by decide) (by sizeOf_list_dec) (by sizeOf_list_dec) ?_
       | refine ixB 1 8 (by decide) (by sizeOf_list_dec) (by sizeOf_list_dec) ?_
       | refine ixB 0 7 (by decide) (by sizeOf_list_dec) (by sizeOf_list_dec) ?_
       | refine ixB 0 12 (by decide) (by sizeOf_list_dec) (by sizeOf_list_dec) ?_
       | refine ixB 0 60 (by decide) (by sizeOf_list_dec) (by sizeOf_list_dec) ?_
       intro _ _ _)
    | (refine ixKd (by sizeOf_list_dec) (by sizeOf_list_dec) ?_; intro _)
    | (refine ixMod (by assumption) ?_; intro _ _)
    | (refine let36 (by sizeOf_list_dec) (by sizeOf_list_dec) ?_; intro _)
    | refine Br.of (fun _ => ?_) (fun _ => ?_)
    | refine Br.ofNot (fun _ => ?_) (fun _ => ?_)
    | refine Br.mk (fun _ => ?_) (fun _ => ?_)))
local macro_rules
  | `(tactic| array_mem_dec) => `(tactic| try dsimp only [putF, putS, setSlot, putAll, ownOf, slotAt, startT, slotsFrom, nones, List.cons_append, List.nil_append, List.length_cons, List.length_nil, Nat.reduceAdd, Nat.reduceSub, Nat.zero_add, Nat.sub_self, Nat.add_sub_cancel])

theorem is_on_ok (ws : List Str) (m : Fm) : ∀ (N : Nat) (hN : Fm.nest m < N) {R : Tok → List (List T) → Prop} (h : R (.v (.bl (Fm.on (fun x => decide (x ∈ ws)) m))) []),
    sem N .is_on [.v (Fm.enc m), .v (.tup (ws.map .str))] R := by
  revert m
  refine Fm.ind (fun x => ?_) (fun m ih => ?_) (fun b ms ih => ?_)
  · intro N hN R h
    obtain ⟨N, rfl⟩ : ∃ M, N = M + 1 := ⟨N - 1, by omega⟩
    refine ⟨rfl, ?_⟩
    array_mem_dec
    and_intros
    rw [T.has_strs]
    exact h
  · intro N hN R h
    obtain ⟨N, rfl⟩ : ∃ M, N = M + 1 := ⟨N - 1, by omega⟩
    replace hN : Fm.nest m + 1 < N + 1 := hN
    refine ⟨rfl, ?_⟩
    array_mem_dec
    and_intros
    exact ih N (by omega) h
  · intro N hN R h
    obtain ⟨N, rfl⟩ : ∃ M, N = M + 1 := ⟨N - 1, by omega⟩
    replace hN : Fm.nests ms + 1 < N + 1 := hN
    refine ⟨rfl, ?_⟩
    have one : ∀ x ∈ ms, ∀ K : DK, K (.v (.bl (Fm.on (fun x => decide (x ∈ ws)) x))) [some (.val (Fm.enc (.nd b ms))), some (.val (.tup (ws.map .str))), some (.val (Fm.enc x))] →
        dCall (sem N .is_on) [false, false] [] (dCons (dVar 2) (dCons (dVar 1) dNil)) [some (.val (Fm.enc (.nd b ms))), some (.val (.tup (ws.map .str))), some (.val (Fm.enc x))] K := fun x hx K hK => by
      and_intros
      exact ih x hx N (by have := Fm.nest_le hx; omega) hK
    array_mem_dec
    cases b with
    | true =>
      rw [(Fm.ons_all _ ms).1] at h
      and_intros
      exact gen_all Fm.enc (Fm.on fun x => decide (x ∈ ws)) ms (Fm.encs_eq ms) false (fun s => rfl) one h
    | false =>
      rw [(Fm.ons_all _ ms).2] at h
      and_intros
      exact gen_all Fm.enc (Fm.on fun x => decide (x ∈ ws)) ms (Fm.encs_eq ms) true (fun s => rfl) one h
theorem on_ok (ws : List Str) (m : Fm) : ∀ (N : Nat) (hN : Fm.nest m < N) {R : Tok → List (List T) → Prop} (h : R (.v (.bl (Fm.on (fun x => decide (x ∈ ws)) m))) []),
    sem N .law_on [.v (Fm.enc m), .v (.tup (ws.map .str))] R := by
  revert m
  refine Fm.ind (fun x => ?_) (fun m ih => ?_) (fun b ms ih => ?_)
  · intro N hN R h
    obtain ⟨N, rfl⟩ : ∃ M, N = M + 1 := ⟨N - 1, by omega⟩
    refine ⟨rfl, ?_⟩
    array_mem_dec
    and_intros
    rw [T.has_strs]
    exact h
  · intro N hN R h
    obtain ⟨N, rfl⟩ : ∃ M, N = M + 1 := ⟨N - 1, by omega⟩
    replace hN : Fm.nest m + 1 < N + 1 := hN
    refine ⟨rfl, ?_⟩
    array_mem_dec
    and_intros
    exact ih N (by omega) h
  · intro N hN R h
    obtain ⟨N, rfl⟩ : ∃ M, N = M + 1 := ⟨N - 1, by omega⟩
    replace hN : Fm.nests ms + 1 < N + 1 := hN
    refine ⟨rfl, ?_⟩
    array_mem_dec
    and_intros
    refine for_s [] [2] (fun pre vs => vs = [] ∧ ∀ m ∈ pre, Fm.on (fun x => decide (x ∈ ws)) m = b) ms (Fm.encs_eq ms) [] rfl ⟨rfl, fun m h => by cases h⟩ (fun pre x post e vs xs hi K hK => ?_) (fun vs xs hi => ?_)
    · obtain ⟨rfl, hb⟩ := hi
      array_mem_dec
      dsimp only [putF, putS, setSlot] at hK
      have hx : x ∈ ms := by rw [e]; simp
      and_intros
      refine ih x hx N (by have := Fm.nest_le hx; omega) ?_
      refine Br.ofNot (fun hne => ?_) (fun he => ?_)
      · and_intros
        have hb : Fm.on (fun x => decide (x ∈ ws)) (.nd b ms) = !b := by
          show Fm.ons _ b ms = _
          rw [e, Fm.ons_skip _ b pre _ hb]
          refine if_neg ?_
          rw [k_kd_all] at hne
          exact hne
        rw [hb, ← k_kd_all b] at h
        exact h
      · rw [k_kd_all] at he
        exact hK _ [] rfl ⟨rfl, snoc_all hb he⟩
    · obtain ⟨rfl, hb⟩ := hi
      array_mem_dec
      and_intros
      have : Fm.on (fun x => decide (x ∈ ws)) (.nd b ms) = b := by
        have := Fm.ons_skip (fun x => decide (x ∈ ws)) b ms [] hb
        rw [List.append_nil] at this
        exact this
      rw [this, ← k_kd_all b] at h
      exact h
/-- a claim -/
structure Cl where
  as : List Fm
  bs : List Fm
def encC (c : Cl) : T := .tup [.tup (c.as.map Fm.enc), .tup (c.bs.map Fm.enc)]
abbrev onW (w : List Str) : Fm → Bool := Fm.on fun x => decide (x ∈ w)
def kp (w : List Str) (c : Cl) : Bool := !(c.as.all (onW w)) || c.bs.any (onW w)
/-- its formulas are not too deep -/
def Cl.Nq (n : Nat) (c : Cl) : Prop := ∀ m ∈ c.as ++ c.bs, Fm.nest m ≤ n
theorem keeps_ok (w : List Str) (c : Cl) (n : Nat) (hc : c.Nq n) (N : Nat) (hN : n + 1 < N) {R : Tok → List (List T) → Prop} (h : R (.v (.bl (kp w c))) []) : sem N .keeps [.v (encW w), .v (encC c)] R := by
  obtain ⟨N, rfl⟩ : ∃ M, N = M + 1 := ⟨N - 1, by omega⟩
  have ha : ∀ m ∈ c.as, Fm.nest m < N := fun m hm => by have := hc m (List.mem_append_left _ hm); omega
  have hb : ∀ m ∈ c.bs, Fm.nest m < N := fun m hm => by have := hc m (List.mem_append_right _ hm); omega
  have one : ∀ x, Fm.nest x < N → ∀ K : DK, K (.v (.bl (onW w x))) [some (.val (encW w)), some (.val (encC c)), some (.val (Fm.enc x))] →
      dCall (sem N .is_on) [false, false] [] (dCons (dVar 2) (dCons (dVar 0) dNil)) [some (.val (encW w)), some (.val (encC c)), some (.val (Fm.enc x))] K := fun x hx K hK => by
    and_intros
    exact is_on_ok w x N hx hK
  refine ⟨rfl, ?_⟩
  array_mem_dec
  and_intros
  refine gen_all Fm.enc (onW w) c.as rfl false (fun s => rfl) (fun x hx => one x (ha x hx)) ?_
  show Br (!(c.as.all (onW w))) _ _
  cases hq : c.as.all (onW w) with
  | false =>
    refine Br.yes rfl ?_
    rw [kp, hq] at h
    exact h
  | true =>
    refine Br.no rfl ?_
    rw [kp, hq] at h
    and_intros
    exact gen_all Fm.enc (onW w) c.bs rfl true (fun s => rfl) (fun x hx => one x (hb x hx)) h
theorem law_keeps_ok (w : List Str) (c : Cl) (n : Nat) (hc : c.Nq n) (N : Nat) (hN : n + 1 < N) {R : Tok → List (List T) → Prop} (h : R (.v (.bl (kp w c))) []) : sem N .law_keeps [.v (encW w), .v (encC c)] R := by
  obtain ⟨N, rfl⟩ : ∃ M, N = M + 1 := ⟨N - 1, by omega⟩
  have ha : ∀ m ∈ c.as, Fm.nest m < N := fun m hm => by have := hc m (List.mem_append_left _ hm); omega
  have hb : ∀ m ∈ c.bs, Fm.nest m < N := fun m hm => by have := hc m (List.mem_append_right _ hm); omega
  refine ⟨rfl, ?_⟩
  array_mem_dec
  and_intros
  refine for_s [] [2] (fun pre vs => vs = [] ∧ ∀ m ∈ pre, onW w m = true) c.as rfl [] rfl ⟨rfl, fun m h => by cases h⟩ (fun pre x post e vs xs hi K hK => ?_) (fun vs xs hi => ?_)
  · obtain ⟨rfl, hp⟩ := hi
    array_mem_dec
    dsimp only [putF, putS, setSlot] at hK
    have hx : x ∈ c.as := by rw [e]; simp
    and_intros
    refine on_ok w x N (ha x hx) ?_
    show Br (!(onW w x)) _ _
    cases hq : onW w x with
    | false =>
      refine Br.yes rfl ?_
      have : c.as.all (onW w) = false := by
        rw [e, List.all_append, List.all_cons, hq]
        simp
      rw [kp, this] at h
      exact h
    | true =>
      exact Br.no rfl (hK _ [] rfl ⟨rfl, snoc_all hp hq⟩)
  · obtain ⟨rfl, hp⟩ := hi
    have hall : c.as.all (onW w) = true := List.all_eq_true.mpr hp
    array_mem_dec
    and_intros
    refine for_s [] [2] (fun pre vs => vs = [] ∧ ∀ m ∈ pre, onW w m = false) c.bs rfl [] rfl ⟨rfl, fun m h => by cases h⟩ (fun pre x post e vs xs hi K hK => ?_) (fun vs xs hi => ?_)
    · obtain ⟨rfl, hp⟩ := hi
      array_mem_dec
      dsimp only [putF, putS, setSlot] at hK
      have hx : x ∈ c.bs := by rw [e]; simp
      and_intros
      refine on_ok w x N (hb x hx) ?_
      show Br (onW w x) _ _
      cases hq : onW w x with
      | true =>
        refine Br.yes rfl ?_
        have : c.bs.any (onW w) = true := by
          rw [e, List.any_append, List.any_cons, hq]
          simp
        rw [kp, this, Bool.or_true] at h
        exact h
      | false =>
        exact Br.no rfl (hK _ [] rfl ⟨rfl, snoc_all hp hq⟩)
    · obtain ⟨rfl, hp⟩ := hi
      array_mem_dec
      and_intros
      have : c.bs.any (onW w) = false := List.any_eq_false.mpr fun x hx => by rw [hp x hx]; simp
      rw [kp, hall, this] at h
      exact h
/-- made of texts, numbers and tuples that are not too long -/
def isI : Nat → T → Bool
  | _, .str _ => true
  | _, .int _ => true
  | n + 1, .tup ts => decide (ts.length ≤ 1000000) && ts.all (isI n)
  | _, _ => false
theorem isI_tup {n : Nat} {ts : List T} : isI (n + 1) (.tup ts) = true ↔ ts.length ≤ 1000000 ∧ ∀ t ∈ ts, isI n t = true := by
  show (decide _ && _) = true ↔ _
  rw [Bool.and_eq_true, decide_eq_true_eq, List.all_eq_true]
theorem isL_I : ∀ (n : Nat) (t : T), T.isL n t = true → isI n t = true := by
  intro n
  induction n with
  | zero => intro t h; cases t <;> first | rfl | cases h
  | succ n ih =>
    intro t h
    cases t <;> first | rfl | (cases h; done) | skip
    rw [T.isL_tup] at h
    exact isI_tup.mpr ⟨h.1, fun x hx => ih x (h.2 x hx)⟩
theorem whole_ok (i : Int) (N : Nat) (hN : 0 < N) {R : Tok → List (List T) → Prop} (h : R (.v (.bl true)) []) : sem N .law_whole [.v (.int i)] R := by
  obtain ⟨N, rfl⟩ : ∃ M, N = M + 1 := ⟨N - 1, by omega⟩
  refine ⟨rfl, ?_⟩
  array_mem_dec
  and_intros
  exact h
theorem same_ok : ∀ (n : Nat) (t : T), isI n t = true → ∀ (N : Nat), n + 1 < N → ∀ {t' : T}, t' = t → ∀ {R : Tok → List (List T) → Prop}, R (.v (.bl true)) [] → sem N .law_same [.v t', .v t] R := by
  intro n
  have strC : ∀ (x : Str) (N : Nat), 0 < N → ∀ {R : Tok → List (List T) → Prop}, R (.v (.bl true)) [] → sem N .law_same [.v (.str x), .v (.str x)] R := fun x N hN R h => by
    obtain ⟨N, rfl⟩ : ∃ M, N = M + 1 := ⟨N - 1, by omega⟩
    refine ⟨rfl, ?_⟩
    array_mem_dec
    and_intros
    rw [← show decide (x = x) = true from decide_eq_true rfl] at h
    exact h
  have intC : ∀ (x : Int) (N : Nat), 1 < N → ∀ {R : Tok → List (List T) → Prop}, R (.v (.bl true)) [] → sem N .law_same [.v (.int x), .v (.int x)] R := fun x N hN R h => by
    obtain ⟨N, rfl⟩ : ∃ M, N = M + 1 := ⟨N - 1, by omega⟩
    refine ⟨rfl, ?_⟩
    array_mem_dec
    and_intros
    refine whole_ok x N (by omega) ?_
    and_intros
    rw [← show decide (x = x) = true from decide_eq_true rfl] at h
    exact h
  induction n with
  | zero =>
    intro t ht N hN t' et R h
    subst et
    cases t' <;> first | (cases ht; done) | skip
    · exact intC _ N (by omega) h
    · exact strC _ N (by omega) h
  | succ n ih =>
    intro t ht N hN t' et R h
    subst et
    cases t' <;> first | (cases ht; done) | skip
    · exact intC _ N (by omega) h
    · exact strC _ N (by omega) h
    rename_i ts
    have ht := isI_tup.mp ht
    have hl := ht.1
    obtain ⟨N, rfl⟩ : ∃ M, N = M + 1 := ⟨N - 1, by omega⟩
    refine ⟨rfl, ?_⟩
    array_mem_dec
    and_intros
    array_mem_dec
    refine range_s [] [2] (fun i vs => vs = []) [] rfl rfl (fun i hi vs xs hI K hK => ?_) (fun vs xs hI => ?_)
    · subst hI
      array_mem_dec
      dsimp only [putF, putS, setSlot] at hK
      have hi : i < ts.length := by simpa using hi
      have e0 : atT ts (0 + (i : Int)) = some ts[i] := by rw [Int.zero_add, atT_get hi]
      and_intros
      refine ifSome.of e0 ?_
      and_intros
      refine ifSome.of e0 ?_
      and_intros
      refine ih ts[i] (ht.2 _ (List.getElem_mem hi)) N (by omega) rfl ?_
      and_intros
      exact hK _ [] rfl rfl
    · subst hI
      array_mem_dec
      and_intros
      exact h
def P (ms : List Fm) : Nat → Nat → Fm
  | 0, k => if k = 0 then .nd true [] else .nd false []
  | j + 1, k => if k = 0 then .nd true [] else if k > j + 1 then .nd false [] else .nd false [P ms j k, .nd true [ms.getD j (.at default), P ms j (k - 1)]]
theorem P_0 (ms : List Fm) (j : Nat) : P ms j 0 = .nd true [] := by cases j <;> rfl
theorem P_hi (ms : List Fm) {j k : Nat} (h : j < k) : P ms j k = .nd false [] := by
  cases j with
  | zero => exact if_neg (by omega)
  | succ j => exact (if_neg (by omega)).trans (if_pos h)
theorem P_in (ms : List Fm) {j k : Nat} (h0 : 0 < k) (h1 : k ≤ j + 1) : P ms (j + 1) k = .nd false [P ms j k, .nd true [ms.getD j (.at default), P ms j (k - 1)]] := (if_neg (by omega)).trans (if_neg (by omega))
def Q (ms : List Fm) (i : Nat) : Nat → Nat → Fm
  | 0, k => P ms i k
  | d + 1, k => if k = 0 then .nd true [] else if k > i + 1 + d then .nd false [] else .nd false [Q ms i d k, .nd true [ms.getD (i + 1 + d) (.at default), Q ms i d (k - 1)]]
theorem getD_at {ms : List Fm} {j : Nat} (h : j < ms.length) : atT (ms.map Fm.enc) (j : Int) = some (Fm.enc (ms.getD j (.at default))) := by
  rw [atT_map, atT_get h]
  simp [List.getD, h]
theorem p_ok (ms : List Fm) : ∀ (j k N : Nat), j < N → j ≤ ms.length → ∀ {jI kI : Int}, jI = j → kI = k → ∀ {R : Tok → List (List T) → Prop}, R (.v (Fm.enc (P ms j k))) [] → sem N .law_p [.v (.tup (ms.map Fm.enc)), .v (.int jI), .v (.int kI)] R := by
  intro j
  induction j with
  | zero =>
    intro k N hN hl jI kI ej ek R h
    subst ej; subst ek
    obtain ⟨N, rfl⟩ : ∃ M, N = M + 1 := ⟨N - 1, by omega⟩
    refine ⟨rfl, ?_⟩
    array_mem_dec
    and_intros
    · rename_i h0
      obtain rfl : k = 0 := by omega
      exact h
    · rw [P_hi ms (by omega)] at h
      exact h
  | succ j ih =>
    intro k N hN hl jI kI ej ek R h
    subst ej; subst ek
    obtain ⟨N, rfl⟩ : ∃ M, N = M + 1 := ⟨N - 1, by omega⟩
    refine ⟨rfl, ?_⟩
    array_mem_dec
    and_intros
    · rename_i h0
      obtain rfl : k = 0 := by omega
      exact h
    · rw [P_hi ms (by omega)] at h
      exact h
    · rw [P_in ms (by omega) (by omega)] at h
      refine ih k N (by omega) (by omega) (by omega) rfl ?_
      have e1 : ((j + 1 : Nat) : Int) - 1 = (j : Int) := by omega
      and_intros
      refine ifSome.of (by rw [e1]; exact getD_at (by omega)) ?_
      and_intros
      refine ih (k - 1) N (by omega) (by omega) (by omega) (by omega) ?_
      and_intros
      exact h
end K45
set_option maxHeartbeats 4000000
namespace K45
open N1
open PySem (Str sizeLine)
local macro_rules
  | `(tactic| sizeOf_list_dec) => `(tactic| first
    | assumption | omega | exact ⟨by omega, by omega⟩
    | exact cmul_l (by omega) (by omega) | exact cmul_r (by omega) (by omega)
    | exact fit_strs _ _ | exact fit_ints _ _ | exact Fm.fit _ (by omega)
    | exact emod_lo (by omega) | exact emod_hi (by omega) | exact mod_pos (by assumption)
    | (simp only [List.length_map, List.length_append, List.length_cons, List.length_nil, List.length_replicate, sizeLine_is]; first | done | omega | exact ⟨by omega, by omega⟩)
    | rfl | decide)
local macro_rules
  | `(tactic| and_intros) => `(tactic| repeat' (first
    | refine And.intro (by sizeOf_list_dec) ?_
    | refine Br.yes rfl ?_
    | refine Br.no rfl ?_
    | refine Br.is (by first | rfl | assumption | omega) ?_
    | refine Br.isnt (by first | assumption | exact k_not_atom | exact k_kd_atom _ | exact k_kd_not _ | exact k_atom_not | exact k_sa | exact k_as | omega) ?_
    | refine Br.notis (by first | assumption | exact k_not_atom | exact k_kd_atom _ | exact k_kd_not _ | exact k_atom_not | exact k_sa | exact k_as | omega) ?_
    | refine Br.notisnt (by first | rfl | assumption | omega) ?_
    | array_get_dec
    | (refine ixDg (i := 0) (by assumption) rfl rfl ?_; intro _ _ _)
    | (refine ixDg (i := 1) (by assumption) rfl rfl ?_; intro _ _ _)
    | (refine ixDg (i := 2) (by assumption) rfl rfl ?_; intro _ _ _)
    | (refine ixDg (i := 3) (by assumption) rfl rfl ?_; intro _ _ _)
    | (refine ixW rfl ?_
       first
       | refine ixB 26 36 (by decide) (by sizeOf_list_dec) (by sizeOf_list_dec) ?_
       | refine ixB 0 1 (by decide) (by sizeOf_list_dec) (by sizeOf_list_dec) ?_
       | refine ixB 1 2 (by decide) (by sizeOf_list_dec) (by sizeOf_list_dec) ?_
       | refine ixB 0 2 (by decide) (by sizeOf_list_dec) (by sizeOf_list_dec) ?_
       | refine ixB 1 3 (by decide) (by sizeOf_list_dec) (by sizeOf_list_dec) ?_
       | refine ixB 0 3 (by decide) (by sizeOf_list_dec) (by sizeOf_list_dec) ?_
       | refine ixB 1 4 (by decide) (by sizeOf_list_dec) (by sizeOf_list_dec) ?_
       | refine ixB 0 4 (by decide) (by sizeOf_list_dec) (by sizeOf_list_dec) ?_
       | refine ixB 0 5 (by decide) (by sizeOf_list_dec) (by sizeOf_list_dec) ?_
       | refine ixB 1 6 (by decide) (by sizeOf_list_dec) (by sizeOf_list_dec) ?_
       | refine ixB 1 8 (by decide) (by sizeOf_list_dec) (by sizeOf_list_dec) ?_
       | refine ixB 0 7 (by decide) (by sizeOf_list_dec) (by sizeOf_list_dec) ?_
       | refine ixB 0 12 (by decide) (by sizeOf_list_dec) (by sizeOf_list_dec) ?_
       | refine ixB 0 60 (by decide) (by sizeOf_list_dec) (by sizeOf_list_dec) ?_
       intro _ _ _)
    | (refine ixKd (by sizeOf_list_dec) (by sizeOf_list_dec) ?_; intro _)
    | (refine ixMod (by assumption) ?_; intro _ _)
    | (refine let36 (by sizeOf_list_dec) (by sizeOf_list_dec) ?_; intro _)
    | refine Br.of (fun _ => ?_) (fun _ => ?_)
    | refine Br.ofNot (fun _ => ?_) (fun _ => ?_)
    | refine Br.mk (fun _ => ?_) (fun _ => ?_)))
local macro_rules
  | `(tactic| array_mem_dec) => `(tactic| try dsimp only [putF, putS, setSlot, putAll, ownOf, slotAt, startT, slotsFrom, nones, List.cons_append, List.nil_append, List.length_cons, List.length_nil, Nat.reduceAdd, Nat.reduceSub, Nat.zero_add, Nat.sub_self, Nat.add_sub_cancel])

theorem at_least_ok (ms : List Fm) : ∀ (j k N : Nat), j < N → j ≤ ms.length → ∀ {jI kI : Int}, jI = j → kI = k → ∀ {R : Tok → List (List T) → Prop}, R (.v (Fm.enc (P ms j k))) [] → sem N .at_least [.v (.tup (ms.map Fm.enc)), .v (.int jI), .v (.int kI)] R := by
  intro j
  induction j with
  | zero =>
    intro k N hN hl jI kI ej ek R h
    subst ej; subst ek
    obtain ⟨N, rfl⟩ : ∃ M, N = M + 1 := ⟨N - 1, by omega⟩
    refine ⟨rfl, ?_⟩
    array_mem_dec
    and_intros
    · rename_i h0
      obtain rfl : k = 0 := by omega
      exact h
    · rw [P_hi ms (by omega)] at h
      exact h
  | succ j ih =>
    intro k N hN hl jI kI ej ek R h
    subst ej; subst ek
    obtain ⟨N, rfl⟩ : ∃ M, N = M + 1 := ⟨N - 1, by omega⟩
    refine ⟨rfl, ?_⟩
    array_mem_dec
    and_intros
    · rename_i h0
      obtain rfl : k = 0 := by omega
      exact h
    · rw [P_hi ms (by omega)] at h
      exact h
    · rw [P_in ms (by omega) (by omega)] at h
      have e1 : ((j + 1 : Nat) : Int) - 1 = (j : Int) := by omega
      refine ifSome.of (by rw [e1]; exact getD_at (by omega)) ?_
      and_intros
      refine ih (k - 1) N (by omega) (by omega) (by omega) (by omega) ?_
      and_intros
      refine ih k N (by omega) (by omega) (by omega) rfl ?_
      and_intros
      exact h
theorem Q_0 (ms : List Fm) (i d : Nat) (h : d ≠ 0) : Q ms i d 0 = .nd true [] := by cases d with
  | zero => exact absurd rfl h
  | succ d => rfl
theorem Q_hi (ms : List Fm) {i d k : Nat} (h : i + 1 + d < k) : Q ms i (d + 1) k = .nd false [] := (if_neg (by omega)).trans (if_pos (by omega))
theorem Q_in (ms : List Fm) {i d k : Nat} (h0 : 0 < k) (h1 : k ≤ i + 1 + d) : Q ms i (d + 1) k = .nd false [Q ms i d k, .nd true [ms.getD (i + 1 + d) (.at default), Q ms i d (k - 1)]] := (if_neg (by omega)).trans (if_neg (by omega))
theorem q_ok (ms : List Fm) (i : Nat) : ∀ (d k N : Nat), i + d + 2 < N → i + 1 + d ≤ ms.length → ∀ {iI jI kI : Int}, iI = i → jI = (i + 1 + d : Nat) → kI = k → ∀ {R : Tok → List (List T) → Prop}, R (.v (Fm.enc (Q ms i d k))) [] → sem N .law_q [.v (.tup (ms.map Fm.enc)), .v (.int iI), .v (.int jI), .v (.int kI)] R := by
  intro d
  induction d with
  | zero =>
    intro k N hN hl iI jI kI ei ej ek R h
    subst ei; subst ej; subst ek
    obtain ⟨N, rfl⟩ : ∃ M, N = M + 1 := ⟨N - 1, by omega⟩
    refine ⟨rfl, ?_⟩
    array_mem_dec
    and_intros
    exact p_ok ms i k N (by omega) (by omega) rfl rfl h
  | succ d ih =>
    intro k N hN hl iI jI kI ei ej ek R h
    subst ei; subst ej; subst ek
    obtain ⟨N, rfl⟩ : ∃ M, N = M + 1 := ⟨N - 1, by omega⟩
    refine ⟨rfl, ?_⟩
    array_mem_dec
    and_intros
    · rename_i h0
      obtain rfl : k = 0 := by omega
      exact h
    · rw [Q_hi ms (by omega)] at h
      exact h
    · rw [Q_in ms (by omega) (by omega)] at h
      refine ih k N (by omega) (by omega) rfl (by omega) rfl ?_
      have e1 : ((i + 1 + (d + 1) : Nat) : Int) - 1 = ((i + 1 + d : Nat) : Int) := by omega
      and_intros
      refine ifSome.of (by rw [e1]; exact getD_at (by omega)) ?_
      and_intros
      refine ih (k - 1) N (by omega) (by omega) rfl (by omega) (by omega) ?_
      and_intros
      exact h
theorem others_ok (ms : List Fm) (i : Nat) : ∀ (d k N : Nat), i + d + 2 < N → i + 1 + d ≤ ms.length → ∀ {iI jI kI : Int}, iI = i → jI = (i + 1 + d : Nat) → kI = k → ∀ {R : Tok → List (List T) → Prop}, R (.v (Fm.enc (Q ms i d k))) [] → sem N .others [.v (.tup (ms.map Fm.enc)), .v (.int iI), .v (.int jI), .v (.int kI)] R := by
  intro d
  induction d with
  | zero =>
    intro k N hN hl iI jI kI ei ej ek R h
    subst ei; subst ej; subst ek
    obtain ⟨N, rfl⟩ : ∃ M, N = M + 1 := ⟨N - 1, by omega⟩
    refine ⟨rfl, ?_⟩
    array_mem_dec
    and_intros
    exact at_least_ok ms i k N (by omega) (by omega) rfl rfl h
  | succ d ih =>
    intro k N hN hl iI jI kI ei ej ek R h
    subst ei; subst ej; subst ek
    obtain ⟨N, rfl⟩ : ∃ M, N = M + 1 := ⟨N - 1, by omega⟩
    refine ⟨rfl, ?_⟩
    array_mem_dec
    and_intros
    · rename_i h0
      obtain rfl : k = 0 := by omega
      exact h
    · rw [Q_hi ms (by omega)] at h
      exact h
    · rw [Q_in ms (by omega) (by omega)] at h
      have e1 : ((i + 1 + (d + 1) : Nat) : Int) - 1 = ((i + 1 + d : Nat) : Int) := by omega
      refine ifSome.of (by rw [e1]; exact getD_at (by omega)) ?_
      and_intros
      refine ih (k - 1) N (by omega) (by omega) rfl (by omega) (by omega) ?_
      and_intros
      refine ih k N (by omega) (by omega) rfl (by omega) rfl ?_
      and_intros
      exact h
/-- the ladder that counts -/
def lad (ms : List Fm) : List Fm := (List.range ms.length).map fun k => P ms ms.length (k + 1)
theorem ladder_ok (ms : List Fm) (hl : ms.length ≤ 1000) (N : Nat) (hN : ms.length + 1 < N) {R : Tok → List (List T) → Prop} (h : R (.v (.tup ((lad ms).map Fm.enc))) []) : sem N .count_ladder [.v (.tup (ms.map Fm.enc))] R := by
  obtain ⟨N, rfl⟩ : ∃ M, N = M + 1 := ⟨N - 1, by omega⟩
  refine ⟨rfl, ?_⟩
  array_mem_dec
  and_intros
  refine lc_over (fun k : Nat => .int (1 + k)) (fun k => Fm.enc (P ms ms.length (k + 1))) (List.range ms.length) ?_ (fun s => rfl) (fun x hx K hK => ?_) ?_
  · rw [intsFrom_map]
    congr 2
    simp
  · and_intros
    exact at_least_ok ms _ _ N (by omega) (Nat.le_refl _) (by simp) (by omega) hK
  · rw [lad, List.map_map] at h
    exact h
/-! what they say -/
def cnt (p : Str → Bool) (ms : List Fm) (j : Nat) : Nat := (ms.take j).countP (Fm.on p)
theorem cnt_succ (p : Str → Bool) (ms : List Fm) {j : Nat} (h : j < ms.length) : cnt p ms (j + 1) = cnt p ms j + (if Fm.on p (ms.getD j (.at default)) then 1 else 0) := by
  unfold cnt
  rw [List.take_succ, List.getElem?_eq_getElem h, List.countP_append]
  simp [List.getD, h]
theorem cnt_le (p : Str → Bool) (ms : List Fm) (j : Nat) : cnt p ms j ≤ j := by
  unfold cnt
  refine Nat.le_trans List.countP_le_length ?_
  rw [List.length_take]; omega
theorem on_or (p : Str → Bool) (a b c : Fm) : Fm.on p (.nd false [a, .nd true [b, c]]) = (Fm.on p a || (Fm.on p b && Fm.on p c)) := by
  rw [(Fm.ons_all p _).2]
  simp only [List.any_cons, List.any_nil, Bool.or_false, (Fm.ons_all p _).1, List.all_cons, List.all_nil, Bool.and_true]
theorem P_on (p : Str → Bool) (ms : List Fm) : ∀ (j k : Nat), j ≤ ms.length → Fm.on p (P ms j k) = decide (k ≤ cnt p ms j) := by
  intro j
  induction j with
  | zero =>
    intro k h
    by_cases hk : k = 0
    · subst hk; rfl
    · rw [P_hi ms (by omega)]
      have := cnt_le p ms 0
      rw [decide_eq_false (by omega)]
      rfl
  | succ j ih =>
    intro k h
    by_cases hk : k = 0
    · subst hk
      rw [P_0, decide_eq_true (Nat.zero_le _)]
      rfl
    · have hc := cnt_succ p ms (j := j) (by omega)
      by_cases hk2 : j + 1 < k
      · rw [P_hi ms hk2]
        have := cnt_le p ms (j + 1)
        rw [decide_eq_false (by omega)]
        rfl
      · rw [P_in ms (by omega) (by omega), on_or, ih k (by omega), ih (k - 1) (by omega), hc]
        cases Fm.on p (ms.getD j (.at default))
        · simp
        · simp only [Bool.true_and, if_true]
          rw [← Bool.decide_or]
          refine decide_eq_decide.mpr ?_
          omega
theorem cnt_mono (p : Str → Bool) (ms : List Fm) {i j : Nat} (h : i ≤ j) : cnt p ms i ≤ cnt p ms j := by
  unfold cnt
  rw [show ms.take i = (ms.take j).take i by rw [List.take_take, Nat.min_eq_left h]]
  exact List.Sublist.countP_le (List.take_sublist _ _)
theorem Q_on (p : Str → Bool) (ms : List Fm) (i : Nat) : ∀ (d k : Nat), i + 1 + d ≤ ms.length → Fm.on p (Q ms i d k) = decide (k + (if Fm.on p (ms.getD i (.at default)) then 1 else 0) ≤ cnt p ms (i + 1 + d)) := by
  intro d
  have h1 : ∀ n, i + 1 ≤ n → n ≤ ms.length → (if Fm.on p (ms.getD i (.at default)) then 1 else 0) ≤ cnt p ms n ∧ cnt p ms n ≤ n - 1 + (if Fm.on p (ms.getD i (.at default)) then 1 else 0) := fun n hn => by
    induction n with
    | zero => omega
    | succ n ih =>
      intro hl
      have hc := cnt_succ p ms (j := n) (by omega)
      by_cases e : n = i
      · subst e
        have := cnt_le p ms n
        omega
      · have := ih (by omega) (by omega)
        have hle : (if Fm.on p (ms.getD n (.at default)) then 1 else 0) ≤ 1 := by split <;> omega
        omega
  induction d with
  | zero =>
    intro k h
    show Fm.on p (P ms i k) = _
    rw [P_on p ms i k (by omega)]
    refine decide_eq_decide.mpr ?_
    have := cnt_succ p ms (j := i) (by omega)
    rw [show i + 1 + 0 = i + 1 from rfl, this]
    omega
  | succ d ih =>
    intro k h
    have hb := h1 (i + 1 + (d + 1)) (by omega) h
    by_cases hk : k = 0
    · subst hk
      rw [Q_0 ms i _ (by omega), decide_eq_true (by omega)]
      rfl
    · have hc := cnt_succ p ms (j := i + 1 + d) (by omega)
      have hb2 := h1 (i + 1 + d) (by omega) (by omega)
      rw [show i + 1 + (d + 1) = i + 1 + d + 1 from rfl] at *
      by_cases hk2 : i + 1 + d < k
      · rw [Q_hi ms hk2, decide_eq_false (by omega)]
        rfl
      · rw [Q_in ms (by omega) (by omega), on_or, ih k (by omega), ih (k - 1) (by omega), hc]
        cases Fm.on p (ms.getD (i + 1 + d) (.at default))
        · simp
        · simp only [Bool.true_and, if_true]
          rw [← Bool.decide_or]
          refine decide_eq_decide.mpr ?_
          omega
/-! how deep -/
def Ok1 (D : Nat) (m : Fm) : Prop := Fm.nest m ≤ D ∧ Fm.wid m ≤ 1000
theorem Ok1.nd {D : Nat} {b : Bool} {ms : List Fm} (h : ∀ m ∈ ms, Ok1 D m) (hl : ms.length ≤ 1000) : Ok1 (D + 1) (.nd b ms) :=
  ⟨Nat.succ_le_succ (Fm.nests_iff.mpr fun m hm => (h m hm).1), Nat.max_le.mpr ⟨hl, Fm.wids_iff.mpr fun m hm => (h m hm).2⟩⟩
theorem Ok1.or {D : Nat} {a b c : Fm} (ha : Ok1 D a) (hb : Ok1 D b) (hc : Ok1 D c) : Ok1 (D + 2) (.nd false [a, .nd true [b, c]]) := by
  refine Ok1.nd (fun m hm => ?_) (by show 2 ≤ 1000; decide)
  rcases List.mem_cons.mp hm with rfl | hm
  · exact ⟨Nat.le_succ_of_le ha.1, ha.2⟩
  · rw [List.mem_singleton.mp hm]
    refine Ok1.nd (fun m hm => ?_) (by show 2 ≤ 1000; decide)
    rcases List.mem_cons.mp hm with rfl | hm
    · exact hb
    · rw [List.mem_singleton.mp hm]; exact hc
theorem Ok1.mono {D E : Nat} {m : Fm} (h : Ok1 D m) (e : D ≤ E) : Ok1 E m := ⟨Nat.le_trans h.1 e, h.2⟩
theorem getD_ok {D : Nat} {ms : List Fm} (h : ∀ m ∈ ms, Ok1 D m) (j : Nat) : Ok1 D (ms.getD j (.at default)) := by
  rw [List.getD_eq_getElem?_getD]
  cases e : ms[j]? with
  | none => exact ⟨Nat.zero_le _, Nat.zero_le _⟩
  | some m => exact h m (List.mem_of_getElem? e)
theorem P_ok1 {D : Nat} {ms : List Fm} (h : ∀ m ∈ ms, Ok1 D m) : ∀ j k, Ok1 (D + 2 * j + 1) (P ms j k) := by
  have nd0 : ∀ b E, Ok1 (E + 1) (.nd b []) := fun b E => Ok1.nd (fun m hm => by cases hm) (Nat.zero_le _)
  intro j
  induction j with
  | zero =>
    intro k
    by_cases hk : k = 0
    · subst hk; exact nd0 _ _
    · rw [P_hi ms (by omega)]; exact nd0 _ _
  | succ j ih =>
    intro k
    by_cases hk : k = 0
    · subst hk; exact nd0 _ _
    · by_cases hk2 : j + 1 < k
      · rw [P_hi ms hk2]; exact nd0 _ _
      · rw [P_in ms (by omega) (by omega)]
        have := Ok1.or (ih k) ((getD_ok h j).mono (show D ≤ D + 2 * j + 1 by omega)) (ih (k - 1))
        exact this.mono (by omega)
theorem Q_ok1 {D : Nat} {ms : List Fm} (h : ∀ m ∈ ms, Ok1 D m) (i : Nat) : ∀ d k, Ok1 (D + 2 * (i + d) + 1) (Q ms i d k) := by
  have nd0 : ∀ b E, Ok1 (E + 1) (.nd b []) := fun b E => Ok1.nd (fun m hm => by cases hm) (Nat.zero_le _)
  intro d
  induction d with
  | zero => exact fun k => P_ok1 h i k
  | succ d ih =>
    intro k
    by_cases hk : k = 0
    · subst hk; exact nd0 _ _
    · by_cases hk2 : i + 1 + d < k
      · rw [Q_hi ms hk2]; exact nd0 _ _
      · rw [Q_in ms (by omega) (by omega)]
        have := Ok1.or (ih k) ((getD_ok h (i + 1 + d)).mono (show D ≤ D + 2 * (i + d) + 1 by omega)) (ih (k - 1))
        exact this.mono (by omega)
theorem Ok1.isL {D : Nat} {m : Fm} (h : Ok1 D m) (n : Nat) (hn : 2 * D + 1 ≤ n) : T.isL n (Fm.enc m) = true := Fm.isL m n (by have := h.1; omega) (by have := h.2; omega)
end K45
set_option maxHeartbeats 4000000
namespace K45
open N1
open PySem (Str sizeLine)
local macro_rules
  | `(tactic| sizeOf_list_dec) => `(tactic| first
    | assumption | omega | exact ⟨by omega, by omega⟩
    | exact cmul_l (by omega) (by omega) | exact cmul_r (by omega) (by omega)
    | exact fit_strs _ _ | exact fit_ints _ _ | exact Fm.fit _ (by omega)
    | exact emod_lo (by omega) | exact emod_hi (by omega) | exact mod_pos (by assumption)
    | (simp only [List.length_map, List.length_append, List.length_cons, List.length_nil, List.length_replicate, sizeLine_is]; first | done | omega | exact ⟨by omega, by omega⟩)
    | rfl | decide)
local macro_rules
  | `(tactic| and_intros) => `(tactic| repeat' (first
    | refine And.intro (by sizeOf_list_dec) ?_
    | refine Br.yes rfl ?_
    | refine Br.no rfl ?_
    | refine Br.is (by first | rfl | assumption | omega) ?_
    | refine Br.isnt (by first | assumption | exact k_not_atom | exact k_kd_atom _ | exact k_kd_not _ | exact k_atom_not | exact k_sa | exact k_as | omega) ?_
    | refine Br.notis (by first | assumption | exact k_not_atom | exact k_kd_atom _ | exact k_kd_not _ | exact k_atom_not | exact k_sa | exact k_as | omega) ?_
    | refine Br.notisnt (by first | rfl | assumption | omega) ?_
    | array_get_dec
    | (refine ixDg (i := 0) (by assumption) rfl rfl ?_; intro _ _ _)
    | (refine ixDg (i := 1) (by assumption) rfl rfl ?_; intro _ _ _)
    | (refine ixDg (i := 2) (by assumption) rfl rfl ?_; intro _ _ _)
    | (refine ixDg (i := 3) (by assumption) rfl rfl ?_; intro _ _ _)
    | (refine ixW rfl ?_
       first
       | refine ixB 26 36 (by decide) (by sizeOf_list_dec) (by sizeOf_list_dec) ?_
       | refine ixB 0 1 (by decide) (by sizeOf_list_dec) (by sizeOf_list_dec) ?_
       | refine ixB 1 2 (by decide) (by sizeOf_list_dec) (by sizeOf_list_dec) ?_
       | refine ixB 0 2 (by decide) (by sizeOf_list_dec) (by sizeOf_list_dec) ?_
       | refine ixB 1 3 (by decide) (by sizeOf_list_dec) (by sizeOf_list_dec) ?_
       | refine ixB 0 3 (by decide) (by sizeOf_list_dec) (by sizeOf_list_dec) ?_
       | refine ixB 1 4 (by decide) (by sizeOf_list_dec) (by sizeOf_list_dec) ?_
       | refine ixB 0 4 (by decide) (by sizeOf_list_dec) (by sizeOf_list_dec) ?_
       | refine ixB 0 5 (by decide) (by sizeOf_list_dec) (by sizeOf_list_dec) ?_
       | refine ixB 1 6 (by decide) (by sizeOf_list_dec) (by sizeOf_list_dec) ?_
       | refine ixB 1 8 (by decide) (by sizeOf_list_dec) (by sizeOf_list_dec) ?_
       | refine ixB 0 7 (by decide) (by sizeOf_list_dec) (by sizeOf_list_dec) ?_
       | refine ixB 0 12 (by decide) (by sizeOf_list_dec) (by sizeOf_list_dec) ?_
       | refine ixB 0 60 (by decide) (by sizeOf_list_dec) (by sizeOf_list_dec) ?_
       intro _ _ _)
    | (refine ixKd (by sizeOf_list_dec) (by sizeOf_list_dec) ?_; intro _)
    | (refine ixMod (by assumption) ?_; intro _ _)
    | (refine let36 (by sizeOf_list_dec) (by sizeOf_list_dec) ?_; intro _)
    | refine Br.of (fun _ => ?_) (fun _ => ?_)
    | refine Br.ofNot (fun _ => ?_) (fun _ => ?_)
    | refine Br.mk (fun _ => ?_) (fun _ => ?_)))
local macro_rules
  | `(tactic| array_mem_dec) => `(tactic| try dsimp only [putF, putS, setSlot, putAll, ownOf, slotAt, startT, slotsFrom, nones, List.cons_append, List.nil_append, List.length_cons, List.length_nil, Nat.reduceAdd, Nat.reduceSub, Nat.zero_add, Nat.sub_self, Nat.add_sub_cancel])

theorem below_ok (v w : List Str) (N : Nat) (hN : 0 < N) {R : Tok → List (List T) → Prop} (h : R (.v (.bl (v.all fun x => decide (x ∈ w)))) []) : sem N .is_below [.v (encW v), .v (encW w)] R := by
  obtain ⟨N, rfl⟩ : ∃ M, N = M + 1 := ⟨N - 1, by omega⟩
  refine ⟨rfl, ?_⟩
  array_mem_dec
  and_intros
  refine gen_all T.str (fun x => decide (x ∈ w)) v rfl false (fun s => rfl) (fun x hx K hK => ?_) h
  refine ⟨by rfl, fit_strs _ _, ?_⟩
  rw [T.has_strs]
  exact hK
theorem all_worlds_ok (names : List Str) (hn : names.length ≤ 8) (N : Nat) (hN : 0 < N) {R : Tok → List (List T) → Prop} (h : R (.v (.tup ((wld names).map encW))) []) : sem N .all_worlds [.v (.tup (names.map .str))] R := by
  obtain ⟨N, rfl⟩ : ∃ M, N = M + 1 := ⟨N - 1, by omega⟩
  refine ⟨rfl, ?_⟩
  array_mem_dec
  and_intros
  array_mem_dec
  refine for_s [1] [2] (fun pre vs => vs = [some (.own ((wld pre).map encW))]) names rfl [_] rfl rfl (fun pre x post e vs xs hi K hK => ?_) (fun vs xs hi => ?_)
  · subst hi
    array_mem_dec
    dsimp only [putF, putS, setSlot] at hK
    have hp : pre.length ≤ 8 := by
      have := congrArg List.length e
      simp at this
      omega
    have hw : (wld pre).length ≤ 256 := by
      rw [wld_len]
      exact Nat.pow_le_pow_right (by decide) hp
    and_intros
    refine lc_over encW (fun w => encW (w ++ [x])) (wld pre) rfl (fun s => rfl) (fun w hw K hK => ?_) ?_
    · have := wld_mem w hw
      and_intros
      rw [encW, List.map_append] at hK
      exact hK
    · and_intros
      refine hK _ [_] rfl ?_
      rw [wld_snoc, List.map_append, List.map_map]
      rfl
  · subst hi
    array_mem_dec
    and_intros
    exact h
def okW (cs : List Cl) (w : List Str) : Bool := cs.all (kp w)
theorem worlds_of_ok (cs : List Cl) (names : List Str) (hn : names.length ≤ 8) (n : Nat) (hc : ∀ c ∈ cs, c.Nq n) (N : Nat) (hN : n + 2 < N) {R : Tok → List (List T) → Prop} {t t' : T} (et : t = .tup (cs.map encC)) (et' : t' = .tup (names.map .str))
    (h : R (.v (.tup (((wld names).filter (okW cs)).map encW))) []) : sem N .worlds_of [.v t, .v t'] R := by
  subst et; subst et'
  obtain ⟨N, rfl⟩ : ∃ M, N = M + 1 := ⟨N - 1, by omega⟩
  refine ⟨rfl, ?_⟩
  array_mem_dec
  and_intros
  refine all_worlds_ok names hn N (by omega) ?_
  and_intros
  refine lc_filter encW encW (okW cs) (wld names) rfl (fun s => rfl) (fun w hw K hK => ?_) (fun w hw hp K hK => ?_) ?_
  · and_intros
    refine gen_all encC (kp w) cs rfl false (fun s => rfl) (fun c hc' K hK => ?_) hK
    and_intros
    exact keeps_ok w c n (hc c hc') N (by omega) hK
  · exact hK
  · exact h
theorem lbelow_ok (v w : List Str) (N : Nat) (hN : 0 < N) {R : Tok → List (List T) → Prop} (h : R (.v (.bl (v.all fun x => decide (x ∈ w)))) []) : sem N .law_below [.v (encW v), .v (encW w)] R := by
  obtain ⟨N, rfl⟩ : ∃ M, N = M + 1 := ⟨N - 1, by omega⟩
  refine ⟨rfl, ?_⟩
  array_mem_dec
  and_intros
  refine for_s (e := T.str) [] [2] (fun pre vs => vs = [] ∧ ∀ x ∈ pre, x ∈ w) v rfl [] rfl ⟨rfl, fun x hx => by cases hx⟩ (fun pre x post e vs xs hi K hK => ?_) (fun vs xs hi => ?_)
  · obtain ⟨rfl, hp⟩ := hi
    array_mem_dec
    dsimp only [putF, putS, setSlot] at hK
    refine ⟨by rfl, fit_strs _ _, ?_⟩
    rw [T.has_strs]
    refine Br.ofNot (fun hn => ?_) (fun hy => ?_)
    · have : (v.all fun x => decide (x ∈ w)) = false := by
        rw [e, List.all_append, List.all_cons, decide_eq_false hn]
        simp
      rw [this] at h
      exact h
    · exact hK _ [] rfl ⟨rfl, snoc_all hp hy⟩
  · obtain ⟨rfl, hp⟩ := hi
    array_mem_dec
    have : (v.all fun x => decide (x ∈ w)) = true := List.all_eq_true.mpr fun x hx => decide_eq_true (hp x hx)
    rw [this] at h
    exact h
/-- the worlds that keep the claims -/
def wk (cs : List Cl) (names : List Str) : List (List Str) := (wld names).filter (okW cs)
theorem lworlds_ok (cs : List Cl) (names : List Str) (hn : names.length ≤ 8) (n : Nat) (hc : ∀ c ∈ cs, c.Nq n) (N : Nat) (hN : n + 2 < N) {R : Tok → List (List T) → Prop} {t t' : T} (et : t = .tup (cs.map encC)) (et' : t' = .tup (names.map .str))
    (h : R (.fr ((wk cs names).map encW)) []) : sem N .law_worlds [.v t, .v t'] R := by
  subst et; subst et'
  obtain ⟨N, rfl⟩ : ∃ M, N = M + 1 := ⟨N - 1, by omega⟩
  refine ⟨rfl, ?_⟩
  array_mem_dec
  and_intros
  array_mem_dec
  refine for_s [2] [3] (fun pre vs => vs = [some (.own ((wld pre).map encW))]) names rfl [_] rfl rfl (fun pre x post e vs xs hi K hK => ?_) (fun vs xs hi => ?_)
  · subst hi
    array_mem_dec
    dsimp only [putF, putS, setSlot] at hK
    have hp : pre.length ≤ 8 := by
      have := congrArg List.length e
      simp at this
      omega
    have hw : (wld pre).length ≤ 256 := by
      rw [wld_len]
      exact Nat.pow_le_pow_right (by decide) hp
    and_intros
    refine lc_over encW (fun w => encW (w ++ [x])) (wld pre) rfl (fun s => rfl) (fun w hw K hK => ?_) ?_
    · have := wld_mem w hw
      and_intros
      rw [encW, List.map_append] at hK
      exact hK
    · and_intros
      refine hK _ [_] rfl ?_
      rw [wld_snoc, List.map_append, List.map_map]
      rfl
  · subst hi
    have hw : (wld names).length ≤ 256 := by
      rw [wld_len]
      exact Nat.pow_le_pow_right (by decide) hn
    array_mem_dec
    and_intros
    array_mem_dec
    refine for_s [4] [5, 6, 7] (fun pre vs => vs = [some (.own ((pre.filter (okW cs)).map encW))]) (wld names) rfl [_] rfl rfl (fun pre w post e vs xs hi K hK => ?_) (fun vs xs hi => ?_)
    · subst hi
      array_mem_dec
      dsimp only [putF, putS, setSlot] at hK
      have hpl : pre.length < 1000 := by
        have := congrArg List.length e
        simp at this
        omega
      have hfl : (pre.filter (okW cs)).length ≤ pre.length := List.length_filter_le _ _
      refine for_s [6] [7] (fun pre vs => vs = [some (.val (.bl (pre.all (kp w))))]) cs rfl [_] rfl rfl (fun pre2 c post2 e2 vs xs hi K2 hK2 => ?_) (fun vs xs hi => ?_)
      · subst hi
        array_mem_dec
        dsimp only [putF, putS, setSlot] at hK2
        have hcc := hc c (by rw [e2]; simp)
        cases hq : pre2.all (kp w) with
        | false =>
          refine Br.no rfl (hK2 _ [_] rfl ?_)
          rw [List.all_append, hq]
          rfl
        | true =>
          refine Br.yes rfl ?_
          and_intros
          refine law_keeps_ok w c n hcc N (by omega) (hK2 _ [_] rfl ?_)
          rw [List.all_append, hq]
          simp
      · subst hi
        array_mem_dec
        cases hq : cs.all (kp w) with
        | false =>
          refine Br.no rfl (hK _ [_] rfl ?_)
          rw [List.filter_append, List.filter_cons_of_neg (by rw [okW, hq]; simp)]
          simp
        | true =>
          refine Br.yes rfl ⟨rfl, by rw [List.length_map, sizeLine_is]; omega, hK _ [_] rfl ?_⟩
          rw [List.filter_append, List.filter_cons_of_pos (by rw [okW, hq]), List.map_append]
          rfl
    · subst hi
      array_mem_dec
      exact h
theorem lpic_ok (ms : List Fm) (n : Nat) (hm : ∀ m ∈ ms, Fm.nest m ≤ n) (w : List Str) (N : Nat) (hN : n + 1 < N) {t : T} (et : t = .lst (ms.map Fm.enc) ∨ t = .tup (ms.map Fm.enc)) {R : Tok → List (List T) → Prop} (h : R (.fr (ms.map fun m => .bl (onW w m))) []) : sem N .law_picture [.v t, .v (encW w)] R := by
  obtain ⟨N, rfl⟩ : ∃ M, N = M + 1 := ⟨N - 1, by omega⟩
  rcases et with rfl | rfl
  all_goals
    refine ⟨rfl, ?_⟩
    array_mem_dec
    and_intros
    refine lc_over Fm.enc (fun m => .bl (onW w m)) ms rfl (fun s => rfl) (fun x hx K hK => ?_) h
    and_intros
    exact on_ok w x N (by have := hm x hx; omega) hK
theorem pic_ok (ms : List Fm) (n : Nat) (hm : ∀ m ∈ ms, Fm.nest m ≤ n) (w : List Str) (N : Nat) (hN : n + 1 < N) {t : T} (et : t = .tup (ms.map Fm.enc)) {R : Tok → List (List T) → Prop} (h : R (.v (.tup (ms.map fun m => .bl (onW w m)))) []) : sem N .picture_of [.v t, .v (encW w)] R := by
  subst et
  obtain ⟨N, rfl⟩ : ∃ M, N = M + 1 := ⟨N - 1, by omega⟩
  refine ⟨rfl, ?_⟩
  array_mem_dec
  and_intros
  refine lc_over Fm.enc (fun m => .bl (onW w m)) ms rfl (fun s => rfl) (fun x hx K hK => ?_) h
  and_intros
  exact is_on_ok w x N (by have := hm x hx; omega) hK
theorem sig_ok (ms : List Fm) (n : Nat) (hm : ∀ m ∈ ms, Fm.nest m ≤ n) (w : List Str) (N : Nat) (hN : n + 1 < N) {t : T} (et : t = .tup (ms.map Fm.enc)) {R : Tok → List (List T) → Prop} (h : R (.v (.tup (ms.map fun m => .bl (onW w m)))) []) : sem N .signature_of [.v t, .v (encW w)] R := by
  subst et
  obtain ⟨N, rfl⟩ : ∃ M, N = M + 1 := ⟨N - 1, by omega⟩
  refine ⟨rfl, ?_⟩
  array_mem_dec
  and_intros
  refine lc_over Fm.enc (fun m => .bl (onW w m)) ms rfl (fun s => rfl) (fun x hx K hK => ?_) h
  and_intros
  exact is_on_ok w x N (by have := hm x hx; omega) hK
end K45
set_option maxHeartbeats 4000000
namespace K45
open N1
open PySem (Str sizeLine)
local macro_rules
  | `(tactic| sizeOf_list_dec) => `(tactic| first
    | assumption | omega | exact ⟨by omega, by omega⟩
    | exact cmul_l (by omega) (by omega) | exact cmul_r (by omega) (by omega)
    | exact fit_strs _ _ | exact fit_ints _ _ | exact Fm.fit _ (by omega)
    | exact emod_lo (by omega) | exact emod_hi (by omega) | exact mod_pos (by assumption)
    | (simp only [List.length_map, List.length_append, List.length_cons, List.length_nil, List.length_replicate, sizeLine_is]; first | done | omega | exact ⟨by omega, by omega⟩)
    | rfl | decide)
local macro_rules
  | `(tactic| and_intros) => `(tactic| repeat' (first
    | refine And.intro (by sizeOf_list_dec) ?_
    | refine Br.yes rfl ?_
    | refine Br.no rfl ?_
    | refine Br.is (by first | rfl | assumption | omega) ?_
    | refine Br.isnt (by first | assumption | exact k_not_atom | exact k_kd_atom _ | exact k_kd_not _ | exact k_atom_not | exact k_sa | exact k_as | omega) ?_
    | refine Br.notis (by first | assumption | exact k_not_atom | exact k_kd_atom _ | exact k_kd_not _ | exact k_atom_not | exact k_sa | exact k_as | omega) ?_
    | refine Br.notisnt (by first | rfl | assumption | omega) ?_
    | array_get_dec
    | (refine ixDg (i := 0) (by assumption) rfl rfl ?_; intro _ _ _)
    | (refine ixDg (i := 1) (by assumption) rfl rfl ?_; intro _ _ _)
    | (refine ixDg (i := 2) (by assumption) rfl rfl ?_; intro _ _ _)
    | (refine ixDg (i := 3) (by assumption) rfl rfl ?_; intro _ _ _)
    | (refine ixW rfl ?_
       first
       | refine ixB 26 36 (by decide) (by sizeOf_list_dec) (by sizeOf_list_dec) ?_
       | refine ixB 0 1 (by decide) (by sizeOf_list_dec) (by sizeOf_list_dec) ?_
       | refine ixB 1 2 (by decide) (by sizeOf_list_dec) (by sizeOf_list_dec) ?_
       | refine ixB 0 2 (by decide) (by sizeOf_list_dec) (by sizeOf_list_dec) ?_
       | refine ixB 1 3 (by decide) (by sizeOf_list_dec) (by sizeOf_list_dec) ?_
       | refine ixB 0 3 (by decide) (by sizeOf_list_dec) (by sizeOf_list_dec) ?_
       | refine ixB 1 4 (by decide) (by sizeOf_list_dec) (by sizeOf_list_dec) ?_
       | refine ixB 0 4 (by decide) (by sizeOf_list_dec) (by sizeOf_list_dec) ?_
       | refine ixB 0 5 (by decide) (by sizeOf_list_dec) (by sizeOf_list_dec) ?_
       | refine ixB 1 6 (by decide) (by sizeOf_list_dec) (by sizeOf_list_dec) ?_
       | refine ixB 1 8 (by decide) (by sizeOf_list_dec) (by sizeOf_list_dec) ?_
       | refine ixB 0 7 (by decide) (by sizeOf_list_dec) (by sizeOf_list_dec) ?_
       | refine ixB 0 12 (by decide) (by sizeOf_list_dec) (by sizeOf_list_dec) ?_
       | refine ixB 0 60 (by decide) (by sizeOf_list_dec) (by sizeOf_list_dec) ?_
       intro _ _ _)
    | (refine ixKd (by sizeOf_list_dec) (by sizeOf_list_dec) ?_; intro _)
    | (refine ixMod (by assumption) ?_; intro _ _)
    | (refine let36 (by sizeOf_list_dec) (by sizeOf_list_dec) ?_; intro _)
    | refine Br.of (fun _ => ?_) (fun _ => ?_)
    | refine Br.ofNot (fun _ => ?_) (fun _ => ?_)
    | refine Br.mk (fun _ => ?_) (fun _ => ?_)))
local macro_rules
  | `(tactic| array_mem_dec) => `(tactic| try dsimp only [putF, putS, setSlot, putAll, wipeT, ownOf, slotAt, startT, slotsFrom, nones, List.cons_append, List.nil_append, List.length_cons, List.length_nil, Nat.reduceAdd, Nat.reduceSub, Nat.zero_add, Nat.sub_self, Nat.add_sub_cancel])

/-- the values along a ladder: true below, false above -/
def vals (L : List Fm) (w : List Str) : List Bool := true :: (L.map (onW w) ++ [false])
def lvP (L : List Fm) (w : List Str) (i : Nat) : Bool := (vals L w).getD i false && !((vals L w).getD (i + 1) false)
def lv (L : List Fm) (w : List Str) : List Nat := (List.range (L.length + 1)).filter (lvP L w)
theorem vals_len (L : List Fm) (w : List Str) : (vals L w).length = L.length + 2 := by simp [vals]
theorem vals_at {L : List Fm} {w : List Str} {i : Nat} (h : i < L.length + 2) : atT ((vals L w).map T.bl) (i : Int) = some (.bl ((vals L w).getD i false)) := by
  have hi : i < (vals L w).length := by rw [vals_len]; exact h
  rw [atT_map, atT_get hi]
  simp [List.getD, hi]
theorem range_ints (n : Nat) {lo : Int} (h : lo = 0) : intsFrom lo n = (List.range n).map fun k : Nat => T.int (k : Int) := by
  subst h
  rw [intsFrom_map]
  simp
theorem levels_on_ok (L : List Fm) (hL : L.length ≤ 1000) (n : Nat) (hm : ∀ m ∈ L, Fm.nest m ≤ n) (w : List Str) (N : Nat) (hN : n + 1 < N) {R : Tok → List (List T) → Prop} (h : R (.v (.tup ((lv L w).map fun k : Nat => .int (k : Int)))) []) : sem N .levels_on [.v (.tup (L.map Fm.enc)), .v (encW w)] R := by
  obtain ⟨N, rfl⟩ : ∃ M, N = M + 1 := ⟨N - 1, by omega⟩
  refine ⟨rfl, ?_⟩
  array_mem_dec
  and_intros
  refine lc_over Fm.enc (fun m => .bl (onW w m)) L rfl (fun s => rfl) (fun x hx K hK => ?_) ?_
  · and_intros
    exact is_on_ok w x N (by have := hm x hx; omega) hK
  refine ⟨by rw [List.length_map, sizeLine_is]; simp; omega, ?_⟩
  array_mem_dec
  and_intros
  array_mem_dec
  rw [show (T.bl true :: (List.map (fun m => T.bl (onW w m)) L ++ [T.bl false])) = (vals L w).map T.bl by simp [vals]]
  refine lc_filter (fun k : Nat => .int (k : Int)) (fun k : Nat => .int (k : Int)) (lvP L w) (List.range (L.length + 1)) ?_ (fun s => rfl) (fun k hk K hK => ?_) (fun k hk hp K hK => ?_) ?_
  · rw [range_ints _ rfl, List.length_map]
    congr 2
  · have hk := List.mem_range.mp hk
    refine ifSome.of (vals_at (by omega)) ?_
    cases hv : (vals L w).getD k false with
    | false =>
      rw [show lvP L w k = false by unfold lvP; rw [hv]; rfl] at hK
      exact Br.no rfl hK
    | true =>
      refine Br.yes rfl ?_
      refine ifSome.of (vals_at (L := L) (w := w) (i := k + 1) (by omega)) ?_
      rw [show lvP L w k = !((vals L w).getD (k + 1) false) by unfold lvP; rw [hv]; rfl] at hK
      exact hK
  · exact hK
  · exact h
theorem levels_of_ok (Ps : List (List Fm)) (hP : ∀ L ∈ Ps, L.length ≤ 1000) (n : Nat) (hm : ∀ L ∈ Ps, ∀ m ∈ L, Fm.nest m ≤ n) (w : List Str) (N : Nat) (hN : n + 2 < N) {t : T} (et : t = .tup (Ps.map fun L => .tup (L.map Fm.enc))) {R : Tok → List (List T) → Prop} (h : R (.v (.tup (Ps.map fun L => .tup ((lv L w).map fun k : Nat => .int (k : Int))))) []) : sem N .levels_of [.v t, .v (encW w)] R := by
  subst et
  obtain ⟨N, rfl⟩ : ∃ M, N = M + 1 := ⟨N - 1, by omega⟩
  refine ⟨rfl, ?_⟩
  array_mem_dec
  and_intros
  refine lc_over (fun L : List Fm => .tup (L.map Fm.enc)) (fun L => .tup ((lv L w).map fun k : Nat => .int (k : Int))) Ps rfl (fun s => rfl) (fun L hL K hK => ?_) h
  and_intros
  exact levels_on_ok L (hP L hL) n (hm L hL) w N (by omega) hK
def stW (Ps : List (List Fm)) (leaf : List Nat) (w : List Str) : Bool := (Ps.zip leaf).all fun p => decide (p.2 ∈ lv p.1 w)
theorem T.eq_ii (i j : Int) : T.eq (.int i) (.int j) = decide (i = j) := rfl
theorem has_nats (k : Nat) (ks : List Nat) : T.has (.int (k : Int)) (ks.map fun k : Nat => .int (k : Int)) = decide (k ∈ ks) := by
  unfold T.has
  induction ks with
  | nil => simp
  | cons x ks ih =>
    rw [List.map_cons, List.any_cons, ih, T.eq_ii]
    by_cases h : x = k
    · subst h; simp
    · have h1 : ¬ ((x : Int) = (k : Int)) := by omega
      have h2 : ¬ k = x := fun z => h z.symm
      simp [h1, h2]
theorem fit_nats (n : Nat) (ks : List Nat) : (ks.map fun k : Nat => T.int (k : Int)).all (T.fit n) = true := by
  rw [List.all_map, List.all_eq_true]
  intro k _
  cases n <;> rfl
theorem zip_is {β γ : Type} (f : β → T) (g : γ → T) : ∀ (xs : List β) (ys : List γ), zipT (xs.map f) (ys.map g) = (xs.zip ys).map fun p => .tup [f p.1, g p.2]
  | [], ys => by simp [zipT]
  | x :: xs, [] => by simp [zipT]
  | x :: xs, y :: ys => by
    have := zip_is f g xs ys
    simp only [zipT, List.map_cons, List.zipWith_cons_cons, List.zip_cons_cons] at this ⊢
    rw [this]
theorem stands_ok (Ps : List (List Fm)) (hP : Ps.length ≤ 1000) (leaf : List Nat) (w : List Str) (N : Nat) (hN : 0 < N) {t t' : T} (et : t = .tup (Ps.map fun L => .tup ((lv L w).map fun k : Nat => .int (k : Int)))) (et' : t' = .tup (leaf.map fun k : Nat => .int (k : Int))) {R : Tok → List (List T) → Prop} (h : R (.v (.bl (stW Ps leaf w))) []) : sem N .stands_on [.v t, .v t'] R := by
  subst et; subst et'
  obtain ⟨N, rfl⟩ : ∃ M, N = M + 1 := ⟨N - 1, by omega⟩
  refine ⟨rfl, ?_⟩
  array_mem_dec
  refine ⟨by rw [List.length_map, sizeLine_is]; omega, ?_⟩
  array_mem_dec
  refine lc_s [] (fun pre acc vs => vs = [] ∧ acc = pre.map fun p => .bl (decide (p.2 ∈ lv p.1 w))) (Ps.zip leaf) (zip_is _ _ _ _) [] rfl ⟨rfl, rfl⟩ (fun pre x post e acc vs hi K hK => ?_) (fun acc vs hi => ?_)
  · obtain ⟨rfl, rfl⟩ := hi
    refine ⟨rfl, ?_⟩
    refine Br.yes rfl ?_
    refine ⟨by rfl, fit_nats _ _, ?_⟩
    rw [has_nats]
    exact hK _ _ [] rfl ⟨rfl, by rw [List.map_append]; rfl⟩
  · obtain ⟨rfl, rfl⟩ := hi
    refine withBools.by ((Ps.zip leaf).map fun p => decide (p.2 ∈ lv p.1 w)) (by rw [List.map_map]; rfl) ?_
    have e : (((Ps.zip leaf).map fun p => decide (p.2 ∈ lv p.1 w)).all id) = stW Ps leaf w := by
      rw [List.all_map]; rfl
    rw [e]
    exact h
/-- all leaves of a plan -/
def lvs (Ps : List (List Fm)) : List (List Nat) := Ps.foldl (fun ls L => ls.flatMap fun leaf => (List.range (L.length + 1)).map fun k => leaf ++ [k]) [[]]
def encN (l : List Nat) : T := .tup (l.map fun k : Nat => .int (k : Int))
end K45
set_option maxHeartbeats 4000000
namespace K45
open N1
open PySem (Str sizeLine)
local macro_rules
  | `(tactic| sizeOf_list_dec) => `(tactic| first
    | assumption | omega | exact ⟨by omega, by omega⟩
    | exact cmul_l (by omega) (by omega) | exact cmul_r (by omega) (by omega)
    | exact fit_strs _ _ | exact fit_ints _ _ | exact Fm.fit _ (by omega)
    | exact emod_lo (by omega) | exact emod_hi (by omega) | exact mod_pos (by assumption)
    | (simp only [List.length_map, List.length_append, List.length_cons, List.length_nil, List.length_replicate, sizeLine_is]; first | done | omega | exact ⟨by omega, by omega⟩)
    | rfl | decide)
local macro_rules
  | `(tactic| and_intros) => `(tactic| repeat' (first
    | refine And.intro (by sizeOf_list_dec) ?_
    | refine Br.yes rfl ?_
    | refine Br.no rfl ?_
    | refine Br.is (by first | rfl | assumption | omega) ?_
    | refine Br.isnt (by first | assumption | exact k_not_atom | exact k_kd_atom _ | exact k_kd_not _ | exact k_atom_not | exact k_sa | exact k_as | omega) ?_
    | refine Br.notis (by first | assumption | exact k_not_atom | exact k_kd_atom _ | exact k_kd_not _ | exact k_atom_not | exact k_sa | exact k_as | omega) ?_
    | refine Br.notisnt (by first | rfl | assumption | omega) ?_
    | array_get_dec
    | (refine ixDg (i := 0) (by assumption) rfl rfl ?_; intro _ _ _)
    | (refine ixDg (i := 1) (by assumption) rfl rfl ?_; intro _ _ _)
    | (refine ixDg (i := 2) (by assumption) rfl rfl ?_; intro _ _ _)
    | (refine ixDg (i := 3) (by assumption) rfl rfl ?_; intro _ _ _)
    | (refine ixW rfl ?_
       first
       | refine ixB 26 36 (by decide) (by sizeOf_list_dec) (by sizeOf_list_dec) ?_
       | refine ixB 0 1 (by decide) (by sizeOf_list_dec) (by sizeOf_list_dec) ?_
       | refine ixB 1 2 (by decide) (by sizeOf_list_dec) (by sizeOf_list_dec) ?_
       | refine ixB 0 2 (by decide) (by sizeOf_list_dec) (by sizeOf_list_dec) ?_
       | refine ixB 1 3 (by decide) (by sizeOf_list_dec) (by sizeOf_list_dec) ?_
       | refine ixB 0 3 (by decide) (by sizeOf_list_dec) (by sizeOf_list_dec) ?_
       | refine ixB 1 4 (by decide) (by sizeOf_list_dec) (by sizeOf_list_dec) ?_
       | refine ixB 0 4 (by decide) (by sizeOf_list_dec) (by sizeOf_list_dec) ?_
       | refine ixB 0 5 (by decide) (by sizeOf_list_dec) (by sizeOf_list_dec) ?_
       | refine ixB 1 6 (by decide) (by sizeOf_list_dec) (by sizeOf_list_dec) ?_
       | refine ixB 1 8 (by decide) (by sizeOf_list_dec) (by sizeOf_list_dec) ?_
       | refine ixB 0 7 (by decide) (by sizeOf_list_dec) (by sizeOf_list_dec) ?_
       | refine ixB 0 12 (by decide) (by sizeOf_list_dec) (by sizeOf_list_dec) ?_
       | refine ixB 0 60 (by decide) (by sizeOf_list_dec) (by sizeOf_list_dec) ?_
       intro _ _ _)
    | (refine ixKd (by sizeOf_list_dec) (by sizeOf_list_dec) ?_; intro _)
    | (refine ixMod (by assumption) ?_; intro _ _)
    | (refine let36 (by sizeOf_list_dec) (by sizeOf_list_dec) ?_; intro _)
    | refine Br.of (fun _ => ?_) (fun _ => ?_)
    | refine Br.ofNot (fun _ => ?_) (fun _ => ?_)
    | refine Br.mk (fun _ => ?_) (fun _ => ?_)))
local macro_rules
  | `(tactic| array_mem_dec) => `(tactic| try dsimp only [putF, putS, setSlot, putAll, wipeT, ownOf, slotAt, startT, slotsFrom, nones, List.cons_append, List.nil_append, List.length_cons, List.length_nil, Nat.reduceAdd, Nat.reduceSub, Nat.zero_add, Nat.sub_self, Nat.add_sub_cancel])

theorem lvs_snoc (Ps : List (List Fm)) (L : List Fm) : lvs (Ps ++ [L]) = (lvs Ps).flatMap fun leaf => (List.range (L.length + 1)).map fun k => leaf ++ [k] := by
  unfold lvs
  rw [List.foldl_append]
  rfl
theorem flat_const {β γ : Type} {f : β → List γ} {c : Nat} : ∀ xs : List β, (∀ x, (f x).length = c) → (xs.flatMap f).length = xs.length * c
  | [], _ => by simp
  | x :: xs, h => by
    rw [List.flatMap_cons, List.length_append, h x, flat_const xs h, List.length_cons, Nat.succ_mul, Nat.add_comm]
theorem lvs_len : ∀ (n : Nat) (Ps : List (List Fm)), Ps.length = n → (∀ L ∈ Ps, L.length ≤ 9) → (lvs Ps).length ≤ 10 ^ n ∧ ∀ l ∈ lvs Ps, l.length = n
  | 0, Ps, h, _ => by
    cases Ps with
    | nil => exact ⟨Nat.le_refl _, fun l hl => by rw [List.mem_singleton.mp hl]; rfl⟩
    | cons => simp at h
  | n + 1, Ps, h, hL => by
    have hne : Ps ≠ [] := by intro z; subst z; simp at h
    obtain ⟨xs, x, rfl⟩ : ∃ xs x, Ps = xs ++ [x] := ⟨_, _, (List.dropLast_concat_getLast hne).symm⟩
    have hl : xs.length = n := by simpa using h
    obtain ⟨ih, ih2⟩ := lvs_len n xs hl fun L h => hL L (List.mem_append_left _ h)
    have hx := hL x (by simp)
    refine ⟨?_, fun l hl2 => ?_⟩
    · rw [lvs_snoc, flat_const (c := x.length + 1) _ fun leaf => by simp, Nat.pow_succ]
      exact Nat.mul_le_mul ih (by omega)
    · rw [lvs_snoc, List.mem_flatMap] at hl2
      obtain ⟨leaf, h1, h2⟩ := hl2
      obtain ⟨k, _, rfl⟩ := List.mem_map.mp h2
      rw [List.length_append, ih2 leaf h1, List.length_singleton]
theorem leaves_of_ok (Ps : List (List Fm)) (hP : Ps.length ≤ 3) (hL : ∀ L ∈ Ps, L.length ≤ 9) (N : Nat) (hN : 0 < N) {t : T} (et : t = .tup (Ps.map fun L => .tup (L.map Fm.enc))) {R : Tok → List (List T) → Prop} (h : R (.v (.tup ((lvs Ps).map encN))) []) : sem N .leaves_of [.v t] R := by
  subst et
  obtain ⟨N, rfl⟩ : ∃ M, N = M + 1 := ⟨N - 1, by omega⟩
  refine ⟨rfl, ?_⟩
  array_mem_dec
  and_intros
  array_mem_dec
  refine for_s (e := fun L : List Fm => T.tup (L.map Fm.enc)) [1] [2] (fun pre vs => vs = [some (.own ((lvs pre).map encN))]) Ps rfl [_] rfl rfl (fun pre L post e vs xs hi K hK => ?_) (fun vs xs hi => ?_)
  · subst hi
    array_mem_dec
    dsimp only [putF, putS, setSlot] at hK
    have hpl : pre.length ≤ 3 := by
      have := congrArg List.length e
      simp at this
      omega
    have hLl := hL L (by rw [e]; simp)
    have hp := (lvs_len pre.length pre rfl fun L h => hL L (by rw [e]; exact List.mem_append_left _ h)).1
    have h10 : 10 ^ pre.length ≤ 10 ^ 3 := Nat.pow_le_pow_right (by decide) hpl
    have hp2 := (lvs_len pre.length pre rfl fun L h => hL L (by rw [e]; exact List.mem_append_left _ h)).2
    and_intros
    refine lc2_gen encN (fun _ => List.range (L.length + 1)) (fun k : Nat => .int (k : Int)) (fun leaf k => encN (leaf ++ [k])) (lvs pre) rfl (fun a s => rfl) (fun a => rfl) (fun a => rfl) ?_ (fun leaf hleaf K hK => ?_) (fun leaf hleaf k hk Q hQ => ?_) ?_
    · rw [flat_const (c := L.length + 1) _ fun leaf => by simp]
      exact Nat.le_trans (Nat.mul_le_mul (Nat.le_trans hp h10) (show L.length + 1 ≤ 10 by omega)) (by decide)
    · refine ⟨⟨by rw [List.length_map]; omega, by rw [List.length_map]; omega⟩, ?_⟩
      rw [range_ints _ rfl, List.length_map, show (((L.length : Nat) : Int) + 1).toNat = L.length + 1 by omega]
      exact hK
    · have := hp2 leaf hleaf
      refine ⟨rfl, by rw [List.length_map, sizeLine_is]; show leaf.length + 1 ≤ _; omega, ?_⟩
      rw [encN, List.map_append] at hQ
      exact hQ
    · refine hK _ [_] rfl ?_
      rw [lvs_snoc, List.map_flatMap]
      simp only [List.map_map]
      rfl
  · subst hi
    array_mem_dec
    and_intros
    exact h
theorem leaf_worlds_ok (cs : List Cl) (names : List Str) (hn : names.length ≤ 8) (Ps : List (List Fm)) (hPl : Ps.length ≤ 3) (hP : ∀ L ∈ Ps, L.length ≤ 1000) (leaf : List Nat) (n : Nat) (hc : ∀ c ∈ cs, c.Nq n) (hm : ∀ L ∈ Ps, ∀ m ∈ L, Fm.nest m ≤ n) (N : Nat) (hN : n + 3 < N) {t t1 t2 t3 : T}
    (et : t = .tup (cs.map encC)) (et1 : t1 = .tup (names.map .str)) (et2 : t2 = .tup (Ps.map fun L => .tup (L.map Fm.enc))) (et3 : t3 = encN leaf) {R : Tok → List (List T) → Prop} (h : R (.v (.tup (((wk cs names).filter (stW Ps leaf)).map encW))) []) : sem N .leaf_worlds [.v t, .v t1, .v t2, .v t3] R := by
  subst et; subst et1; subst et2; subst et3
  obtain ⟨N, rfl⟩ : ∃ M, N = M + 1 := ⟨N - 1, by omega⟩
  refine ⟨rfl, ?_⟩
  array_mem_dec
  and_intros
  refine worlds_of_ok cs names hn n hc N (by omega) rfl rfl ?_
  array_mem_dec
  and_intros
  refine lc_filter encW encW (stW Ps leaf) (wk cs names) rfl (fun s => rfl) (fun w hw K hK => ?_) (fun w hw hp K hK => ?_) ?_
  · and_intros
    refine levels_of_ok Ps hP n hm w N (by omega) rfl ?_
    and_intros
    exact stands_ok Ps (by omega) leaf w N (by omega) rfl rfl hK
  · exact hK
  · exact h
end K45
set_option maxHeartbeats 4000000
namespace K45
open N1
open PySem (Str sizeLine)
local macro_rules
  | `(tactic| sizeOf_list_dec) => `(tactic| first
    | assumption | omega | exact ⟨by omega, by omega⟩
    | exact cmul_l (by omega) (by omega) | exact cmul_r (by omega) (by omega)
    | exact fit_strs _ _ | exact fit_ints _ _ | exact Fm.fit _ (by omega)
    | exact emod_lo (by omega) | exact emod_hi (by omega) | exact mod_pos (by assumption)
    | (simp only [List.length_map, List.length_append, List.length_cons, List.length_nil, List.length_replicate, sizeLine_is]; first | done | omega | exact ⟨by omega, by omega⟩)
    | rfl | decide)
local macro_rules
  | `(tactic| and_intros) => `(tactic| repeat' (first
    | refine And.intro (by sizeOf_list_dec) ?_
    | refine Br.yes rfl ?_
    | refine Br.no rfl ?_
    | refine Br.is (by first | rfl | assumption | omega) ?_
    | refine Br.isnt (by first | assumption | exact k_not_atom | exact k_kd_atom _ | exact k_kd_not _ | exact k_atom_not | exact k_sa | exact k_as | omega) ?_
    | refine Br.notis (by first | assumption | exact k_not_atom | exact k_kd_atom _ | exact k_kd_not _ | exact k_atom_not | exact k_sa | exact k_as | omega) ?_
    | refine Br.notisnt (by first | rfl | assumption | omega) ?_
    | array_get_dec
    | (refine ixDg (i := 0) (by assumption) rfl rfl ?_; intro _ _ _)
    | (refine ixDg (i := 1) (by assumption) rfl rfl ?_; intro _ _ _)
    | (refine ixDg (i := 2) (by assumption) rfl rfl ?_; intro _ _ _)
    | (refine ixDg (i := 3) (by assumption) rfl rfl ?_; intro _ _ _)
    | (refine ixW rfl ?_
       first
       | refine ixB 26 36 (by decide) (by sizeOf_list_dec) (by sizeOf_list_dec) ?_
       | refine ixB 0 1 (by decide) (by sizeOf_list_dec) (by sizeOf_list_dec) ?_
       | refine ixB 1 2 (by decide) (by sizeOf_list_dec) (by sizeOf_list_dec) ?_
       | refine ixB 0 2 (by decide) (by sizeOf_list_dec) (by sizeOf_list_dec) ?_
       | refine ixB 1 3 (by decide) (by sizeOf_list_dec) (by sizeOf_list_dec) ?_
       | refine ixB 0 3 (by decide) (by sizeOf_list_dec) (by sizeOf_list_dec) ?_
       | refine ixB 1 4 (by decide) (by sizeOf_list_dec) (by sizeOf_list_dec) ?_
       | refine ixB 0 4 (by decide) (by sizeOf_list_dec) (by sizeOf_list_dec) ?_
       | refine ixB 0 5 (by decide) (by sizeOf_list_dec) (by sizeOf_list_dec) ?_
       | refine ixB 1 6 (by decide) (by sizeOf_list_dec) (by sizeOf_list_dec) ?_
       | refine ixB 1 8 (by decide) (by sizeOf_list_dec) (by sizeOf_list_dec) ?_
       | refine ixB 0 7 (by decide) (by sizeOf_list_dec) (by sizeOf_list_dec) ?_
       | refine ixB 0 12 (by decide) (by sizeOf_list_dec) (by sizeOf_list_dec) ?_
       | refine ixB 0 60 (by decide) (by sizeOf_list_dec) (by sizeOf_list_dec) ?_
       intro _ _ _)
    | (refine ixKd (by sizeOf_list_dec) (by sizeOf_list_dec) ?_; intro _)
    | (refine ixMod (by assumption) ?_; intro _ _)
    | (refine let36 (by sizeOf_list_dec) (by sizeOf_list_dec) ?_; intro _)
    | refine Br.of (fun _ => ?_) (fun _ => ?_)
    | refine Br.ofNot (fun _ => ?_) (fun _ => ?_)
    | refine Br.mk (fun _ => ?_) (fun _ => ?_)))
local macro_rules
  | `(tactic| array_mem_dec) => `(tactic| try dsimp only [putF, putS, setSlot, putAll, wipeT, ownOf, slotAt, startT, slotsFrom, nones, List.cons_append, List.nil_append, List.length_cons, List.length_nil, Nat.reduceAdd, Nat.reduceSub, Nat.zero_add, Nat.sub_self, Nat.add_sub_cancel])

def pc (F : List Fm) (w : List Str) : List Bool := F.map (onW w)
def picT (F : List Fm) (w : List Str) : T := .tup ((pc F w).map .bl)
theorem T.eq_bls : ∀ xs ys : List Bool, T.eqs (xs.map .bl) (ys.map .bl) = decide (xs = ys)
  | [], [] => rfl
  | [], y :: ys => rfl
  | x :: xs, [] => rfl
  | x :: xs, y :: ys => by
    show (T.eq (.bl x) (.bl y) && T.eqs (xs.map .bl) (ys.map .bl)) = _
    rw [T.eq_bls xs ys, show T.eq (.bl x) (.bl y) = decide (x = y) from rfl]
    by_cases h1 : x = y <;> by_cases h2 : xs = ys <;> simp [h1, h2]
theorem fit_bls (n : Nat) (xs : List Bool) : T.fit (n + 1) (.tup (xs.map .bl)) = true := by
  show (xs.map T.bl).all (T.fit n) = true
  rw [List.all_map, List.all_eq_true]
  intro k _
  cases n <;> rfl
theorem fit_lbls (n : Nat) (xs : List Bool) : T.fit (n + 1) (.lst (xs.map .bl)) = true := by
  show (xs.map T.bl).all (T.fit n) = true
  rw [List.all_map, List.all_eq_true]
  intro k _
  cases n <;> rfl
def bel (v w : List Str) : Bool := v.all fun x => decide (x ∈ w)
def gW (W : List (List Str)) (a : Nat) : List Str := W.getD a []
theorem gW_at {β : Type} {f : List Str → T} {W : List (List Str)} {a : Nat} (h : a < W.length) : atT (W.map f) (a : Int) = some (f (gW W a)) := by
  rw [atT_map, atT_get h]
  simp [gW, List.getD, h]
def cnd (W : List (List Str)) (F : List Fm) (p : Nat × Nat) : Bool := decide (p.1 < p.2) && (!decide (pc F (gW W p.1) = pc F (gW W p.2)) && bel (gW W p.1) (gW W p.2))
def prs (lot : List Nat) : List (Nat × Nat) := lot.flatMap fun a => lot.map fun b => (a, b)
def mis (W : List (List Str)) (F : List Fm) (lot : List Nat) : Option (Nat × Nat) := (prs lot).find? (cnd W F)
def misT (W : List (List Str)) : Option (Nat × Nat) → T
  | none => .non
  | some p => .tup [encW (gW W p.1), encW (gW W p.2)]
theorem find_skip {β : Type} {p : β → Bool} {xs ys : List β} (h : ∀ x ∈ xs, p x = false) : (xs ++ ys).find? p = ys.find? p := by
  rw [List.find?_append, List.find?_eq_none.mpr fun x hx => by rw [h x hx]; simp]
  rfl
theorem misfit_in_ok (W : List (List Str)) (F : List Fm) (lot : List Nat) (hl : ∀ a ∈ lot, a < W.length) (N : Nat) (hN : 1 < N) {t t1 t2 t3 : T} (et : t = encN lot) (et1 : t1 = .tup (W.map (picT F))) (et2 : t2 = .tup (W.map (picT []))) (et3 : t3 = .tup (W.map encW)) {R : Tok → List (List T) → Prop}
    (h : R (.v (misT W (mis W F lot))) []) : sem N .misfit_in [.v t, .v t1, .v t2, .v t3] R := by
  subst et; subst et1; subst et2; subst et3
  obtain ⟨N, rfl⟩ : ∃ M, N = M + 1 := ⟨N - 1, by omega⟩
  refine ⟨rfl, ?_⟩
  array_mem_dec
  refine for_s (e := fun k : Nat => T.int (k : Int)) [] [4, 5] (fun pre vs => vs = [] ∧ ∀ a ∈ pre, ∀ b ∈ lot, cnd W F (a, b) = false) lot rfl [] rfl ⟨rfl, fun a h => by cases h⟩ (fun pre a post e vs xs hi K hK => ?_) (fun vs xs hi => ?_)
  · obtain ⟨rfl, hp⟩ := hi
    array_mem_dec
    dsimp only [putF, putS, setSlot] at hK
    have ha : a < W.length := hl a (by rw [e]; simp)
    refine for_s (e := fun k : Nat => T.int (k : Int)) [] [5] (fun pre2 vs => vs = [] ∧ ∀ b ∈ pre2, cnd W F (a, b) = false) lot rfl [] rfl ⟨rfl, fun a h => by cases h⟩ (fun pre2 b post2 e2 vs xs hi K2 hK2 => ?_) (fun vs xs hi => ?_)
    · obtain ⟨rfl, hp2⟩ := hi
      array_mem_dec
      dsimp only [putF, putS, setSlot] at hK2
      have hb : b < W.length := hl b (by rw [e2]; simp)
      have skip : cnd W F (a, b) = false → ∀ τ', τ' = setSlot [some (.val (encN lot)), some (.val (.tup (W.map (picT F)))), some (.val (.tup (W.map (picT [])))), some (.val (.tup (W.map encW))), some (.val (.int (a : Int))), none] 5 (slotO τ' 5) → K2 τ' := fun hc τ' eτ => hK2 τ' [] eτ ⟨rfl, snoc_all hp2 hc⟩
      refine Br.of (fun hlt => ?_) (fun hge => ?_)
      · have hlt : a < b := by omega
        refine ifSome.of (gW_at (β := Nat) ha) ?_
        refine ifSome.of (gW_at (β := Nat) hb) ?_
        refine ⟨by rfl, by rfl, ?_⟩
        refine Br.yes rfl ?_
        refine ifSome.of (gW_at (β := Nat) ha) ?_
        refine ifSome.of (gW_at (β := Nat) hb) ?_
        refine ⟨fit_bls _ _, fit_bls _ _, ?_⟩
        show Br (!(T.eqs ((pc F (gW W a)).map .bl) ((pc F (gW W b)).map .bl))) _ _
        rw [T.eq_bls]
        cases hq : decide (pc F (gW W a) = pc F (gW W b)) with
        | true =>
          refine Br.no rfl ?_
          show K2 _
          exact skip (by unfold cnd; rw [hq]; simp) _ rfl
        | false =>
          refine Br.yes rfl ?_
          refine ifSome.of (gW_at (β := Nat) ha) ?_
          array_mem_dec
          refine ifSome.of (gW_at (β := Nat) hb) ?_
          and_intros
          refine below_ok (gW W a) (gW W b) N (by omega) ?_
          cases hq2 : bel (gW W a) (gW W b) with
          | false =>
            rw [show ((gW W a).all fun x => decide (x ∈ gW W b)) = false from hq2]
            refine Br.no rfl ?_
            show K2 _
            exact skip (by unfold cnd; rw [hq2]; simp) _ rfl
          | true =>
            rw [show ((gW W a).all fun x => decide (x ∈ gW W b)) = true from hq2]
            refine Br.yes rfl ?_
            refine ifSome.of (gW_at (β := Nat) ha) ?_
            array_mem_dec
            refine ifSome.of (gW_at (β := Nat) hb) ?_
            and_intros
            have hc : cnd W F (a, b) = true := by
              unfold cnd
              rw [hq, hq2, decide_eq_true hlt]
              rfl
            have hm : mis W F lot = some (a, b) := by
              unfold mis prs
              rw [e, List.flatMap_append, find_skip (fun p hp3 => ?_)]
              · rw [List.flatMap_cons]
                rw [← e]
                rw [e2, List.map_append, List.append_assoc, find_skip (fun p hp3 => ?_)]
                · rw [List.map_cons, List.cons_append, List.find?_cons_of_pos hc]
                · obtain ⟨b', hb', rfl⟩ := List.mem_map.mp hp3
                  exact hp2 b' hb'
              · obtain ⟨a', ha', h2⟩ := List.mem_flatMap.mp hp3
                obtain ⟨b', hb', rfl⟩ := List.mem_map.mp h2
                rw [← e] at hb'
                exact hp a' ha' b' hb'
            rw [hm] at h
            exact h
      · refine Br.no rfl ?_
        show K2 _
        exact skip (by unfold cnd; rw [decide_eq_false (by omega)]; rfl) _ rfl
    · obtain ⟨rfl, hp2⟩ := hi
      array_mem_dec
      exact hK _ [] rfl ⟨rfl, snoc_all hp hp2⟩
  · obtain ⟨rfl, hp⟩ := hi
    array_mem_dec
    have : mis W F lot = none := List.find?_eq_none.mpr fun p hp2 => by
      obtain ⟨a, ha, h2⟩ := List.mem_flatMap.mp hp2
      obtain ⟨b, hb, rfl⟩ := List.mem_map.mp h2
      rw [hp a ha b hb]
      simp
    rw [this] at h
    exact h
def lotOf (W : List (List Str)) (Ps : List (List Fm)) (leaf : List Nat) : List Nat := (List.range W.length).filter fun i => stW Ps leaf (gW W i)
def fmis (W : List (List Str)) (F : List Fm) (Ps : List (List Fm)) : Option (List Nat × Nat × Nat) := (lvs Ps).findSome? fun leaf => (mis W F (lotOf W Ps leaf)).map fun p => (leaf, p)
def fmisT (W : List (List Str)) : Option (List Nat × Nat × Nat) → T
  | none => .non
  | some (leaf, a, b) => .tup [encN leaf, encW (gW W a), encW (gW W b)]
theorem findSome_skip {β γ : Type} {f : β → Option γ} {xs ys : List β} (h : ∀ x ∈ xs, f x = none) : (xs ++ ys).findSome? f = ys.findSome? f := by
  rw [List.findSome?_append, List.findSome?_eq_none_iff.mpr h]
  rfl
end K45
set_option maxHeartbeats 4000000
namespace K45
open N1
open PySem (Str sizeLine)
local macro_rules
  | `(tactic| sizeOf_list_dec) => `(tactic| first
    | assumption | omega | exact ⟨by omega, by omega⟩
    | exact cmul_l (by omega) (by omega) | exact cmul_r (by omega) (by omega)
    | exact fit_strs _ _ | exact fit_ints _ _ | exact Fm.fit _ (by omega)
    | exact emod_lo (by omega) | exact emod_hi (by omega) | exact mod_pos (by assumption)
    | (simp only [List.length_map, List.length_append, List.length_cons, List.length_nil, List.length_replicate, sizeLine_is]; first | done | omega | exact ⟨by omega, by omega⟩)
    | rfl | decide)
local macro_rules
  | `(tactic| and_intros) => `(tactic| repeat' (first
    | refine And.intro (by sizeOf_list_dec) ?_
    | refine Br.yes rfl ?_
    | refine Br.no rfl ?_
    | refine Br.is (by first | rfl | assumption | omega) ?_
    | refine Br.isnt (by first | assumption | exact k_not_atom | exact k_kd_atom _ | exact k_kd_not _ | exact k_atom_not | exact k_sa | exact k_as | omega) ?_
    | refine Br.notis (by first | assumption | exact k_not_atom | exact k_kd_atom _ | exact k_kd_not _ | exact k_atom_not | exact k_sa | exact k_as | omega) ?_
    | refine Br.notisnt (by first | rfl | assumption | omega) ?_
    | array_get_dec
    | (refine ixDg (i := 0) (by assumption) rfl rfl ?_; intro _ _ _)
    | (refine ixDg (i := 1) (by assumption) rfl rfl ?_; intro _ _ _)
    | (refine ixDg (i := 2) (by assumption) rfl rfl ?_; intro _ _ _)
    | (refine ixDg (i := 3) (by assumption) rfl rfl ?_; intro _ _ _)
    | (refine ixW rfl ?_
       first
       | refine ixB 26 36 (by decide) (by sizeOf_list_dec) (by sizeOf_list_dec) ?_
       | refine ixB 0 1 (by decide) (by sizeOf_list_dec) (by sizeOf_list_dec) ?_
       | refine ixB 1 2 (by decide) (by sizeOf_list_dec) (by sizeOf_list_dec) ?_
       | refine ixB 0 2 (by decide) (by sizeOf_list_dec) (by sizeOf_list_dec) ?_
       | refine ixB 1 3 (by decide) (by sizeOf_list_dec) (by sizeOf_list_dec) ?_
       | refine ixB 0 3 (by decide) (by sizeOf_list_dec) (by sizeOf_list_dec) ?_
       | refine ixB 1 4 (by decide) (by sizeOf_list_dec) (by sizeOf_list_dec) ?_
       | refine ixB 0 4 (by decide) (by sizeOf_list_dec) (by sizeOf_list_dec) ?_
       | refine ixB 0 5 (by decide) (by sizeOf_list_dec) (by sizeOf_list_dec) ?_
       | refine ixB 1 6 (by decide) (by sizeOf_list_dec) (by sizeOf_list_dec) ?_
       | refine ixB 1 8 (by decide) (by sizeOf_list_dec) (by sizeOf_list_dec) ?_
       | refine ixB 0 7 (by decide) (by sizeOf_list_dec) (by sizeOf_list_dec) ?_
       | refine ixB 0 12 (by decide) (by sizeOf_list_dec) (by sizeOf_list_dec) ?_
       | refine ixB 0 60 (by decide) (by sizeOf_list_dec) (by sizeOf_list_dec) ?_
       intro _ _ _)
    | (refine ixKd (by sizeOf_list_dec) (by sizeOf_list_dec) ?_; intro _)
    | (refine ixMod (by assumption) ?_; intro _ _)
    | (refine let36 (by sizeOf_list_dec) (by sizeOf_list_dec) ?_; intro _)
    | refine Br.of (fun _ => ?_) (fun _ => ?_)
    | refine Br.ofNot (fun _ => ?_) (fun _ => ?_)
    | refine Br.mk (fun _ => ?_) (fun _ => ?_)))
local macro_rules
  | `(tactic| array_mem_dec) => `(tactic| try dsimp only [putF, putS, setSlot, putAll, wipeT, ownOf, slotAt, startT, slotsFrom, nones, List.cons_append, List.nil_append, List.length_cons, List.length_nil, Nat.reduceAdd, Nat.reduceSub, Nat.zero_add, Nat.sub_self, Nat.add_sub_cancel])

theorem find_misfit_ok (cs : List Cl) (names : List Str) (hn : names.length ≤ 6) (Ps : List (List Fm)) (hPl : Ps.length ≤ 3) (hL : ∀ L ∈ Ps, L.length ≤ 9) (F : List Fm) (n : Nat) (hc : ∀ c ∈ cs, c.Nq n) (hm : ∀ L ∈ Ps, ∀ m ∈ L, Fm.nest m ≤ n) (hF : ∀ m ∈ F, Fm.nest m ≤ n) (N : Nat) (hN : n + 3 < N) {t t1 t2 t3 t4 : T}
    (et : t = .tup (cs.map encC)) (et1 : t1 = .tup (names.map .str)) (et2 : t2 = .tup (Ps.map fun L => .tup (L.map Fm.enc))) (et3 : t3 = .tup (F.map Fm.enc)) (et4 : t4 = .tup []) {R : Tok → List (List T) → Prop} (h : R (.v (fmisT (wk cs names) (fmis (wk cs names) F Ps))) []) : sem N .find_misfit [.v t, .v t1, .v t2, .v t3, .v t4] R := by
  subst et; subst et1; subst et2; subst et3; subst et4
  obtain ⟨N, rfl⟩ : ∃ M, N = M + 1 := ⟨N - 1, by omega⟩
  have hWl : (wk cs names).length ≤ 64 := by
    have h1 : (wk cs names).length ≤ (wld names).length := List.length_filter_le _ _
    have h2 : 2 ^ names.length ≤ 2 ^ 6 := Nat.pow_le_pow_right (by decide) hn
    rw [wld_len] at h1
    omega
  refine ⟨rfl, ?_⟩
  array_mem_dec
  and_intros
  array_mem_dec
  refine worlds_of_ok cs names (by omega) n hc N (by omega) rfl rfl ?_
  rw [show (wld names).filter (okW cs) = wk cs names from rfl]
  generalize wk cs names = W at hWl h ⊢
  array_mem_dec
  and_intros
  array_mem_dec
  refine lc_over encW (fun w => .tup (Ps.map fun L => .tup ((lv L w).map fun k : Nat => .int (k : Int)))) W rfl (fun s => rfl) (fun w hw K hK => ?_) ?_
  · and_intros
    exact levels_of_ok Ps (fun L hL' => by have := hL L hL'; omega) n hm w N (by omega) rfl hK
  array_mem_dec
  and_intros
  array_mem_dec
  refine lc_over encW (picT F) W rfl (fun s => rfl) (fun w hw K hK => ?_) ?_
  · and_intros
    refine pic_ok F n hF w N (by omega) rfl ?_
    rw [picT, pc, List.map_map] at hK
    exact hK
  array_mem_dec
  and_intros
  array_mem_dec
  refine lc_over encW (picT []) W rfl (fun s => rfl) (fun w hw K hK => ?_) ?_
  · and_intros
    exact sig_ok [] 0 (fun m hm => by cases hm) w N (by omega) rfl hK
  array_mem_dec
  and_intros
  array_mem_dec
  refine leaves_of_ok Ps hPl hL N (by omega) rfl ?_
  array_mem_dec
  and_intros
  array_mem_dec
  refine for_s (e := encN) [] [9, 10, 11] (fun pre vs => vs = [] ∧ ∀ leaf ∈ pre, mis W F (lotOf W Ps leaf) = none) (lvs Ps) rfl [] rfl ⟨rfl, fun a h => by cases h⟩ (fun pre leaf post e vs xs hi K hK => ?_) (fun vs xs hi => ?_)
  · obtain ⟨rfl, hp⟩ := hi
    array_mem_dec
    dsimp only [putF, putS, setSlot] at hK
    refine ⟨⟨by rw [List.length_map]; omega, by rw [List.length_map]; omega⟩, ?_⟩
    array_mem_dec
    rw [range_ints _ rfl, List.length_map, Int.toNat_natCast]
    refine lc_filter (fun k : Nat => .int (k : Int)) (fun k : Nat => .int (k : Int)) (fun i => stW Ps leaf (gW W i)) (List.range W.length) rfl (fun s => rfl) (fun k hk K hK => ?_) (fun k hk hp K hK => ?_) ?_
    · have hk := List.mem_range.mp hk
      refine ifSome.of (gW_at (β := Nat) (f := fun w => .tup (Ps.map fun L => .tup ((lv L w).map fun k : Nat => .int (k : Int)))) hk) ?_
      and_intros
      exact stands_ok Ps (by omega) leaf _ N (by omega) rfl rfl hK
    · exact hK
    · array_mem_dec
      and_intros
      refine misfit_in_ok W F (lotOf W Ps leaf) (fun a ha => List.mem_range.mp (List.mem_filter.mp ha).1) N (by omega) rfl rfl rfl rfl ?_
      cases hq : mis W F (lotOf W Ps leaf) with
      | none =>
        refine Br.no rfl ?_
        show K _
        array_mem_dec
        exact hK _ [] rfl ⟨rfl, snoc_all hp hq⟩
      | some p =>
        refine Br.yes rfl ?_
        array_mem_dec
        and_intros
        have : fmis W F Ps = some (leaf, p) := by
          unfold fmis
          rw [e, findSome_skip (fun l hl => by rw [hp l hl]; rfl), List.findSome?_cons, hq]
          rfl
        rw [this] at h
        exact h
  · obtain ⟨rfl, hp⟩ := hi
    array_mem_dec
    have : fmis W F Ps = none := List.findSome?_eq_none_iff.mpr fun leaf hl => by rw [hp leaf hl]; rfl
    rw [this] at h
    exact h
end K45
set_option maxHeartbeats 4000000
namespace K45
open N1
open PySem (Str sizeLine)
local macro_rules
  | `(tactic| sizeOf_list_dec) => `(tactic| first
    | assumption | omega | exact ⟨by omega, by omega⟩
    | exact cmul_l (by omega) (by omega) | exact cmul_r (by omega) (by omega)
    | exact fit_strs _ _ | exact fit_ints _ _ | exact Fm.fit _ (by omega)
    | exact emod_lo (by omega) | exact emod_hi (by omega) | exact mod_pos (by assumption)
    | (simp only [List.length_map, List.length_append, List.length_cons, List.length_nil, List.length_replicate, sizeLine_is]; first | done | omega | exact ⟨by omega, by omega⟩)
    | rfl | decide)
local macro_rules
  | `(tactic| and_intros) => `(tactic| repeat' (first
    | refine And.intro (by sizeOf_list_dec) ?_
    | refine Br.yes rfl ?_
    | refine Br.no rfl ?_
    | refine Br.is (by first | rfl | assumption | omega) ?_
    | refine Br.isnt (by first | assumption | exact k_not_atom | exact k_kd_atom _ | exact k_kd_not _ | exact k_atom_not | exact k_sa | exact k_as | omega) ?_
    | refine Br.notis (by first | assumption | exact k_not_atom | exact k_kd_atom _ | exact k_kd_not _ | exact k_atom_not | exact k_sa | exact k_as | omega) ?_
    | refine Br.notisnt (by first | rfl | assumption | omega) ?_
    | array_get_dec
    | (refine ixDg (i := 0) (by assumption) rfl rfl ?_; intro _ _ _)
    | (refine ixDg (i := 1) (by assumption) rfl rfl ?_; intro _ _ _)
    | (refine ixDg (i := 2) (by assumption) rfl rfl ?_; intro _ _ _)
    | (refine ixDg (i := 3) (by assumption) rfl rfl ?_; intro _ _ _)
    | (refine ixW rfl ?_
       first
       | refine ixB 26 36 (by decide) (by sizeOf_list_dec) (by sizeOf_list_dec) ?_
       | refine ixB 0 1 (by decide) (by sizeOf_list_dec) (by sizeOf_list_dec) ?_
       | refine ixB 1 2 (by decide) (by sizeOf_list_dec) (by sizeOf_list_dec) ?_
       | refine ixB 0 2 (by decide) (by sizeOf_list_dec) (by sizeOf_list_dec) ?_
       | refine ixB 1 3 (by decide) (by sizeOf_list_dec) (by sizeOf_list_dec) ?_
       | refine ixB 0 3 (by decide) (by sizeOf_list_dec) (by sizeOf_list_dec) ?_
       | refine ixB 1 4 (by decide) (by sizeOf_list_dec) (by sizeOf_list_dec) ?_
       | refine ixB 0 4 (by decide) (by sizeOf_list_dec) (by sizeOf_list_dec) ?_
       | refine ixB 0 5 (by decide) (by sizeOf_list_dec) (by sizeOf_list_dec) ?_
       | refine ixB 1 6 (by decide) (by sizeOf_list_dec) (by sizeOf_list_dec) ?_
       | refine ixB 1 8 (by decide) (by sizeOf_list_dec) (by sizeOf_list_dec) ?_
       | refine ixB 0 7 (by decide) (by sizeOf_list_dec) (by sizeOf_list_dec) ?_
       | refine ixB 0 12 (by decide) (by sizeOf_list_dec) (by sizeOf_list_dec) ?_
       | refine ixB 0 60 (by decide) (by sizeOf_list_dec) (by sizeOf_list_dec) ?_
       intro _ _ _)
    | (refine ixKd (by sizeOf_list_dec) (by sizeOf_list_dec) ?_; intro _)
    | (refine ixMod (by assumption) ?_; intro _ _)
    | (refine let36 (by sizeOf_list_dec) (by sizeOf_list_dec) ?_; intro _)
    | refine Br.of (fun _ => ?_) (fun _ => ?_)
    | refine Br.ofNot (fun _ => ?_) (fun _ => ?_)
    | refine Br.mk (fun _ => ?_) (fun _ => ?_)))
local macro_rules
  | `(tactic| array_mem_dec) => `(tactic| try dsimp only [putF, putS, setSlot, putAll, wipeT, ownOf, slotAt, startT, slotsFrom, nones, List.cons_append, List.nil_append, List.length_cons, List.length_nil, Nat.reduceAdd, Nat.reduceSub, Nat.zero_add, Nat.sub_self, Nat.add_sub_cancel])

def stp (L : List Fm) : List Fm := .nd true [] :: (L ++ [.nd false []])
theorem stp_vals (L : List Fm) (w : List Str) : (stp L).map (onW w) = vals L w := by
  simp [stp, vals]
  exact ⟨rfl, rfl⟩
theorem stp_len (L : List Fm) : (stp L).length = L.length + 2 := by simp [stp]
def stA (L : List Fm) (i : Nat) : Fm := (stp L).getD i (.at default)
theorem stA_at {L : List Fm} {i : Nat} (h : i < L.length + 2) : atT ((stp L).map Fm.enc) (i : Int) = some (Fm.enc (stA L i)) := by
  have hi : i < (stp L).length := by rw [stp_len]; exact h
  rw [atT_map, atT_get hi]
  simp [stA, List.getD, hi]
theorem stA_on {L : List Fm} {i : Nat} (h : i < L.length + 2) (w : List Str) : onW w (stA L i) = (vals L w).getD i false := by
  have hi : i < (stp L).length := by rw [stp_len]; exact h
  have hv : i < (vals L w).length := by rw [vals_len]; exact h
  rw [stA, List.getD, List.getElem?_eq_getElem hi, List.getD, List.getElem?_eq_getElem hv]
  simp only [Option.getD_some, ← stp_vals, List.getElem_map]
theorem stA_nest {L : List Fm} {n : Nat} (hL : ∀ m ∈ L, Fm.nest m ≤ n) (i : Nat) : Fm.nest (stA L i) ≤ n + 1 := by
  by_cases hi : i < (stp L).length
  · have e : stA L i = (stp L)[i] := by simp [stA, List.getD, hi]
    have hm : (stp L)[i] ∈ stp L := List.getElem_mem hi
    rw [e]
    generalize (stp L)[i] = m at hm
    rcases List.mem_cons.mp hm with rfl | hm
    · show 0 + 1 ≤ n + 1
      omega
    · rcases List.mem_append.mp hm with hm | hm
      · have := hL m hm
        omega
      · rw [List.mem_singleton.mp hm]
        show 0 + 1 ≤ n + 1
        omega
  · have e : stA L i = .at default := by simp [stA, List.getD, hi]
    rw [e]
    exact Nat.zero_le _
def lotW (W : List (List Str)) (L : List Fm) (l : Nat) : List (List Str) := W.filter fun w => lvP L w l
def cnd2 (W : List (List Str)) (F : List Fm) (p : Nat × Nat) : Bool := !decide (pc F (gW W p.1) = pc F (gW W p.2)) && bel (gW W p.1) (gW W p.2)
def mis2 (W : List (List Str)) (F : List Fm) : Option (Nat × Nat) := (prs (List.range W.length)).find? (cnd2 W F)
def lmis (W : List (List Str)) (F : List Fm) (L : List Fm) : Option (Nat × List Str × List Str) := (List.range (L.length + 1)).findSome? fun l => (mis2 (lotW W L l) F).map fun p => (l, gW (lotW W L l) p.1, gW (lotW W L l) p.2)
def lmisT : Option (Nat × List Str × List Str) → T
  | none => .non
  | some (l, v, w) => .tup [encN [l], encW v, encW w]
theorem mis2_row (W : List (List Str)) (F : List Fm) {a b : Nat} (ha : a < W.length) (hb : b < W.length) (h1 : ∀ a' < a, ∀ b' < W.length, cnd2 W F (a', b') = false) (h2 : ∀ b' < b, cnd2 W F (a, b') = false) (hc : cnd2 W F (a, b) = true) : mis2 W F = some (a, b) := by
  have split : ∀ k n : Nat, k < n → ∃ post, List.range n = List.range k ++ k :: post := fun k n hk => by
    obtain ⟨d, rfl⟩ : ∃ d, n = k + 1 + d := ⟨n - k - 1, by omega⟩
    refine ⟨(List.range d).map (k + 1 + ·), ?_⟩
    rw [List.range_add, List.range_succ, List.append_assoc]
    rfl
  obtain ⟨pa, ea⟩ := split a W.length ha
  obtain ⟨pb, eb⟩ := split b W.length hb
  unfold mis2 prs
  have e0 : ((List.range W.length).flatMap fun a => (List.range W.length).map fun b => (a, b)) = ((List.range a).flatMap fun a => (List.range W.length).map fun b => (a, b)) ++ (((List.range b).map fun b => (a, b)) ++ ((a, b) :: ((pb.map fun b => (a, b)) ++ pa.flatMap fun a => (List.range W.length).map fun b => (a, b)))) := by
    conv => lhs; rw [show (List.range W.length).flatMap (fun a => (List.range W.length).map fun b => (a, b)) = (List.range a ++ a :: pa).flatMap (fun a => (List.range W.length).map fun b => (a, b)) by rw [← ea]]
    rw [List.flatMap_append, List.flatMap_cons]
    congr 1
    conv => lhs; rw [show (List.range W.length).map (fun b => (a, b)) = (List.range b ++ b :: pb).map (fun b => (a, b)) by rw [← eb]]
    rw [List.map_append, List.append_assoc]
    rfl
  rw [e0, find_skip (fun p hp => ?_), find_skip (fun p hp => ?_), List.find?_cons_of_pos hc]
  · obtain ⟨b', hb', rfl⟩ := List.mem_map.mp hp
    exact h2 b' (List.mem_range.mp hb')
  · obtain ⟨a', ha', h3⟩ := List.mem_flatMap.mp hp
    obtain ⟨b', hb', rfl⟩ := List.mem_map.mp h3
    exact h1 a' (List.mem_range.mp ha') b' (List.mem_range.mp hb')
end K45
set_option maxHeartbeats 4000000
namespace K45
open N1
open PySem (Str sizeLine)
local macro_rules
  | `(tactic| sizeOf_list_dec) => `(tactic| first
    | assumption | omega | exact ⟨by omega, by omega⟩
    | exact cmul_l (by omega) (by omega) | exact cmul_r (by omega) (by omega)
    | exact fit_strs _ _ | exact fit_ints _ _ | exact Fm.fit _ (by omega)
    | exact emod_lo (by omega) | exact emod_hi (by omega) | exact mod_pos (by assumption)
    | (simp only [List.length_map, List.length_append, List.length_cons, List.length_nil, List.length_replicate, sizeLine_is]; first | done | omega | exact ⟨by omega, by omega⟩)
    | rfl | decide)
local macro_rules
  | `(tactic| and_intros) => `(tactic| repeat' (first
    | refine And.intro (by sizeOf_list_dec) ?_
    | refine Br.yes rfl ?_
    | refine Br.no rfl ?_
    | refine Br.is (by first | rfl | assumption | omega) ?_
    | refine Br.isnt (by first | assumption | exact k_not_atom | exact k_kd_atom _ | exact k_kd_not _ | exact k_atom_not | exact k_sa | exact k_as | omega) ?_
    | refine Br.notis (by first | assumption | exact k_not_atom | exact k_kd_atom _ | exact k_kd_not _ | exact k_atom_not | exact k_sa | exact k_as | omega) ?_
    | refine Br.notisnt (by first | rfl | assumption | omega) ?_
    | array_get_dec
    | (refine ixDg (i := 0) (by assumption) rfl rfl ?_; intro _ _ _)
    | (refine ixDg (i := 1) (by assumption) rfl rfl ?_; intro _ _ _)
    | (refine ixDg (i := 2) (by assumption) rfl rfl ?_; intro _ _ _)
    | (refine ixDg (i := 3) (by assumption) rfl rfl ?_; intro _ _ _)
    | (refine ixW rfl ?_
       first
       | refine ixB 26 36 (by decide) (by sizeOf_list_dec) (by sizeOf_list_dec) ?_
       | refine ixB 0 1 (by decide) (by sizeOf_list_dec) (by sizeOf_list_dec) ?_
       | refine ixB 1 2 (by decide) (by sizeOf_list_dec) (by sizeOf_list_dec) ?_
       | refine ixB 0 2 (by decide) (by sizeOf_list_dec) (by sizeOf_list_dec) ?_
       | refine ixB 1 3 (by decide) (by sizeOf_list_dec) (by sizeOf_list_dec) ?_
       | refine ixB 0 3 (by decide) (by sizeOf_list_dec) (by sizeOf_list_dec) ?_
       | refine ixB 1 4 (by decide) (by sizeOf_list_dec) (by sizeOf_list_dec) ?_
       | refine ixB 0 4 (by decide) (by sizeOf_list_dec) (by sizeOf_list_dec) ?_
       | refine ixB 0 5 (by decide) (by sizeOf_list_dec) (by sizeOf_list_dec) ?_
       | refine ixB 1 6 (by decide) (by sizeOf_list_dec) (by sizeOf_list_dec) ?_
       | refine ixB 1 8 (by decide) (by sizeOf_list_dec) (by sizeOf_list_dec) ?_
       | refine ixB 0 7 (by decide) (by sizeOf_list_dec) (by sizeOf_list_dec) ?_
       | refine ixB 0 12 (by decide) (by sizeOf_list_dec) (by sizeOf_list_dec) ?_
       | refine ixB 0 60 (by decide) (by sizeOf_list_dec) (by sizeOf_list_dec) ?_
       intro _ _ _)
    | (refine ixKd (by sizeOf_list_dec) (by sizeOf_list_dec) ?_; intro _)
    | (refine ixMod (by assumption) ?_; intro _ _)
    | (refine let36 (by sizeOf_list_dec) (by sizeOf_list_dec) ?_; intro _)
    | refine Br.of (fun _ => ?_) (fun _ => ?_)
    | refine Br.ofNot (fun _ => ?_) (fun _ => ?_)
    | refine Br.mk (fun _ => ?_) (fun _ => ?_)))
local macro_rules
  | `(tactic| array_mem_dec) => `(tactic| try dsimp only [putF, putS, setSlot, putAll, wipeT, ownOf, slotAt, startT, slotsFrom, nones, List.cons_append, List.nil_append, List.length_cons, List.length_nil, Nat.reduceAdd, Nat.reduceSub, Nat.zero_add, Nat.sub_self, Nat.add_sub_cancel])

def picL (F : List Fm) (w : List Str) : T := .lst ((pc F w).map .bl)
theorem law_misfit_ok (W : List (List Str)) (hW : W.length ≤ 64) (L F : List Fm) (hL : L.length ≤ 9) (n : Nat) (hm : ∀ m ∈ L, Fm.nest m ≤ n) (hF : ∀ m ∈ F, Fm.nest m ≤ n) (N : Nat) (hN : n + 3 < N) {t t1 t2 : T}
    (et : t = .lst (W.map encW)) (et1 : t1 = .tup (L.map Fm.enc)) (et2 : t2 = .lst (F.map Fm.enc)) {R : Tok → List (List T) → Prop} (h : R (.v (lmisT (lmis W F L))) []) : sem N .law_misfit [.v t, .v t1, .v t2] R := by
  subst et; subst et1; subst et2
  obtain ⟨N, rfl⟩ : ∃ M, N = M + 1 := ⟨N - 1, by omega⟩
  refine ⟨rfl, ?_⟩
  array_mem_dec
  and_intros
  array_mem_dec
  rw [show (T.tup [T.str (Str.ofString "all"), T.tup []] :: (L.map Fm.enc ++ [T.tup [T.str (Str.ofString "some"), T.tup []]])) = (stp L).map Fm.enc by simp only [stp, List.map_cons, List.map_append, List.map_nil]; rfl]
  refine range_s [] [4, 5, 6, 7, 8] (fun i vs => vs = [] ∧ ∀ l < i, mis2 (lotW W L l) F = none) [] rfl ⟨rfl, fun l hl => absurd hl (Nat.not_lt_zero l)⟩ (fun l hl vs xs hi K hK => ?_) (fun vs xs hi => ?_)
  · obtain ⟨rfl, hp⟩ := hi
    have hl : l < L.length + 1 := by rw [List.length_map] at hl; omega
    array_mem_dec
    dsimp only [putF, putS, setSlot] at hK
    have e0 : (0 : Int) + (l : Int) = (l : Int) := by omega
    have e1 : (0 : Int) + (l : Int) + 1 = ((l + 1 : Nat) : Int) := by omega
    refine lc_filter encW encW (fun w => lvP L w l) W rfl (fun s => rfl) (fun w hw K hK => ?_) (fun w hw hp K hK => ?_) ?_
    · refine ifSome.of (by rw [e0]; exact stA_at (by omega)) ?_
      array_mem_dec
      and_intros
      refine on_ok w (stA L l) N (by have := stA_nest hm l; omega) ?_
      show Br (onW w (stA L l)) _ _
      rw [stA_on (by omega)]
      cases hv : (vals L w).getD l false with
      | false =>
        rw [show lvP L w l = false by unfold lvP; rw [hv]; rfl] at hK
        exact Br.no rfl hK
      | true =>
        refine Br.yes rfl ?_
        refine ifSome.of (by rw [e1]; exact stA_at (by omega)) ?_
        array_mem_dec
        and_intros
        refine on_ok w (stA L (l + 1)) N (by have := stA_nest hm (l + 1); omega) ?_
        rw [show lvP L w l = !((vals L w).getD (l + 1) false) by unfold lvP; rw [hv]; rfl, ← stA_on (by omega)] at hK
        exact hK
    · exact hK
    · have hlw : (lotW W L l).length ≤ 64 := by
        have : (lotW W L l).length ≤ W.length := List.length_filter_le _ _
        omega
      rw [show (W.filter fun w => lvP L w l) = lotW W L l from rfl]
      have hmis : lmis W F L = (mis2 (lotW W L l) F).elim (lmis W F L) fun p => some (l, gW (lotW W L l) p.1, gW (lotW W L l) p.2) := by
        cases hq : mis2 (lotW W L l) F with
        | none => rfl
        | some p =>
          show _ = some _
          obtain ⟨d, ed⟩ : ∃ d, L.length + 1 = l + 1 + d := ⟨L.length - l, by omega⟩
          unfold lmis
          rw [ed, List.range_add, List.range_succ, List.append_assoc, findSome_skip (fun k hk => by rw [hp k (List.mem_range.mp hk)]; rfl), List.singleton_append, List.findSome?_cons, hq]
          rfl
      generalize hlot : lotW W L l = lot at hlw hmis ⊢
      array_mem_dec
      refine lc_fr encW (picL F) lot rfl (fun s => rfl) (fun w hw K hK => ?_) ?_
      · and_intros
        refine lpic_ok F n hF w N (by omega) (.inl rfl) ?_
        rw [picL, pc, List.map_map] at hK
        exact hK
      array_mem_dec
      refine ⟨⟨by rw [List.length_map]; omega, by rw [List.length_map]; omega⟩, ?_⟩
      array_mem_dec
      rw [List.length_map, Int.toNat_natCast]
      refine range_s [] [7, 8] (fun a vs => vs = [] ∧ ∀ a' < a, ∀ b' < lot.length, cnd2 lot F (a', b') = false) [] rfl ⟨rfl, fun l hl => absurd hl (Nat.not_lt_zero l)⟩ (fun a ha vs xs hi K2 hK2 => ?_) (fun vs xs hi => ?_)
      · obtain ⟨rfl, hp1⟩ := hi
        array_mem_dec
        dsimp only [putF, putS, setSlot] at hK2
        refine ⟨⟨by rw [List.length_map]; omega, by rw [List.length_map]; omega⟩, ?_⟩
        array_mem_dec
        rw [List.length_map, Int.toNat_natCast]
        refine range_s [] [8] (fun b vs => vs = [] ∧ ∀ b' < b, cnd2 lot F (a, b') = false) [] rfl ⟨rfl, fun l hl => absurd hl (Nat.not_lt_zero l)⟩ (fun b hb vs xs hi K3 hK3 => ?_) (fun vs xs hi => ?_)
        · obtain ⟨rfl, hp2⟩ := hi
          array_mem_dec
          dsimp only [putF, putS, setSlot] at hK3
          have ea : (0 : Int) + (a : Int) = (a : Int) := by omega
          have eb : (0 : Int) + (b : Int) = (b : Int) := by omega
          have skip : cnd2 lot F (a, b) = false → ∀ b' < b + 1, cnd2 lot F (a, b') = false := fun hc b' hb' => by
            rcases Nat.lt_succ_iff_lt_or_eq.mp hb' with h | rfl
            · exact hp2 b' h
            · exact hc
          refine ifSome.of (by rw [ea]; exact gW_at (β := Nat) ha) ?_
          array_mem_dec
          refine ifSome.of (by rw [eb]; exact gW_at (β := Nat) hb) ?_
          refine ⟨fit_lbls _ _, fit_lbls _ _, ?_⟩
          show Br (!(T.eqs ((pc F (gW lot a)).map .bl) ((pc F (gW lot b)).map .bl))) _ _
          rw [T.eq_bls]
          cases hq : decide (pc F (gW lot a) = pc F (gW lot b)) with
          | true =>
            refine Br.no rfl ?_
            refine Br.no rfl ?_
            show K3 _
            array_mem_dec
            exact hK3 _ [] rfl ⟨rfl, skip (by unfold cnd2; rw [hq]; rfl)⟩
          | false =>
            refine Br.yes rfl ?_
            array_mem_dec
            refine ifSome.of (by rw [ea]; exact gW_at (β := Nat) ha) ?_
            array_mem_dec
            refine ifSome.of (by rw [eb]; exact gW_at (β := Nat) hb) ?_
            and_intros
            refine lbelow_ok (gW lot a) (gW lot b) N (by omega) ?_
            rw [show ((gW lot a).all fun x => decide (x ∈ gW lot b)) = bel (gW lot a) (gW lot b) from rfl]
            cases hq2 : bel (gW lot a) (gW lot b) with
            | false =>
              refine Br.no rfl ?_
              show K3 _
              array_mem_dec
              exact hK3 _ [] rfl ⟨rfl, skip (by unfold cnd2; rw [hq2]; simp)⟩
            | true =>
              refine Br.yes rfl ?_
              array_mem_dec
              and_intros
              refine ifSome.of (by rw [ea]; exact gW_at (β := Nat) ha) ?_
              array_mem_dec
              refine ifSome.of (by rw [eb]; exact gW_at (β := Nat) hb) ?_
              and_intros
              rw [mis2_row lot F ha hb hp1 hp2 (by unfold cnd2; rw [hq, hq2]; rfl)] at hmis
              rw [hmis] at h
              rw [e0]
              exact h
        · obtain ⟨rfl, hp2⟩ := hi
          array_mem_dec
          refine hK2 _ [] rfl ⟨rfl, fun a' ha' b' hb' => ?_⟩
          rcases Nat.lt_succ_iff_lt_or_eq.mp ha' with h | rfl
          · exact hp1 a' h b' hb'
          · exact hp2 b' hb'
      · obtain ⟨rfl, hp1⟩ := hi
        array_mem_dec
        refine hK _ [] rfl ⟨rfl, fun l' hl' => ?_⟩
        rcases Nat.lt_succ_iff_lt_or_eq.mp hl' with h | rfl
        · exact hp l' h
        · rw [hlot]
          refine List.find?_eq_none.mpr fun p hp2 => ?_
          obtain ⟨a, ha, h2⟩ := List.mem_flatMap.mp hp2
          obtain ⟨b, hb, rfl⟩ := List.mem_map.mp h2
          rw [hp1 a (List.mem_range.mp ha) b (List.mem_range.mp hb)]
          simp
  · obtain ⟨rfl, hp⟩ := hi
    array_mem_dec
    have : lmis W F L = none := List.findSome?_eq_none_iff.mpr fun l hl => by
      rw [hp l (by have := List.mem_range.mp hl; rw [List.length_map]; omega)]
      rfl
    rw [this] at h
    exact h
end K45
set_option maxHeartbeats 4000000
namespace K45
open N1
open PySem (Str sizeLine)
local macro_rules
  | `(tactic| sizeOf_list_dec) => `(tactic| first
    | assumption | omega | exact ⟨by omega, by omega⟩
    | exact cmul_l (by omega) (by omega) | exact cmul_r (by omega) (by omega)
    | exact fit_strs _ _ | exact fit_ints _ _ | exact Fm.fit _ (by omega)
    | exact emod_lo (by omega) | exact emod_hi (by omega) | exact mod_pos (by assumption)
    | (simp only [List.length_map, List.length_append, List.length_cons, List.length_nil, List.length_replicate, sizeLine_is]; first | done | omega | exact ⟨by omega, by omega⟩)
    | rfl | decide)
local macro_rules
  | `(tactic| and_intros) => `(tactic| repeat' (first
    | refine And.intro (by sizeOf_list_dec) ?_
    | refine Br.yes rfl ?_
    | refine Br.no rfl ?_
    | refine Br.is (by first | rfl | assumption | omega) ?_
    | refine Br.isnt (by first | assumption | exact k_not_atom | exact k_kd_atom _ | exact k_kd_not _ | exact k_atom_not | exact k_sa | exact k_as | omega) ?_
    | refine Br.notis (by first | assumption | exact k_not_atom | exact k_kd_atom _ | exact k_kd_not _ | exact k_atom_not | exact k_sa | exact k_as | omega) ?_
    | refine Br.notisnt (by first | rfl | assumption | omega) ?_
    | array_get_dec
    | (refine ixDg (i := 0) (by assumption) rfl rfl ?_; intro _ _ _)
    | (refine ixDg (i := 1) (by assumption) rfl rfl ?_; intro _ _ _)
    | (refine ixDg (i := 2) (by assumption) rfl rfl ?_; intro _ _ _)
    | (refine ixDg (i := 3) (by assumption) rfl rfl ?_; intro _ _ _)
    | (refine ixW rfl ?_
       first
       | refine ixB 26 36 (by decide) (by sizeOf_list_dec) (by sizeOf_list_dec) ?_
       | refine ixB 0 1 (by decide) (by sizeOf_list_dec) (by sizeOf_list_dec) ?_
       | refine ixB 1 2 (by decide) (by sizeOf_list_dec) (by sizeOf_list_dec) ?_
       | refine ixB 0 2 (by decide) (by sizeOf_list_dec) (by sizeOf_list_dec) ?_
       | refine ixB 1 3 (by decide) (by sizeOf_list_dec) (by sizeOf_list_dec) ?_
       | refine ixB 0 3 (by decide) (by sizeOf_list_dec) (by sizeOf_list_dec) ?_
       | refine ixB 1 4 (by decide) (by sizeOf_list_dec) (by sizeOf_list_dec) ?_
       | refine ixB 0 4 (by decide) (by sizeOf_list_dec) (by sizeOf_list_dec) ?_
       | refine ixB 0 5 (by decide) (by sizeOf_list_dec) (by sizeOf_list_dec) ?_
       | refine ixB 1 6 (by decide) (by sizeOf_list_dec) (by sizeOf_list_dec) ?_
       | refine ixB 1 8 (by decide) (by sizeOf_list_dec) (by sizeOf_list_dec) ?_
       | refine ixB 0 7 (by decide) (by sizeOf_list_dec) (by sizeOf_list_dec) ?_
       | refine ixB 0 12 (by decide) (by sizeOf_list_dec) (by sizeOf_list_dec) ?_
       | refine ixB 0 60 (by decide) (by sizeOf_list_dec) (by sizeOf_list_dec) ?_
       intro _ _ _)
    | (refine ixKd (by sizeOf_list_dec) (by sizeOf_list_dec) ?_; intro _)
    | (refine ixMod (by assumption) ?_; intro _ _)
    | (refine let36 (by sizeOf_list_dec) (by sizeOf_list_dec) ?_; intro _)
    | refine Br.of (fun _ => ?_) (fun _ => ?_)
    | refine Br.ofNot (fun _ => ?_) (fun _ => ?_)
    | refine Br.mk (fun _ => ?_) (fun _ => ?_)))
local macro_rules
  | `(tactic| array_mem_dec) => `(tactic| try dsimp only [putF, putS, setSlot, putAll, wipeT, ownOf, slotAt, startT, slotsFrom, nones, List.cons_append, List.nil_append, List.length_cons, List.length_nil, Nat.reduceAdd, Nat.reduceSub, Nat.zero_add, Nat.sub_self, Nat.add_sub_cancel])

/-! what the two searches say is the same -/
def cvt : Option (Nat × List Str × List Str) → Option (List Nat × List Str × List Str) := Option.map fun p => ([p.1], p.2)
theorem lvs_one (L : List Fm) : lvs [L] = (List.range (L.length + 1)).map fun k => [k] := by
  simp [lvs]
theorem lotW_stW (W : List (List Str)) (L : List Fm) {l : Nat} (hl : l < L.length + 1) (w : List Str) : stW [L] [l] w = lvP L w l := by
  simp [stW, lv, hl]
/-- worlds in the order of their numbers -/
def Asn (names : List Str) (W : List (List Str)) : Prop := ∃ is : List Nat, W = is.map (bits names) ∧ is.Pairwise (· < ·) ∧ ∀ i ∈ is, i < 2 ^ names.length
theorem wk_asn (cs : List Cl) (names : List Str) : Asn names (wk cs names) := by
  unfold wk
  rw [wld_bits _ names rfl, List.filter_map]
  exact ⟨_, rfl, List.Pairwise.filter _ List.pairwise_lt_range, fun i hi => List.mem_range.mp (List.mem_filter.mp hi).1⟩
theorem Asn.filter {names : List Str} {W : List (List Str)} (h : Asn names W) (p : List Str → Bool) : Asn names (W.filter p) := by
  obtain ⟨is, rfl, h1, h2⟩ := h
  rw [List.filter_map]
  exact ⟨_, rfl, h1.filter _, fun i hi => h2 i (List.mem_filter.mp hi).1⟩
/-- a world below another stands ahead of it -/
theorem Asn.below {names : List Str} {W : List (List Str)} (h : Asn names W) (hn : names.Nodup) {a b : Nat} (ha : a < W.length) (hb : b < W.length) (hbel : bel (gW W a) (gW W b) = true) : a ≤ b := by
  obtain ⟨is, rfl, h1, h2⟩ := h
  rw [List.length_map] at ha hb
  have ga : gW (is.map (bits names)) a = bits names is[a] := by simp [gW, List.getD, ha]
  have gb : gW (is.map (bits names)) b = bits names is[b] := by simp [gW, List.getD, hb]
  rw [ga, gb] at hbel
  have hle : is[a] ≤ is[b] := bits_le names _ _ hn (h2 _ (List.getElem_mem ha)) (h2 _ (List.getElem_mem hb)) fun x hx => of_decide_eq_true (List.all_eq_true.mp hbel x hx)
  rcases Nat.lt_or_ge b a with hlt | hge
  · have := List.pairwise_iff_getElem.mp h1 b a hb ha hlt
    omega
  · exact hge
end K45
set_option maxHeartbeats 4000000
namespace K45
open N1
open PySem (Str sizeLine)
local macro_rules
  | `(tactic| sizeOf_list_dec) => `(tactic| first
    | assumption | omega | exact ⟨by omega, by omega⟩
    | exact cmul_l (by omega) (by omega) | exact cmul_r (by omega) (by omega)
    | exact fit_strs _ _ | exact fit_ints _ _ | exact Fm.fit _ (by omega)
    | exact emod_lo (by omega) | exact emod_hi (by omega) | exact mod_pos (by assumption)
    | (simp only [List.length_map, List.length_append, List.length_cons, List.length_nil, List.length_replicate, sizeLine_is]; first | done | omega | exact ⟨by omega, by omega⟩)
    | rfl | decide)
local macro_rules
  | `(tactic| and_intros) => `(tactic| repeat' (first
    | refine And.intro (by sizeOf_list_dec) ?_
    | refine Br.yes rfl ?_
    | refine Br.no rfl ?_
    | refine Br.is (by first | rfl | assumption | omega) ?_
    | refine Br.isnt (by first | assumption | exact k_not_atom | exact k_kd_atom _ | exact k_kd_not _ | exact k_atom_not | exact k_sa | exact k_as | omega) ?_
    | refine Br.notis (by first | assumption | exact k_not_atom | exact k_kd_atom _ | exact k_kd_not _ | exact k_atom_not | exact k_sa | exact k_as | omega) ?_
    | refine Br.notisnt (by first | rfl | assumption | omega) ?_
    | array_get_dec
    | (refine ixDg (i := 0) (by assumption) rfl rfl ?_; intro _ _ _)
    | (refine ixDg (i := 1) (by assumption) rfl rfl ?_; intro _ _ _)
    | (refine ixDg (i := 2) (by assumption) rfl rfl ?_; intro _ _ _)
    | (refine ixDg (i := 3) (by assumption) rfl rfl ?_; intro _ _ _)
    | (refine ixW rfl ?_
       first
       | refine ixB 26 36 (by decide) (by sizeOf_list_dec) (by sizeOf_list_dec) ?_
       | refine ixB 0 1 (by decide) (by sizeOf_list_dec) (by sizeOf_list_dec) ?_
       | refine ixB 1 2 (by decide) (by sizeOf_list_dec) (by sizeOf_list_dec) ?_
       | refine ixB 0 2 (by decide) (by sizeOf_list_dec) (by sizeOf_list_dec) ?_
       | refine ixB 1 3 (by decide) (by sizeOf_list_dec) (by sizeOf_list_dec) ?_
       | refine ixB 0 3 (by decide) (by sizeOf_list_dec) (by sizeOf_list_dec) ?_
       | refine ixB 1 4 (by decide) (by sizeOf_list_dec) (by sizeOf_list_dec) ?_
       | refine ixB 0 4 (by decide) (by sizeOf_list_dec) (by sizeOf_list_dec) ?_
       | refine ixB 0 5 (by decide) (by sizeOf_list_dec) (by sizeOf_list_dec) ?_
       | refine ixB 1 6 (by decide) (by sizeOf_list_dec) (by sizeOf_list_dec) ?_
       | refine ixB 1 8 (by decide) (by sizeOf_list_dec) (by sizeOf_list_dec) ?_
       | refine ixB 0 7 (by decide) (by sizeOf_list_dec) (by sizeOf_list_dec) ?_
       | refine ixB 0 12 (by decide) (by sizeOf_list_dec) (by sizeOf_list_dec) ?_
       | refine ixB 0 60 (by decide) (by sizeOf_list_dec) (by sizeOf_list_dec) ?_
       intro _ _ _)
    | (refine ixKd (by sizeOf_list_dec) (by sizeOf_list_dec) ?_; intro _)
    | (refine ixMod (by assumption) ?_; intro _ _)
    | (refine let36 (by sizeOf_list_dec) (by sizeOf_list_dec) ?_; intro _)
    | refine Br.of (fun _ => ?_) (fun _ => ?_)
    | refine Br.ofNot (fun _ => ?_) (fun _ => ?_)
    | refine Br.mk (fun _ => ?_) (fun _ => ?_)))
local macro_rules
  | `(tactic| array_mem_dec) => `(tactic| try dsimp only [putF, putS, setSlot, putAll, wipeT, ownOf, slotAt, startT, slotsFrom, nones, List.cons_append, List.nil_append, List.length_cons, List.length_nil, Nat.reduceAdd, Nat.reduceSub, Nat.zero_add, Nat.sub_self, Nat.add_sub_cancel])

theorem find_congr {β : Type} {p q : β → Bool} : ∀ {xs : List β}, (∀ x ∈ xs, p x = q x) → xs.find? p = xs.find? q
  | [], _ => rfl
  | x :: xs, h => by
    rw [List.find?_cons, List.find?_cons, h x List.mem_cons_self, find_congr fun y hy => h y (List.mem_cons_of_mem _ hy)]
theorem findSome_congr {β γ : Type} {p q : β → Option γ} : ∀ {xs : List β}, (∀ x ∈ xs, p x = q x) → xs.findSome? p = xs.findSome? q
  | [], _ => rfl
  | x :: xs, h => by
    rw [List.findSome?_cons, List.findSome?_cons, h x List.mem_cons_self, findSome_congr fun y hy => h y (List.mem_cons_of_mem _ hy)]
theorem getD_range (idx : List Nat) : idx = (List.range idx.length).map fun i => idx.getD i 0 := by
  refine List.ext_getElem (by simp) fun i h1 h2 => ?_
  simp [List.getD, h1]
theorem prs_map (f : Nat → Nat) (xs : List Nat) : prs (xs.map f) = (prs xs).map fun p => (f p.1, f p.2) := by
  unfold prs
  rw [List.flatMap_map, List.map_flatMap]
  simp only [List.map_map]
  rfl
theorem gW_map (W : List (List Str)) (idx : List Nat) {i : Nat} (h : i < idx.length) : gW (idx.map (gW W)) i = gW W (idx.getD i 0) := by
  simp [gW, List.getD, h]
theorem mis_eq {names : List Str} {W : List (List Str)} (H : Asn names W) (hn : names.Nodup) (F : List Fm) (idx : List Nat) (hi : ∀ a ∈ idx, a < W.length) :
    ((mis W F idx).map fun p => (gW W p.1, gW W p.2)) = (mis2 (idx.map (gW W)) F).map fun p => (gW (idx.map (gW W)) p.1, gW (idx.map (gW W)) p.2) := by
  unfold mis mis2
  have e0 : prs idx = (prs (List.range idx.length)).map fun p => (idx.getD p.1 0, idx.getD p.2 0) := by
    conv => lhs; rw [getD_range idx]
    rw [prs_map]
  rw [e0, List.find?_map, List.length_map, Option.map_map]
  have mem : ∀ p ∈ prs (List.range idx.length), p.1 < idx.length ∧ p.2 < idx.length := fun p hp => by
    obtain ⟨a, ha, h2⟩ := List.mem_flatMap.mp hp
    obtain ⟨b, hb, rfl⟩ := List.mem_map.mp h2
    exact ⟨List.mem_range.mp ha, List.mem_range.mp hb⟩
  have lt : ∀ i, i < idx.length → idx.getD i 0 < W.length := fun i h => by
    refine hi _ ?_
    simp [List.getD, h]
  rw [find_congr (q := cnd2 (idx.map (gW W)) F) fun p hp => ?_]
  · cases hq : (prs (List.range idx.length)).find? (cnd2 (idx.map (gW W)) F) with
    | none => rfl
    | some p =>
      have hp := mem p (List.mem_of_find?_eq_some hq)
      show some (gW W (idx.getD p.1 0), gW W (idx.getD p.2 0)) = some (gW (idx.map (gW W)) p.1, gW (idx.map (gW W)) p.2)
      rw [gW_map W idx hp.1, gW_map W idx hp.2]
  · obtain ⟨h1, h2⟩ := mem p hp
    show cnd W F (idx.getD p.1 0, idx.getD p.2 0) = cnd2 (idx.map (gW W)) F p
    unfold cnd cnd2
    rw [gW_map W idx h1, gW_map W idx h2]
    cases hpc : decide (pc F (gW W (idx.getD p.1 0)) = pc F (gW W (idx.getD p.2 0))) with
    | true => simp
    | false =>
      cases hb : bel (gW W (idx.getD p.1 0)) (gW W (idx.getD p.2 0)) with
      | false => simp
      | true =>
        have hle := H.below hn (lt _ h1) (lt _ h2) hb
        have hne : idx.getD p.1 0 ≠ idx.getD p.2 0 := fun z => by
          rw [z] at hpc
          simp at hpc
        have : idx.getD p.1 0 < idx.getD p.2 0 := by omega
        simp only [decide_eq_true this]
        rfl
theorem filter_idx (W : List (List Str)) (p : List Str → Bool) : W.filter p = ((List.range W.length).filter fun i => p (gW W i)).map (gW W) := by
  have e : W = (List.range W.length).map (gW W) := by
    refine List.ext_getElem (by simp) fun i h1 h2 => ?_
    simp [gW, List.getD, h1]
  conv => lhs; rw [e]
  rw [List.filter_map]
  rfl
theorem map_findSome {β γ δ : Type} (f : β → Option γ) (g : γ → δ) : ∀ xs : List β, (xs.findSome? f).map g = xs.findSome? fun x => (f x).map g
  | [] => rfl
  | x :: xs => by
    rw [List.findSome?_cons, List.findSome?_cons]
    cases f x with
    | none => exact map_findSome f g xs
    | some y => rfl
theorem find_same {names : List Str} {W : List (List Str)} (H : Asn names W) (hn : names.Nodup) (F L : List Fm) : fmisT W (fmis W F [L]) = lmisT (lmis W F L) := by
  have key : ((fmis W F [L]).map fun p => (p.1, gW W p.2.1, gW W p.2.2)) = (lmis W F L).map fun p => ([p.1], p.2) := by
    unfold fmis lmis
    rw [lvs_one, List.findSome?_map, map_findSome, map_findSome]
    refine findSome_congr fun l hl => ?_
    have hl := List.mem_range.mp hl
    have hlot : (lotOf W [L] [l]).map (gW W) = lotW W L l := by
      unfold lotW lotOf
      rw [filter_idx W fun w => lvP L w l]
      refine congrArg _ (List.filter_congr fun i _ => ?_)
      exact lotW_stW W L hl _
    have hm := mis_eq H hn F (lotOf W [L] [l]) fun a ha => List.mem_range.mp (List.mem_filter.mp ha).1
    rw [hlot] at hm
    have := congrArg (Option.map fun q : List Str × List Str => ([l], q)) hm
    rw [Option.map_map, Option.map_map] at this
    show Option.map _ (Option.map _ (mis W F (lotOf W [L] [l]))) = _
    rw [Option.map_map, Option.map_map]
    exact this
  cases h1 : fmis W F [L] with
  | none =>
    rw [h1] at key
    cases h2 : lmis W F L with
    | none => rfl
    | some q => rw [h2] at key; cases key
  | some p =>
    rw [h1] at key
    cases h2 : lmis W F L with
    | none => rw [h2] at key; cases key
    | some q =>
      rw [h2] at key
      have key := Option.some.inj key
      obtain ⟨l, a, b⟩ := p
      obtain ⟨l', v, w⟩ := q
      have k1 : l = [l'] := congrArg (·.1) key
      have k2 : gW W a = v := congrArg (·.2.1) key
      have k3 : gW W b = w := congrArg (·.2.2) key
      show T.tup [encN l, encW (gW W a), encW (gW W b)] = T.tup [encN [l'], encW v, encW w]
      rw [k1, k2, k3]
end K45
set_option maxHeartbeats 4000000
namespace K45
open N1
open PySem (Str sizeLine)
local macro_rules
  | `(tactic| sizeOf_list_dec) => `(tactic| first
    | assumption | omega | exact ⟨by omega, by omega⟩
    | exact cmul_l (by omega) (by omega) | exact cmul_r (by omega) (by omega)
    | exact fit_strs _ _ | exact fit_ints _ _ | exact Fm.fit _ (by omega)
    | exact emod_lo (by omega) | exact emod_hi (by omega) | exact mod_pos (by assumption)
    | (simp only [List.length_map, List.length_append, List.length_cons, List.length_nil, List.length_replicate, sizeLine_is]; first | done | omega | exact ⟨by omega, by omega⟩)
    | rfl | decide)
local macro_rules
  | `(tactic| and_intros) => `(tactic| repeat' (first
    | refine And.intro (by sizeOf_list_dec) ?_
    | refine Br.yes rfl ?_
    | refine Br.no rfl ?_
    | refine Br.is (by first | rfl | assumption | omega) ?_
    | refine Br.isnt (by first | assumption | exact k_not_atom | exact k_kd_atom _ | exact k_kd_not _ | exact k_atom_not | exact k_sa | exact k_as | omega) ?_
    | refine Br.notis (by first | assumption | exact k_not_atom | exact k_kd_atom _ | exact k_kd_not _ | exact k_atom_not | exact k_sa | exact k_as | omega) ?_
    | refine Br.notisnt (by first | rfl | assumption | omega) ?_
    | array_get_dec
    | (refine ixDg (i := 0) (by assumption) rfl rfl ?_; intro _ _ _)
    | (refine ixDg (i := 1) (by assumption) rfl rfl ?_; intro _ _ _)
    | (refine ixDg (i := 2) (by assumption) rfl rfl ?_; intro _ _ _)
    | (refine ixDg (i := 3) (by assumption) rfl rfl ?_; intro _ _ _)
    | (refine ixW rfl ?_
       first
       | refine ixB 26 36 (by decide) (by sizeOf_list_dec) (by sizeOf_list_dec) ?_
       | refine ixB 0 1 (by decide) (by sizeOf_list_dec) (by sizeOf_list_dec) ?_
       | refine ixB 1 2 (by decide) (by sizeOf_list_dec) (by sizeOf_list_dec) ?_
       | refine ixB 0 2 (by decide) (by sizeOf_list_dec) (by sizeOf_list_dec) ?_
       | refine ixB 1 3 (by decide) (by sizeOf_list_dec) (by sizeOf_list_dec) ?_
       | refine ixB 0 3 (by decide) (by sizeOf_list_dec) (by sizeOf_list_dec) ?_
       | refine ixB 1 4 (by decide) (by sizeOf_list_dec) (by sizeOf_list_dec) ?_
       | refine ixB 0 4 (by decide) (by sizeOf_list_dec) (by sizeOf_list_dec) ?_
       | refine ixB 0 5 (by decide) (by sizeOf_list_dec) (by sizeOf_list_dec) ?_
       | refine ixB 1 6 (by decide) (by sizeOf_list_dec) (by sizeOf_list_dec) ?_
       | refine ixB 1 8 (by decide) (by sizeOf_list_dec) (by sizeOf_list_dec) ?_
       | refine ixB 0 7 (by decide) (by sizeOf_list_dec) (by sizeOf_list_dec) ?_
       | refine ixB 0 12 (by decide) (by sizeOf_list_dec) (by sizeOf_list_dec) ?_
       | refine ixB 0 60 (by decide) (by sizeOf_list_dec) (by sizeOf_list_dec) ?_
       intro _ _ _)
    | (refine ixKd (by sizeOf_list_dec) (by sizeOf_list_dec) ?_; intro _)
    | (refine ixMod (by assumption) ?_; intro _ _)
    | (refine let36 (by sizeOf_list_dec) (by sizeOf_list_dec) ?_; intro _)
    | refine Br.of (fun _ => ?_) (fun _ => ?_)
    | refine Br.ofNot (fun _ => ?_) (fun _ => ?_)
    | refine Br.mk (fun _ => ?_) (fun _ => ?_)))
local macro_rules
  | `(tactic| array_mem_dec) => `(tactic| try dsimp only [putF, putS, setSlot, putAll, wipeT, ownOf, slotAt, startT, slotsFrom, nones, List.cons_append, List.nil_append, List.length_cons, List.length_nil, Nat.reduceAdd, Nat.reduceSub, Nat.zero_add, Nat.sub_self, Nat.add_sub_cancel])

/-- its value is told by the values of the places -/
def Dep (ms : List Fm) (m : Fm) : Prop := ∀ v w : List Str, (∀ x ∈ ms, onW v x = onW w x) → onW v m = onW w m
theorem Dep.mem {ms : List Fm} {m : Fm} (h : m ∈ ms) : Dep ms m := fun _ _ g => g m h
theorem Dep.no {ms : List Fm} {m : Fm} (h : Dep ms m) : Dep ms (.no m) := fun v w g => congrArg (!·) (h v w g)
theorem Dep.nd {ms xs : List Fm} {b : Bool} (h : ∀ m ∈ xs, Dep ms m) : Dep ms (.nd b xs) := fun v w g => by
  have e : xs.map (onW v) = xs.map (onW w) := List.map_congr_left fun m hm => h m hm v w g
  cases b with
  | true =>
    show Fm.on _ _ = Fm.on _ _
    rw [(Fm.ons_all _ xs).1, (Fm.ons_all _ xs).1]
    have : ∀ p : Fm → Bool, xs.all p = (xs.map p).all id := fun p => by rw [List.all_map]; rfl
    rw [this, this]
    exact congrArg (fun l : List Bool => l.all id) e
  | false =>
    show Fm.on _ _ = Fm.on _ _
    rw [(Fm.ons_all _ xs).2, (Fm.ons_all _ xs).2]
    have : ∀ p : Fm → Bool, xs.any p = (xs.map p).any id := fun p => by rw [List.any_map]; rfl
    rw [this, this]
    exact congrArg (fun l : List Bool => l.any id) e
abbrev cn (ms : List Fm) (w : List Str) : Nat := cnt (fun x => decide (x ∈ w)) ms ms.length
theorem cn_eq (ms : List Fm) (w : List Str) : cn ms w = ms.countP (onW w) := by
  unfold cn cnt
  rw [List.take_length]
theorem vals_lad (ms : List Fm) (w : List Str) {i : Nat} (h : i ≤ ms.length + 1) : (vals (lad ms) w).getD i false = decide (i ≤ cn ms w) := by
  have hl : (lad ms).length = ms.length := by simp [lad]
  have hle := cnt_le (fun x => decide (x ∈ w)) ms ms.length
  cases i with
  | zero => rfl
  | succ i =>
    by_cases hi : i < ms.length
    · have : (vals (lad ms) w).getD (i + 1) false = onW w (P ms ms.length (i + 1)) := by
        show (((lad ms).map (onW w)) ++ [false]).getD i false = _
        rw [List.getD, List.getElem?_append_left (by rw [List.length_map, hl]; exact hi)]
        simp [lad, hi]
      rw [this]
      exact P_on _ ms ms.length (i + 1) (Nat.le_refl _)
    · have hi : i = ms.length := by omega
      subst hi
      have hle : cn ms w ≤ ms.length := hle
      rw [decide_eq_false (by omega)]
      show (((lad ms).map (onW w)) ++ [false]).getD ms.length false = _
      rw [List.getD, List.getElem?_append_right (by rw [List.length_map, hl]; exact Nat.le_refl _), List.length_map, hl, Nat.sub_self]
      rfl
theorem lvP_lad (ms : List Fm) (w : List Str) {i : Nat} (h : i ≤ ms.length) : lvP (lad ms) w i = decide (cn ms w = i) := by
  unfold lvP
  rw [vals_lad ms w (by omega), vals_lad ms w (by omega)]
  by_cases h1 : cn ms w = i
  · rw [decide_eq_true (show i ≤ cn ms w by omega), decide_eq_false (show ¬ i + 1 ≤ cn ms w by omega), decide_eq_true h1]
    rfl
  · rw [decide_eq_false h1]
    by_cases h2 : i ≤ cn ms w
    · rw [decide_eq_true h2, decide_eq_true (show i + 1 ≤ cn ms w by omega)]
      rfl
    · rw [decide_eq_false h2]
      rfl
theorem lad_length (ms : List Fm) : (lad ms).length = ms.length := by simp [lad]
theorem lv_lad {ms : List Fm} {w : List Str} {i : Nat} (h : i ∈ lv (lad ms) w) : cn ms w = i := by
  obtain ⟨h1, h2⟩ := List.mem_filter.mp h
  have h1 := List.mem_range.mp h1
  rw [lad_length] at h1
  rw [lvP_lad ms w (by omega)] at h2
  exact of_decide_eq_true h2
theorem same_vals {p q : Fm → Bool} : ∀ ms : List Fm, (∀ m ∈ ms, p m = true → q m = true) → ms.countP p = ms.countP q → ∀ m ∈ ms, p m = q m
  | [], _, _, m, hm => by cases hm
  | x :: ms, h, e, m, hm => by
    have hle : ms.countP p ≤ ms.countP q := List.countP_mono_left fun y hy g => h y (List.mem_cons_of_mem _ hy) g
    have hx := h x List.mem_cons_self
    rw [List.countP_cons, List.countP_cons] at e
    have hxx : p x = q x := by
      cases hp : p x <;> cases hq : q x
      · rfl
      · rw [hp, hq] at e
        simp at e
        omega
      · rw [hx hp] at hq
        cases hq
      · rfl
    have e2 : ms.countP p = ms.countP q := by
      rw [hxx] at e
      omega
    rcases List.mem_cons.mp hm with rfl | hm
    · exact hxx
    · exact same_vals ms (fun y hy => h y (List.mem_cons_of_mem _ hy)) e2 m hm
theorem no_misfit (W : List (List Str)) (Ps : List (List Fm)) (hL : ∀ L ∈ Ps, L.length ≤ 9) (ms : List Fm) (hpos : ∀ m ∈ ms, Fm.pos m = true) (hin : lad ms ∈ Ps) (F : List Fm) (hF : ∀ m ∈ F, Dep ms m) : fmis W F Ps = none := by
  refine List.findSome?_eq_none_iff.mpr fun leaf hleaf => ?_
  have hll := (lvs_len Ps.length Ps rfl hL).2 leaf hleaf
  obtain ⟨i, hi, ei⟩ := List.getElem_of_mem hin
  have hpair : (lad ms, leaf[i]'(by omega)) ∈ Ps.zip leaf := by
    rw [← ei]
    have : i < (Ps.zip leaf).length := by rw [List.length_zip]; omega
    have e := List.getElem_zip (l := Ps) (l' := leaf) (i := i) (h := this)
    rw [← e]
    exact List.getElem_mem this
  have : mis W F (lotOf W Ps leaf) = none := by
    refine List.find?_eq_none.mpr fun p hp => ?_
    obtain ⟨a, ha, h2⟩ := List.mem_flatMap.mp hp
    obtain ⟨b, hb, rfl⟩ := List.mem_map.mp h2
    have sa := of_decide_eq_true (List.all_eq_true.mp (List.mem_filter.mp ha).2 _ hpair)
    have sb := of_decide_eq_true (List.all_eq_true.mp (List.mem_filter.mp hb).2 _ hpair)
    have ec : cn ms (gW W a) = cn ms (gW W b) := (lv_lad sa).trans (lv_lad sb).symm
    unfold cnd
    cases hbel : bel (gW W a) (gW W b) with
    | false => simp
    | true =>
      have hv : ∀ x ∈ ms, onW (gW W a) x = onW (gW W b) x := by
        rw [cn_eq, cn_eq] at ec
        exact same_vals ms (fun m hm g => Fm.on_mono _ _ (fun x hx => List.all_eq_true.mp hbel x (of_decide_eq_true hx)) m (hpos m hm) g) ec
      have : pc F (gW W a) = pc F (gW W b) := List.map_congr_left fun m hm => hF m hm _ _ hv
      simp [this]
  rw [this]
  rfl
end K45
set_option maxHeartbeats 4000000
namespace K45
open N1
open PySem (Str sizeLine)
local macro_rules
  | `(tactic| sizeOf_list_dec) => `(tactic| first
    | assumption | omega | exact ⟨by omega, by omega⟩
    | exact cmul_l (by omega) (by omega) | exact cmul_r (by omega) (by omega)
    | exact fit_strs _ _ | exact fit_ints _ _ | exact Fm.fit _ (by omega)
    | exact emod_lo (by omega) | exact emod_hi (by omega) | exact mod_pos (by assumption)
    | (simp only [List.length_map, List.length_append, List.length_cons, List.length_nil, List.length_replicate, sizeLine_is]; first | done | omega | exact ⟨by omega, by omega⟩)
    | rfl | decide)
local macro_rules
  | `(tactic| and_intros) => `(tactic| repeat' (first
    | refine And.intro (by sizeOf_list_dec) ?_
    | refine Br.yes rfl ?_
    | refine Br.no rfl ?_
    | refine Br.is (by first | rfl | assumption | omega) ?_
    | refine Br.isnt (by first | assumption | exact k_not_atom | exact k_kd_atom _ | exact k_kd_not _ | exact k_atom_not | exact k_sa | exact k_as | omega) ?_
    | refine Br.notis (by first | assumption | exact k_not_atom | exact k_kd_atom _ | exact k_kd_not _ | exact k_atom_not | exact k_sa | exact k_as | omega) ?_
    | refine Br.notisnt (by first | rfl | assumption | omega) ?_
    | array_get_dec
    | (refine ixDg (i := 0) (by assumption) rfl rfl ?_; intro _ _ _)
    | (refine ixDg (i := 1) (by assumption) rfl rfl ?_; intro _ _ _)
    | (refine ixDg (i := 2) (by assumption) rfl rfl ?_; intro _ _ _)
    | (refine ixDg (i := 3) (by assumption) rfl rfl ?_; intro _ _ _)
    | (refine ixW rfl ?_
       first
       | refine ixB 26 36 (by decide) (by sizeOf_list_dec) (by sizeOf_list_dec) ?_
       | refine ixB 0 1 (by decide) (by sizeOf_list_dec) (by sizeOf_list_dec) ?_
       | refine ixB 1 2 (by decide) (by sizeOf_list_dec) (by sizeOf_list_dec) ?_
       | refine ixB 0 2 (by decide) (by sizeOf_list_dec) (by sizeOf_list_dec) ?_
       | refine ixB 1 3 (by decide) (by sizeOf_list_dec) (by sizeOf_list_dec) ?_
       | refine ixB 0 3 (by decide) (by sizeOf_list_dec) (by sizeOf_list_dec) ?_
       | refine ixB 1 4 (by decide) (by sizeOf_list_dec) (by sizeOf_list_dec) ?_
       | refine ixB 0 4 (by decide) (by sizeOf_list_dec) (by sizeOf_list_dec) ?_
       | refine ixB 0 5 (by decide) (by sizeOf_list_dec) (by sizeOf_list_dec) ?_
       | refine ixB 1 6 (by decide) (by sizeOf_list_dec) (by sizeOf_list_dec) ?_
       | refine ixB 1 8 (by decide) (by sizeOf_list_dec) (by sizeOf_list_dec) ?_
       | refine ixB 0 7 (by decide) (by sizeOf_list_dec) (by sizeOf_list_dec) ?_
       | refine ixB 0 12 (by decide) (by sizeOf_list_dec) (by sizeOf_list_dec) ?_
       | refine ixB 0 60 (by decide) (by sizeOf_list_dec) (by sizeOf_list_dec) ?_
       intro _ _ _)
    | (refine ixKd (by sizeOf_list_dec) (by sizeOf_list_dec) ?_; intro _)
    | (refine ixMod (by assumption) ?_; intro _ _)
    | (refine let36 (by sizeOf_list_dec) (by sizeOf_list_dec) ?_; intro _)
    | refine Br.of (fun _ => ?_) (fun _ => ?_)
    | refine Br.ofNot (fun _ => ?_) (fun _ => ?_)
    | refine Br.mk (fun _ => ?_) (fun _ => ?_)))
local macro_rules
  | `(tactic| array_mem_dec) => `(tactic| try dsimp only [putF, putS, setSlot, putAll, wipeT, ownOf, slotAt, startT, slotsFrom, nones, List.cons_append, List.nil_append, List.length_cons, List.length_nil, Nat.reduceAdd, Nat.reduceSub, Nat.zero_add, Nat.sub_self, Nat.add_sub_cancel])

local macro_rules
  | `(tactic| array_get_dec) => `(tactic| (refine take_ok _ (by omega) (by assumption) (by first | decide | omega) ?_; intro _ _ _; array_mem_dec))
theorem mk_sum (p : Str → Bool) (ms : List Fm) : ∀ j, j ≤ ms.length → ((ms.map fun m => if Fm.on p m then (1 : Int) else 0).take j).sum = (cnt p ms j : Int) := by
  intro j
  induction j with
  | zero => intro _; rfl
  | succ j ih =>
    intro h
    rw [List.take_succ, List.sum_append, ih (by omega), cnt_succ p ms (by omega)]
    rw [List.getElem?_map, List.getElem?_eq_getElem (by omega)]
    simp only [Option.map_some, Option.toList_some, List.sum_cons, List.sum_nil]
    rw [List.getD_eq_getElem?_getD, List.getElem?_eq_getElem (by omega)]
    simp only [Option.getD_some]
    split <;> simp
theorem size_ok (m : Fm) : ∀ (N : Nat) (hN : Fm.nest m < N) {R : Tok → List (List T) → Prop} (h : R (.v (.int (Fm.sz m))) []),
    sem N .law_size [.v (Fm.enc m)] R := by
  revert m
  refine Fm.ind (fun x => ?_) (fun m ih => ?_) (fun b ms ih => ?_)
  · intro N hN R h
    obtain ⟨N, rfl⟩ : ∃ M, N = M + 1 := ⟨N - 1, by omega⟩
    refine ⟨rfl, ?_⟩
    and_intros
    exact h
  · intro N hN R h
    obtain ⟨N, rfl⟩ : ∃ M, N = M + 1 := ⟨N - 1, by omega⟩
    replace hN : Fm.nest m + 1 < N + 1 := hN
    refine ⟨rfl, ?_⟩
    and_intros
    refine ih N (by omega) ?_
    rw [Fm.sz_no] at h
    exact h
  · intro N hN R h
    obtain ⟨N, rfl⟩ : ∃ M, N = M + 1 := ⟨N - 1, by omega⟩
    replace hN : Fm.nests ms + 1 < N + 1 := hN
    refine ⟨rfl, ?_⟩
    and_intros
    refine lc_over Fm.enc (fun m => T.int (Fm.sz m)) ms (Fm.encs_eq ms) (fun s => rfl) (fun x hx K hK => ?_) ?_
    · and_intros
      refine ih x hx N (by have := Fm.nest_le hx; omega) ?_
      exact hK
    · refine withInts.by (ms.map fun m => (Fm.sz m : Int)) (by rw [List.map_map]; rfl) ?_
      rw [Fm.sz_nd, ← Fm.sum_sz] at h
      exact h
theorem count_ok (ms : List Fm) (n : Nat) (hm : ∀ m ∈ ms, Fm.nest m ≤ n) (w : List Str) (N : Nat) (hN : n + 1 < N) {R : Tok → List (List T) → Prop} (h : R (.v (.int (cn ms w : Nat))) []) : sem N .law_count [.v (.tup (ms.map Fm.enc)), .v (encW w)] R := by
  obtain ⟨N, rfl⟩ : ∃ M, N = M + 1 := ⟨N - 1, by omega⟩
  refine ⟨rfl, ?_⟩
  array_mem_dec
  and_intros
  refine lc_over Fm.enc (fun m => .int (if onW w m = true then 1 else 0)) ms rfl (fun s => rfl) (fun x hx K hK => ?_) ?_
  · and_intros
    refine on_ok w x N (by have := hm x hx; omega) ?_
    exact hK
  · refine withInts.by (ms.map fun m => if onW w m = true then (1 : Int) else 0) (by rw [List.map_map]; rfl) ?_
    have := mk_sum (fun x => decide (x ∈ w)) ms ms.length (Nat.le_refl _)
    rw [List.take_of_length_le (by rw [List.length_map]; exact Nat.le_refl _)] at this
    rw [this]
    exact h
theorem over_ok (ms : List Fm) (h0 : 0 < ms.length) (n : Nat) (hm : ∀ m ∈ ms, Fm.nest m ≤ n) {ns : List Int} (hl0 : 0 < ns.length) : ∀ (D d N : Nat), d ≤ D → D + 1 < N → ∀ {dI k : Int}, dI = (d : Int) → ∀ {R : Tok → List (List T) → Prop}, (∀ (m : Fm) (k' : Int), Dep ms m → Fm.nest m ≤ n + 2 * D → ∀ t, t = Fm.enc m → R (.v t) [[.int k']]) →
    sem N .law_over_vivv [.v (.lst (ns.map .int)), .io [.int k], .v (.tup (ms.map Fm.enc)), .v (.int dI)] R := by
  intro D
  induction D with
  | zero =>
    intro d N hd hN dI k ed R h
    subst ed
    obtain ⟨N, rfl⟩ : ∃ M, N = M + 1 := ⟨N - 1, by omega⟩
    refine ⟨rfl, ?_⟩
    array_mem_dec
    and_intros
    rename_i m hmm
    exact h m _ (.mem hmm) (hm m hmm) _ rfl
  | succ D ih =>
    intro d N hd hN dI k ed R h
    subst ed
    obtain ⟨N, rfl⟩ : ∃ M, N = M + 1 := ⟨N - 1, by omega⟩
    refine ⟨rfl, ?_⟩
    array_mem_dec
    and_intros
    · rename_i m hmm
      exact h m _ (.mem hmm) (by have := hm m hmm; omega) _ rfl
    · array_mem_dec
      rename_i hd0 _ _ _ w w0 w1
      refine range_s [1, 4] [5, 6] (fun i vs => ∃ (k : Int) (xs : List Fm), vs = [some (.io 0 [.int k]), some (.own (xs.map Fm.enc))] ∧ xs.length = i ∧ ∀ m ∈ xs, Dep ms m ∧ Fm.nest m ≤ n + 2 * D + 1) [_, _] rfl ⟨_, [], rfl, rfl, fun m hm => by cases hm⟩ (fun i hi vs w' hI K hK => ?_) (fun vs w' hI => ?_)
      · obtain ⟨k, xs, rfl, hl, hx⟩ := hI
        array_mem_dec
        dsimp only [putF, putS, setSlot] at hK
        and_intros
        refine ih (Int.toNat _) N ?_ (by omega) (Int.toNat_of_nonneg ?_).symm fun m k' hd' hn' t et => ?_
        · split <;> omega
        · split <;> omega
        subst et
        array_mem_dec
        and_intros
        · exact hK _ [_, _] rfl ⟨_, xs ++ [.no m], by rw [List.map_append]; rfl, by simp [hl], snoc_all hx ⟨hd'.no, by show Fm.nest m + 1 ≤ _; omega⟩⟩
        · exact hK _ [_, _] rfl ⟨_, xs ++ [m], by rw [List.map_append]; rfl, by simp [hl], snoc_all hx ⟨hd', by omega⟩⟩
      · obtain ⟨k, xs, rfl, hl, hx⟩ := hI
        array_mem_dec
        and_intros
        rename_i b
        exact h (.nd b xs) _ (.nd fun m hm => (hx m hm).1) (Nat.le_trans (Nat.succ_le_succ (Fm.nests_iff.mpr fun m hm => (hx m hm).2)) (by omega)) _ (Fm.enc_nd b xs).symm
theorem bent_ok (ms : List Fm) (h0 : 0 < ms.length) (n : Nat) (hm : ∀ m ∈ ms, Fm.nest m ≤ n) (N : Nat) (hN : n + 6 < N) {c : Int} {t : T} (et : t = .tup (ms.map Fm.enc)) {R : Tok → List (List T) → Prop} (h : ∀ m : Fm, Dep ms m → Fm.nest m ≤ n + 4 → ∀ t, t = Fm.enc m → R (.v t) []) : sem N .law_bent [.v (.int c), .v t] R := by
  subst et
  obtain ⟨N, rfl⟩ : ∃ M, N = M + 1 := ⟨N - 1, by omega⟩
  refine ⟨rfl, ?_⟩
  array_mem_dec
  and_intros
  refine digits_ok N (by omega) (List.replicate 40 60) (rep1 40 60) (rep_ok (by decide)) (by decide) fun ns hl => ?_
  have hl0 : 0 < ns.length := by rw [hl.len]; decide
  array_mem_dec
  and_intros
  rename_i v v0 v2
  refine over_ok ms h0 n hm hl0 2 (1 + v).toNat N (by omega) (by omega) (by omega) fun m k' hd hn t et => ?_
  subst et
  array_mem_dec
  and_intros
  refine size_ok m N (by omega) ?_
  and_intros
  · obtain ⟨y, e0, hy⟩ : ∃ y : Fm, atT (ms.map Fm.enc) 0 = some (Fm.enc y) ∧ y ∈ ms := by
      cases ms with
      | nil => simp at h0
      | cons y ys => exact ⟨y, rfl, List.mem_cons_self⟩
    obtain ⟨z, ez, hz⟩ : ∃ z : Fm, atT (ms.map Fm.enc) (-1) = some (Fm.enc z) ∧ z ∈ ms := by
      have hne : ms ≠ [] := by intro z; subst z; simp at h0
      obtain ⟨bs, z, e⟩ : ∃ bs z, ms = bs ++ [z] := ⟨_, _, (List.dropLast_concat_getLast hne).symm⟩
      exact ⟨z, by rw [e, List.map_append]; exact atT_last _ _, by rw [e]; simp⟩
    array_mem_dec
    refine ifSome.of e0 ?_
    array_mem_dec
    and_intros
    refine ifSome.of ez ?_
    and_intros
    refine h (.nd true [.no y, z]) (.nd fun m hm => ?_) ?_ _ rfl
    · simp only [List.mem_cons, List.not_mem_nil, or_false] at hm
      rcases hm with rfl | rfl
      · exact (Dep.mem hy).no
      · exact .mem hz
    · show max (Fm.nest y + 1) (max (Fm.nest z) 0) + 1 ≤ _
      have := hm y hy
      have := hm z hz
      omega
  · exact h m hd hn _ rfl
theorem told_ok (n : Nat) (t : T) (ht : t = .non ∨ isI n t = true) (N : Nat) (hN : n + 2 < N) {t' : T} (et : t' = t) {R : Tok → List (List T) → Prop} (h : R (.v (.bl true)) []) : sem N .law_told [.v t', .v t] R := by
  subst et
  obtain ⟨N, rfl⟩ : ∃ M, N = M + 1 := ⟨N - 1, by omega⟩
  refine ⟨rfl, ?_⟩
  array_mem_dec
  rcases ht with rfl | ht
  · refine Br.yes rfl ?_
    exact h
  · have e : t' ≠ .non := by intro z; subst z; cases n <;> cases ht
    cases t' with
    | non => exact absurd rfl e
    | _ =>
      refine Br.no rfl ?_
      array_mem_dec
      and_intros
      exact same_ok n _ ht N (by omega) rfl h
end K45
set_option maxHeartbeats 4000000
namespace K45
open N1
open PySem (Str sizeLine)
local macro_rules
  | `(tactic| sizeOf_list_dec) => `(tactic| first
    | assumption | omega | exact ⟨by omega, by omega⟩
    | exact cmul_l (by omega) (by omega) | exact cmul_r (by omega) (by omega)
    | exact fit_strs _ _ | exact fit_ints _ _ | exact Fm.fit _ (by omega)
    | exact emod_lo (by omega) | exact emod_hi (by omega) | exact mod_pos (by assumption)
    | (simp only [List.length_map, List.length_append, List.length_cons, List.length_nil, List.length_replicate, sizeLine_is]; first | done | omega | exact ⟨by omega, by omega⟩)
    | rfl | decide)
local macro_rules
  | `(tactic| and_intros) => `(tactic| repeat' (first
    | refine And.intro (by sizeOf_list_dec) ?_
    | refine Br.yes rfl ?_
    | refine Br.no rfl ?_
    | refine Br.is (by first | rfl | assumption | omega) ?_
    | refine Br.isnt (by first | assumption | exact k_not_atom | exact k_kd_atom _ | exact k_kd_not _ | exact k_atom_not | exact k_sa | exact k_as | omega) ?_
    | refine Br.notis (by first | assumption | exact k_not_atom | exact k_kd_atom _ | exact k_kd_not _ | exact k_atom_not | exact k_sa | exact k_as | omega) ?_
    | refine Br.notisnt (by first | rfl | assumption | omega) ?_
    | array_get_dec
    | (refine ixDg (i := 0) (by assumption) rfl rfl ?_; intro _ _ _)
    | (refine ixDg (i := 1) (by assumption) rfl rfl ?_; intro _ _ _)
    | (refine ixDg (i := 2) (by assumption) rfl rfl ?_; intro _ _ _)
    | (refine ixDg (i := 3) (by assumption) rfl rfl ?_; intro _ _ _)
    | (refine ixW rfl ?_
       first
       | refine ixB 26 36 (by decide) (by sizeOf_list_dec) (by sizeOf_list_dec) ?_
       | refine ixB 0 1 (by decide) (by sizeOf_list_dec) (by sizeOf_list_dec) ?_
       | refine ixB 1 2 (by decide) (by sizeOf_list_dec) (by sizeOf_list_dec) ?_
       | refine ixB 0 2 (by decide) (by sizeOf_list_dec) (by sizeOf_list_dec) ?_
       | refine ixB 1 3 (by decide) (by sizeOf_list_dec) (by sizeOf_list_dec) ?_
       | refine ixB 0 3 (by decide) (by sizeOf_list_dec) (by sizeOf_list_dec) ?_
       | refine ixB 1 4 (by decide) (by sizeOf_list_dec) (by sizeOf_list_dec) ?_
       | refine ixB 0 4 (by decide) (by sizeOf_list_dec) (by sizeOf_list_dec) ?_
       | refine ixB 0 5 (by decide) (by sizeOf_list_dec) (by sizeOf_list_dec) ?_
       | refine ixB 1 6 (by decide) (by sizeOf_list_dec) (by sizeOf_list_dec) ?_
       | refine ixB 1 8 (by decide) (by sizeOf_list_dec) (by sizeOf_list_dec) ?_
       | refine ixB 0 7 (by decide) (by sizeOf_list_dec) (by sizeOf_list_dec) ?_
       | refine ixB 0 12 (by decide) (by sizeOf_list_dec) (by sizeOf_list_dec) ?_
       | refine ixB 0 60 (by decide) (by sizeOf_list_dec) (by sizeOf_list_dec) ?_
       intro _ _ _)
    | (refine ixKd (by sizeOf_list_dec) (by sizeOf_list_dec) ?_; intro _)
    | (refine ixMod (by assumption) ?_; intro _ _)
    | (refine let36 (by sizeOf_list_dec) (by sizeOf_list_dec) ?_; intro _)
    | refine Br.of (fun _ => ?_) (fun _ => ?_)
    | refine Br.ofNot (fun _ => ?_) (fun _ => ?_)
    | refine Br.mk (fun _ => ?_) (fun _ => ?_)))
local macro_rules
  | `(tactic| array_mem_dec) => `(tactic| try dsimp only [putF, putS, setSlot, putAll, wipeT, ownOf, slotAt, startT, slotsFrom, nones, List.cons_append, List.nil_append, List.length_cons, List.length_nil, Nat.reduceAdd, Nat.reduceSub, Nat.zero_add, Nat.sub_self, Nat.add_sub_cancel])

local macro_rules
  | `(tactic| array_get_dec) => `(tactic| (refine take_ok _ (by omega) (by assumption) (by first | decide | omega) ?_; intro _ _ _; array_mem_dec))
theorem book_ok {names : List Str} (hn : 0 < names.length) (N : Nat) (hN : 6 < N) {c : Int} {t : T} (et : t = .tup (names.map .str)) {R : Tok → List (List T) → Prop} (h : ∀ cs : List Cl, (∀ c ∈ cs, c.Nq 4) → ∀ t, t = .tup (cs.map encC) → R (.v t) []) :
    sem N .law_book [.v (.int c), .v t] R := by
  subst et
  obtain ⟨N, rfl⟩ : ∃ M, N = M + 1 := ⟨N - 1, by omega⟩
  refine ⟨rfl, ?_⟩
  array_mem_dec
  and_intros
  refine digits_ok N (by omega) (List.replicate 40 60) (rep1 40 60) (rep_ok (by decide)) (by decide) fun ns hl => ?_
  have hl0 : 0 < ns.length := by rw [hl.len]; decide
  array_mem_dec
  and_intros
  array_mem_dec
  rename_i m m0 m3
  refine range_s [3, 4] [5, 6, 7, 8, 9] (fun i vs => ∃ (k : Int) (cs : List Cl), vs = [some (.own [.int k]), some (.own (cs.map encC))] ∧ cs.length = i ∧ ∀ c ∈ cs, c.Nq 4) [_, _] rfl ⟨_, [], rfl, rfl, fun m hm => by cases hm⟩ (fun i hi vs w hI K hK => ?_) (fun vs w hI => ?_)
  · obtain ⟨k, cs, rfl, hcl, hcs⟩ := hI
    array_mem_dec
    dsimp only [putF, putS, setSlot] at hK
    and_intros
    array_mem_dec
    refine range_s [3, 6] [7, 8, 9] (fun i vs => ∃ (k : Int) (S : List (List Fm)), vs = [some (.own [.int k]), some (.own (S.map fun ms => .tup (ms.map Fm.enc)))] ∧ S.length = i ∧ ∀ ms ∈ S, ∀ m ∈ ms, Fm.nest m ≤ 4) [_, _] rfl ⟨_, [], rfl, rfl, fun m hm => by cases hm⟩ (fun i hi vs w hI K2 hK2 => ?_) (fun vs w hI => ?_)
    · obtain ⟨k, S, rfl, hS, hm⟩ := hI
      array_mem_dec
      dsimp only [putF, putS, setSlot] at hK2
      and_intros
      array_mem_dec
      rename_i n n0 n7
      refine range_s [3, 8] [9] (fun i vs => ∃ (k : Int) (ms : List Fm), vs = [some (.own [.int k]), some (.own (ms.map Fm.enc))] ∧ ms.length = i ∧ ∀ m ∈ ms, Fm.nest m ≤ 4) [_, _] rfl ⟨_, [], rfl, rfl, fun m hm => by cases hm⟩ (fun j hj vs w hI K3 hK3 => ?_) (fun vs w hI => ?_)
      · obtain ⟨k, ms, rfl, hl, hms⟩ := hI
        array_mem_dec
        dsimp only [putF, putS, setSlot] at hK3
        and_intros
        rename_i d d0 d1
        refine formula_ok hl0 hn d.toNat N (by omega) _ _ (by omega) _ fun k' m t et hm => ?_
        subst et
        array_mem_dec
        and_intros
        exact hK3 _ [_, _] rfl ⟨_, ms ++ [m], by rw [List.map_append]; rfl, by simp [hl], snoc_all hms (by have := hm.2.1; omega)⟩
      · obtain ⟨k, ms, rfl, hl, hms⟩ := hI
        array_mem_dec
        and_intros
        refine ascending_ok N (by omega) (Fm.srtb fun m hm => by have := hms m hm; omega) (by rw [List.length_map]; omega) ?_
        obtain ⟨ms', e, h2⟩ := ascF (ms := ms) (n := 24) fun m hx => by have := hms m hx; omega
        rw [e]
        array_mem_dec
        refine ⟨by rw [List.length_map, sizeLine_is]; omega, hK2 _ [_, _] rfl ⟨_, S ++ [ms'], by rw [List.map_append]; rfl, by simp [hS], snoc_all hm fun m hm' => hms m ((h2 m).mp hm')⟩⟩
    · obtain ⟨k, S, rfl, hS, hm⟩ := hI
      array_mem_dec
      obtain ⟨A, B, rfl⟩ : ∃ A B, S = [A, B] := by
        match S, hS with
        | [A, B], _ => exact ⟨A, B, rfl⟩
      have hA := hm A (by simp)
      have hB := hm B (by simp)
      and_intros
      exact hK _ [_, _] rfl ⟨_, cs ++ [⟨A, B⟩], by rw [List.map_append]; rfl, by simp [hcl], snoc_all hcs fun m hm => by
        rcases List.mem_append.mp hm with hm | hm
        · exact hA m hm
        · exact hB m hm⟩
  · obtain ⟨k, cs, rfl, hcl, hcs⟩ := hI
    array_mem_dec
    and_intros
    exact h cs hcs _ rfl
end K45
set_option maxHeartbeats 4000000
namespace K45
open N1
open PySem (Str sizeLine)
local macro_rules
  | `(tactic| sizeOf_list_dec) => `(tactic| first
    | assumption | omega | exact ⟨by omega, by omega⟩
    | exact cmul_l (by omega) (by omega) | exact cmul_r (by omega) (by omega)
    | exact fit_strs _ _ | exact fit_ints _ _ | exact Fm.fit _ (by omega)
    | exact emod_lo (by omega) | exact emod_hi (by omega) | exact mod_pos (by assumption)
    | (simp only [List.length_map, List.length_append, List.length_cons, List.length_nil, List.length_replicate, sizeLine_is]; first | done | omega | exact ⟨by omega, by omega⟩)
    | rfl | decide)
local macro_rules
  | `(tactic| and_intros) => `(tactic| repeat' (first
    | refine And.intro (by sizeOf_list_dec) ?_
    | refine Br.yes rfl ?_
    | refine Br.no rfl ?_
    | refine Br.is (by first | rfl | assumption | omega) ?_
    | refine Br.isnt (by first | assumption | exact k_not_atom | exact k_kd_atom _ | exact k_kd_not _ | exact k_atom_not | exact k_sa | exact k_as | omega) ?_
    | refine Br.notis (by first | assumption | exact k_not_atom | exact k_kd_atom _ | exact k_kd_not _ | exact k_atom_not | exact k_sa | exact k_as | omega) ?_
    | refine Br.notisnt (by first | rfl | assumption | omega) ?_
    | array_get_dec
    | (refine ixDg (i := 0) (by assumption) rfl rfl ?_; intro _ _ _)
    | (refine ixDg (i := 1) (by assumption) rfl rfl ?_; intro _ _ _)
    | (refine ixDg (i := 2) (by assumption) rfl rfl ?_; intro _ _ _)
    | (refine ixDg (i := 3) (by assumption) rfl rfl ?_; intro _ _ _)
    | (refine ixW rfl ?_
       first
       | refine ixB 26 36 (by decide) (by sizeOf_list_dec) (by sizeOf_list_dec) ?_
       | refine ixB 0 1 (by decide) (by sizeOf_list_dec) (by sizeOf_list_dec) ?_
       | refine ixB 1 2 (by decide) (by sizeOf_list_dec) (by sizeOf_list_dec) ?_
       | refine ixB 0 2 (by decide) (by sizeOf_list_dec) (by sizeOf_list_dec) ?_
       | refine ixB 1 3 (by decide) (by sizeOf_list_dec) (by sizeOf_list_dec) ?_
       | refine ixB 0 3 (by decide) (by sizeOf_list_dec) (by sizeOf_list_dec) ?_
       | refine ixB 1 4 (by decide) (by sizeOf_list_dec) (by sizeOf_list_dec) ?_
       | refine ixB 0 4 (by decide) (by sizeOf_list_dec) (by sizeOf_list_dec) ?_
       | refine ixB 0 5 (by decide) (by sizeOf_list_dec) (by sizeOf_list_dec) ?_
       | refine ixB 1 6 (by decide) (by sizeOf_list_dec) (by sizeOf_list_dec) ?_
       | refine ixB 1 8 (by decide) (by sizeOf_list_dec) (by sizeOf_list_dec) ?_
       | refine ixB 0 7 (by decide) (by sizeOf_list_dec) (by sizeOf_list_dec) ?_
       | refine ixB 0 12 (by decide) (by sizeOf_list_dec) (by sizeOf_list_dec) ?_
       | refine ixB 0 60 (by decide) (by sizeOf_list_dec) (by sizeOf_list_dec) ?_
       intro _ _ _)
    | (refine ixKd (by sizeOf_list_dec) (by sizeOf_list_dec) ?_; intro _)
    | (refine ixMod (by assumption) ?_; intro _ _)
    | (refine let36 (by sizeOf_list_dec) (by sizeOf_list_dec) ?_; intro _)
    | refine Br.of (fun _ => ?_) (fun _ => ?_)
    | refine Br.ofNot (fun _ => ?_) (fun _ => ?_)
    | refine Br.mk (fun _ => ?_) (fun _ => ?_)))
local macro_rules
  | `(tactic| array_mem_dec) => `(tactic| try dsimp only [putF, putS, setSlot, putAll, wipeT, ownOf, slotAt, startT, slotsFrom, nones, List.cons_append, List.nil_append, List.length_cons, List.length_nil, Nat.reduceAdd, Nat.reduceSub, Nat.zero_add, Nat.sub_self, Nat.add_sub_cancel])

theorem sl_suf {L : List Fm} {b : Int} (o : Nat) (hb : b = (o : Int)) :
    (((L.map Fm.enc).drop (HT.sIx (L.map Fm.enc).length 0 (some b))).take (HT.sIx (L.map Fm.enc).length (L.map Fm.enc).length none - HT.sIx (L.map Fm.enc).length 0 (some b))) = (L.drop o).map Fm.enc := by
  subst hb
  rw [HT.sIx_nat, HT.sIx_none, List.map_drop]
  generalize L.map Fm.enc = ts
  by_cases h : o ≤ ts.length
  · rw [Nat.min_eq_left h, List.take_of_length_le (by rw [List.length_drop]; exact Nat.le_refl _)]
  · rw [Nat.min_eq_right (by omega), List.drop_of_length_le (Nat.le_refl _), List.drop_of_length_le (by omega), List.take_nil]
theorem set_at {L : List Fm} {i : Nat} (h : i < L.length) (m : Fm) : setAt (L.map Fm.enc) (i : Int) (Fm.enc m) = some ((L.set i m).map Fm.enc) := by
  refine (if_pos (by rw [List.length_map]; exact h)).trans ?_
  rw [List.map_set]
theorem get_at {L : List Fm} {i : Nat} (h : i < L.length) : atT (L.map Fm.enc) (i : Int) = some (Fm.enc L[i]) := by
  rw [atT_map, atT_get h]
  rfl
theorem set_nest {L : List Fm} {n i : Nat} {m : Fm} (h : ∀ m ∈ L, Fm.nest m ≤ n) (g : Fm.nest m ≤ n) : ∀ x ∈ L.set i m, Fm.nest x ≤ n := fun x hx => by
  rcases List.mem_or_eq_of_mem_set hx with hx | hx
  · exact h x hx
  · rw [hx]; exact g
theorem spoilt_ok (L : List Fm) (hL : L.length ≤ 6) (n : Nat) (hm : ∀ m ∈ L, Fm.nest m ≤ n) {dg : List Int} (hd : Dg dg [8, 60, 60, 60, 60]) {names : List Str} (hn : 0 < names.length) (N : Nat) (hN : 1 < N) {t t1 t2 : T} (et : t = .tup (L.map Fm.enc)) (et1 : t1 = .lst (dg.map .int)) (et2 : t2 = .tup (names.map .str)) {R : Tok → List (List T) → Prop}
    (h : ∀ S : List Fm, S.length ≤ 8 → (∀ m ∈ S, Fm.nest m ≤ n) → ∀ t, t = .tup (S.map Fm.enc) → R (.v t) []) : sem N .law_spoilt [.v t, .v t1, .v t2] R := by
  subst et; subst et1; subst et2
  obtain ⟨N, rfl⟩ : ∃ M, N = M + 1 := ⟨N - 1, by omega⟩
  refine ⟨rfl, ?_⟩
  have ix : L.length ≠ 0 → ∀ x : Int, 0 ≤ x % (((L.map Fm.enc).length : Nat) : Int) ∧ x % (((L.map Fm.enc).length : Nat) : Int) < (L.length : Int) := fun h0 x => by
    rw [List.length_map]
    exact ⟨Int.emod_nonneg _ (by omega), Int.emod_lt_of_pos _ (by omega)⟩
  array_mem_dec
  and_intros
  · rename_i x hx _
    exact h [.at x] (by show 1 ≤ 8; decide) (fun m hm => by rw [List.mem_singleton.mp hm]; exact Nat.zero_le _) _ rfl
  · rename_i a0 _ _ x _ hne b0 _ _ c0 _ _ d0 _ _ hlt
    have hne : L.length ≠ 0 := by rw [List.length_map] at hne; omega
    have b5 := ix hne b0
    obtain ⟨o, eo⟩ := Int.eq_ofNat_of_zero_le b5.1
    rw [eo] at b5 ⊢
    have e1 := sl_toE (f := Fm.enc) (ts := L.map Fm.enc) (xs := L) rfl o (b := (o : Int)) rfl
    have e2 := sl_suf (L := L) (b := (o : Int) + 1) (o + 1) (by omega)
    array_mem_dec
    refine ⟨Nat.le_trans (Nat.add_le_add (Nat.le_of_eq (congrArg List.length e1)) (Nat.le_of_eq (congrArg List.length e2))) (by rw [List.length_map, List.length_map, List.length_take, List.length_drop, sizeLine_is]; omega), ?_⟩
    rw [e1, e2, ← List.map_append]
    exact h (L.take o ++ L.drop (o + 1)) (by rw [List.length_append, List.length_take, List.length_drop]; omega) (fun m hm' => by
      rcases List.mem_append.mp hm' with hm' | hm'
      · exact hm m (List.mem_of_mem_take hm')
      · exact hm m (List.mem_of_mem_drop hm')) _ rfl
  · rename_i a0 _ _ x _ hne b0 _ _ c0 _ _ d0 _ _ _ f0 _ _ _
    have hne : L.length ≠ 0 := by rw [List.length_map] at hne; omega
    have b5 := ix hne b0
    obtain ⟨o, eo⟩ := Int.eq_ofNat_of_zero_le b5.1
    rw [eo] at b5 ⊢
    have b6 := ix hne ((o : Int) + 1 + c0 % (if (((L.map Fm.enc).length : Nat) : Int) - 1 > 1 then (((L.map Fm.enc).length : Nat) : Int) - 1 else 1))
    obtain ⟨q, eq⟩ := Int.eq_ofNat_of_zero_le b6.1
    rw [eq] at b6 ⊢
    have ho : o < L.length := by omega
    have hq : q < L.length := by omega
    have hmo := hm _ (List.getElem_mem ho)
    have hmq := hm _ (List.getElem_mem hq)
    array_mem_dec
    refine ifSome.of (get_at ho) ?_
    array_mem_dec
    refine ifSome.of (get_at hq) ?_
    array_mem_dec
    refine ⟨rfl, ?_⟩
    refine ifSome.of (set_at ho L[q]) ?_
    array_mem_dec
    refine ⟨rfl, ?_⟩
    refine ifSome.of (set_at (L := L.set o L[q]) (by rw [List.length_set]; exact hq) L[o]) ?_
    array_mem_dec
    exact h ((L.set o L[q]).set q L[o]) (by rw [List.length_set, List.length_set]; omega) (set_nest (set_nest hm hmq) hmo) _ rfl
  · rename_i a0 _ _ x _ hne b0 _ _ c0 _ _ d0 _ _ _ f0 _ _ _ g0 _ _ _
    have hne : L.length ≠ 0 := by rw [List.length_map] at hne; omega
    have b5 := ix hne b0
    obtain ⟨o, eo⟩ := Int.eq_ofNat_of_zero_le b5.1
    rw [eo] at b5 ⊢
    have b6 := ix hne ((o : Int) + 1 + c0 % (if (((L.map Fm.enc).length : Nat) : Int) - 1 > 1 then (((L.map Fm.enc).length : Nat) : Int) - 1 else 1))
    obtain ⟨q, eq⟩ := Int.eq_ofNat_of_zero_le b6.1
    rw [eq] at b6 ⊢
    have ho : o < L.length := by omega
    have hq : q < L.length := by omega
    have hmo := hm _ (List.getElem_mem ho)
    have hmq := hm _ (List.getElem_mem hq)
    have e1 := sl_toE (f := Fm.enc) (ts := L.map Fm.enc) (xs := L) rfl o (b := (o : Int)) rfl
    have e2 := sl_suf (L := L) (b := (o : Int)) o rfl
    array_mem_dec
    refine ifSome.of (get_at hq) ?_
    and_intros
    refine ⟨Nat.le_trans (Nat.add_le_add (Nat.le_of_eq (congrArg List.length e1)) (Nat.le_refl _)) (by rw [List.length_map, List.length_take, sizeLine_is]; simp; omega), ?_⟩
    rw [e1]
    refine ⟨Nat.le_trans (Nat.add_le_add (Nat.le_refl _) (Nat.le_of_eq (congrArg List.length e2))) (by rw [List.length_append, List.length_map, List.length_map, List.length_take, List.length_drop, sizeLine_is]; simp; omega), ?_⟩
    rw [e2]
    have := h (L.take o ++ [L[q]] ++ L.drop o) (by rw [List.length_append, List.length_append, List.length_take, List.length_drop, List.length_singleton]; omega) (fun m hm' => by
      rcases List.mem_append.mp hm' with hm' | hm'
      · rcases List.mem_append.mp hm' with hm' | hm'
        · exact hm m (List.mem_of_mem_take hm')
        · rw [List.mem_singleton.mp hm']; exact hmq
      · exact hm m (List.mem_of_mem_drop hm')) _ rfl
    rw [List.map_append, List.map_append] at this
    exact this
  · rename_i a0 _ _ x _ hne b0 _ _ c0 _ _ d0 _ _ _ f0 _ _ _ g0 _ _ _
    have hne : L.length ≠ 0 := by rw [List.length_map] at hne; omega
    have b5 := ix hne b0
    obtain ⟨o, eo⟩ := Int.eq_ofNat_of_zero_le b5.1
    rw [eo] at b5 ⊢
    have b6 := ix hne ((o : Int) + 1 + c0 % (if (((L.map Fm.enc).length : Nat) : Int) - 1 > 1 then (((L.map Fm.enc).length : Nat) : Int) - 1 else 1))
    obtain ⟨q, eq⟩ := Int.eq_ofNat_of_zero_le b6.1
    rw [eq] at b6 ⊢
    have ho : o < L.length := by omega
    have hq : q < L.length := by omega
    have hmo := hm _ (List.getElem_mem ho)
    have hmq := hm _ (List.getElem_mem hq)
    array_mem_dec
    refine ifSome.of (set_at ho (.at x)) ?_
    array_mem_dec
    exact h (L.set o (.at x)) (by rw [List.length_set]; omega) (set_nest hm (Nat.zero_le _)) _ rfl
end K45
set_option maxHeartbeats 4000000
namespace K45
open N1
open PySem (Str sizeLine)
local macro_rules
  | `(tactic| sizeOf_list_dec) => `(tactic| first
    | assumption | omega | exact ⟨by omega, by omega⟩
    | exact cmul_l (by omega) (by omega) | exact cmul_r (by omega) (by omega)
    | exact fit_strs _ _ | exact fit_ints _ _ | exact Fm.fit _ (by omega)
    | exact emod_lo (by omega) | exact emod_hi (by omega) | exact mod_pos (by assumption)
    | (simp only [List.length_map, List.length_append, List.length_cons, List.length_nil, List.length_replicate, sizeLine_is]; first | done | omega | exact ⟨by omega, by omega⟩)
    | rfl | decide)
local macro_rules
  | `(tactic| and_intros) => `(tactic| repeat' (first
    | refine And.intro (by sizeOf_list_dec) ?_
    | refine Br.yes rfl ?_
    | refine Br.no rfl ?_
    | refine Br.is (by first | rfl | assumption | omega) ?_
    | refine Br.isnt (by first | assumption | exact k_not_atom | exact k_kd_atom _ | exact k_kd_not _ | exact k_atom_not | exact k_sa | exact k_as | omega) ?_
    | refine Br.notis (by first | assumption | exact k_not_atom | exact k_kd_atom _ | exact k_kd_not _ | exact k_atom_not | exact k_sa | exact k_as | omega) ?_
    | refine Br.notisnt (by first | rfl | assumption | omega) ?_
    | array_get_dec
    | (refine ixDg (i := 0) (by assumption) rfl rfl ?_; intro _ _ _)
    | (refine ixDg (i := 1) (by assumption) rfl rfl ?_; intro _ _ _)
    | (refine ixDg (i := 2) (by assumption) rfl rfl ?_; intro _ _ _)
    | (refine ixDg (i := 3) (by assumption) rfl rfl ?_; intro _ _ _)
    | (refine ixW rfl ?_
       first
       | refine ixB 26 36 (by decide) (by sizeOf_list_dec) (by sizeOf_list_dec) ?_
       | refine ixB 0 1 (by decide) (by sizeOf_list_dec) (by sizeOf_list_dec) ?_
       | refine ixB 1 2 (by decide) (by sizeOf_list_dec) (by sizeOf_list_dec) ?_
       | refine ixB 0 2 (by decide) (by sizeOf_list_dec) (by sizeOf_list_dec) ?_
       | refine ixB 1 3 (by decide) (by sizeOf_list_dec) (by sizeOf_list_dec) ?_
       | refine ixB 0 3 (by decide) (by sizeOf_list_dec) (by sizeOf_list_dec) ?_
       | refine ixB 1 4 (by decide) (by sizeOf_list_dec) (by sizeOf_list_dec) ?_
       | refine ixB 0 4 (by decide) (by sizeOf_list_dec) (by sizeOf_list_dec) ?_
       | refine ixB 0 5 (by decide) (by sizeOf_list_dec) (by sizeOf_list_dec) ?_
       | refine ixB 1 6 (by decide) (by sizeOf_list_dec) (by sizeOf_list_dec) ?_
       | refine ixB 1 8 (by decide) (by sizeOf_list_dec) (by sizeOf_list_dec) ?_
       | refine ixB 0 7 (by decide) (by sizeOf_list_dec) (by sizeOf_list_dec) ?_
       | refine ixB 0 12 (by decide) (by sizeOf_list_dec) (by sizeOf_list_dec) ?_
       | refine ixB 0 60 (by decide) (by sizeOf_list_dec) (by sizeOf_list_dec) ?_
       intro _ _ _)
    | (refine ixKd (by sizeOf_list_dec) (by sizeOf_list_dec) ?_; intro _)
    | (refine ixMod (by assumption) ?_; intro _ _)
    | (refine let36 (by sizeOf_list_dec) (by sizeOf_list_dec) ?_; intro _)
    | refine Br.of (fun _ => ?_) (fun _ => ?_)
    | refine Br.ofNot (fun _ => ?_) (fun _ => ?_)
    | refine Br.mk (fun _ => ?_) (fun _ => ?_)))
local macro_rules
  | `(tactic| array_mem_dec) => `(tactic| try dsimp only [putF, putS, setSlot, putAll, wipeT, ownOf, slotAt, startT, slotsFrom, nones, List.cons_append, List.nil_append, List.length_cons, List.length_nil, Nat.reduceAdd, Nat.reduceSub, Nat.zero_add, Nat.sub_self, Nat.add_sub_cancel])

theorem lad_nest {ms : List Fm} (h : ∀ m ∈ ms, Ok1 8 m) (hl : ms.length ≤ 5) : ∀ m ∈ lad ms, Ok1 19 m := fun m hm => by
  obtain ⟨k, _, rfl⟩ := List.mem_map.mp hm
  exact (P_ok1 h ms.length (k + 1)).mono (by omega)
theorem isI_nats (n : Nat) (ks : List Nat) (hl : ks.length ≤ 1000000) : isI (n + 1) (encN ks) = true := by
  refine isI_tup.mpr ⟨by rw [List.length_map]; exact hl, fun t ht => ?_⟩
  obtain ⟨k, _, rfl⟩ := List.mem_map.mp ht
  cases n <;> rfl
theorem isI_ws (W : List (List Str)) (hW : W.length ≤ 64) (hw : ∀ w ∈ W, w.length ≤ 10) : isI 2 (.tup (W.map encW)) = true := by
  refine isI_tup.mpr ⟨by rw [List.length_map]; omega, fun t ht => ?_⟩
  obtain ⟨w, hwm, rfl⟩ := List.mem_map.mp ht
  refine isI_tup.mpr ⟨by rw [List.length_map]; have := hw w hwm; omega, fun t ht => ?_⟩
  obtain ⟨y, _, rfl⟩ := List.mem_map.mp ht
  rfl
theorem wk_len (cs : List Cl) {names : List Str} (hn : names.length ≤ 6) : (wk cs names).length ≤ 64 ∧ ∀ w ∈ wk cs names, w.length ≤ 10 := by
  have h1 : (wk cs names).length ≤ (wld names).length := List.length_filter_le _ _
  have h2 : 2 ^ names.length ≤ 2 ^ 6 := Nat.pow_le_pow_right (by decide) hn
  rw [wld_len] at h1
  exact ⟨by omega, fun w hw => by have := wld_mem w (List.mem_filter.mp hw).1; omega⟩
theorem levels_ok (cs : List Cl) (names : List Str) (hn : names.length ≤ 6) (hc : ∀ c ∈ cs, c.Nq 4) (ms : List Fm) (hl : ms.length ≤ 5) (hk : ∀ m ∈ ms, Ok1 8 m) (N : Nat) (hN : 50 < N) {t t1 t2 t3 t4 : T}
    (et : t = .tup (cs.map encC)) (et1 : t1 = .tup (names.map .str)) (et2 : t2 = .lst ((wk cs names).map encW)) (et3 : t3 = .tup (ms.map Fm.enc)) (et4 : t4 = .tup ((lad ms).map Fm.enc)) {R : Tok → List (List T) → Prop} (h : R (.v (.bl true)) []) : sem N .law_levels [.v t, .v t1, .v t2, .v t3, .v t4] R := by
  subst et; subst et1; subst et2; subst et3; subst et4
  obtain ⟨N, rfl⟩ : ∃ M, N = M + 1 := ⟨N - 1, by omega⟩
  obtain ⟨hWl, hWw⟩ := wk_len cs hn
  have hlad := lad_nest hk hl
  have hlm : ((ms.map Fm.enc).length : Int) = ms.length := by rw [List.length_map]
  refine ⟨rfl, ?_⟩
  array_mem_dec
  and_intros
  array_mem_dec
  refine range_s [] [6, 7, 8, 9, 10] (fun i vs => vs = []) [] rfl rfl (fun k hk0 vs xs hi K hK => ?_) (fun vs xs hi => ?_)
  · subst hi
    have hk0 : k ≤ ms.length := by omega
    array_mem_dec
    dsimp only [putF, putS, setSlot] at hK
    refine lc_filter encW encW (fun w => decide (cn ms w = k)) (wk cs names) rfl (fun s => rfl) (fun w hw K hK => ?_) (fun w hw hp K hK => ?_) ?_
    · and_intros
      refine count_ok ms 8 (fun m hm => (hk m hm).1) w N (by omega) ?_
      have : decide (((cn ms w : Nat) : Int) = 0 + (k : Int)) = decide (cn ms w = k) := decide_eq_decide.mpr ⟨fun h => by omega, fun h => by omega⟩
      show K _ _
      rw [this]
      exact hK
    · exact hK
    · array_mem_dec
      and_intros
      refine leaf_worlds_ok cs names (by omega) [lad ms] (by show 1 ≤ 3; decide) (fun L hL => by rw [List.mem_singleton.mp hL, lad_length]; omega) [k] 19 (fun c h m hm => by have := hc c h m hm; omega) (fun L hL m hm => by rw [List.mem_singleton.mp hL] at hm; exact (hlad m hm).1) N (by omega) rfl rfl rfl (by rw [encN, List.map_singleton, Int.zero_add]) ?_
      have hst : (wk cs names).filter (stW [lad ms] [k]) = (wk cs names).filter fun w => decide (cn ms w = k) := by
        refine List.filter_congr fun w _ => ?_
        rw [lotW_stW [] _ (by rw [lad_length]; omega), lvP_lad ms w hk0]
      rw [hst]
      have hsub : ((wk cs names).filter fun w => decide (cn ms w = k)).length ≤ 64 := Nat.le_trans (List.length_filter_le _ _) hWl
      have hsubw : ∀ w ∈ (wk cs names).filter fun w => decide (cn ms w = k), w.length ≤ 10 := fun w hw => hWw w (List.mem_filter.mp hw).1
      have hcnt : ∀ w ∈ (wk cs names).filter fun w => decide (cn ms w = k), cn ms w = k := fun w hw => of_decide_eq_true (List.mem_filter.mp hw).2
      generalize ((wk cs names).filter fun w => decide (cn ms w = k)) = lot at hsub hsubw hcnt ⊢
      and_intros
      refine same_ok 2 _ (isI_ws lot hsub hsubw) N (by omega) rfl ?_
      refine Br.no rfl ?_
      array_mem_dec
      refine ⟨⟨by omega, by omega⟩, ?_⟩
      array_mem_dec
      refine range_s [7] [8, 9, 10] (fun i vs => ∃ s : Slot, vs = [some s] ∧ (s = .own (lot.map encW) ∨ s = .val (.lst (lot.map encW)))) [_] rfl ⟨_, rfl, .inl rfl⟩ (fun i hi vs xs hI K2 hK2 => ?_) (fun vs xs hI => ?_)
      · obtain ⟨s, rfl, hs⟩ := hI
        have hi : i < ms.length := by omega
        obtain ⟨d, ed⟩ : ∃ d, ms.length = i + 1 + d := ⟨ms.length - i - 1, by omega⟩
        rcases hs with rfl | rfl
        all_goals
          array_mem_dec
          dsimp only [putF, putS, setSlot] at hK2
          and_intros
          refine others_ok ms i d k N (by omega) (by omega) (by omega) (by rw [hlm, ← ed]) (by omega) ?_
          array_mem_dec
          and_intros
          refine q_ok ms i d k N (by omega) (by omega) (by omega) (by rw [hlm, ← ed]) (by omega) ?_
          and_intros
          refine same_ok 39 _ (isL_I _ _ ((Q_ok1 hk i d k).isL 39 (by omega))) N (by omega) rfl ?_
          refine Br.no rfl ?_
          array_mem_dec
          have hq := (Q_ok1 hk i d k).1
          have hdiff : ∀ w ∈ lot, onW w (Q ms i d k) = !(onW w (ms.getD i (.at default))) := fun w hw => by
            have h1 := Q_on (fun x => decide (x ∈ w)) ms i d k (by omega)
            have h2 : cnt (fun x => decide (x ∈ w)) ms (i + 1 + d) = k := by
              rw [← ed]
              exact hcnt w hw
            rw [h2] at h1
            show Fm.on _ _ = _
            rw [h1]
            show _ = !(Fm.on (fun x => decide (x ∈ w)) (ms.getD i (.at default)))
            cases Fm.on (fun x => decide (x ∈ w)) (ms.getD i (.at default)) with
            | true => exact decide_eq_false (by simp)
            | false => exact decide_eq_true (by simp)
          refine for_s (e := encW) [] [10] (fun pre vs => vs = []) lot rfl [] rfl rfl (fun pre w post e vs xs hI K3 hK3 => ?_) (fun vs xs hI => ?_)
          · subst hI
            have hwm : w ∈ lot := by rw [e]; simp
            array_mem_dec
            dsimp only [putF, putS, setSlot] at hK3
            and_intros
            refine on_ok w (Q ms i d k) N (by omega) ?_
            array_mem_dec
            refine ifSome.of (by rw [Int.zero_add]; exact getD_at hi) ?_
            array_mem_dec
            and_intros
            refine on_ok w (ms.getD i (.at default)) N (by have := (getD_ok hk i).1; omega) ?_
            have hd := hdiff w hwm
            refine Br.isnt ?_ ?_
            · intro z
              have z : onW w (Q ms i d k) = onW w (ms.getD i (.at default)) := z
              rw [hd] at z
              cases q : onW w (ms.getD i (.at default)) <;> rw [q] at z <;> cases z
            · show K3 _
              array_mem_dec
              exact hK3 _ [] rfl rfl
          · subst hI
            array_mem_dec
            exact hK2 _ [_] rfl ⟨_, rfl, .inr rfl⟩
      · obtain ⟨s, rfl, hs⟩ := hI
        array_mem_dec
        exact hK _ [] rfl rfl
  · subst hi
    array_mem_dec
    and_intros
    refine leaves_of_ok [lad ms] (by show 1 ≤ 3; decide) (fun L hL => by rw [List.mem_singleton.mp hL, lad_length]; omega) N (by omega) rfl ?_
    rw [lvs_one, lad_length, List.map_map]
    array_mem_dec
    refine ⟨⟨by omega, by omega⟩, ?_⟩
    array_mem_dec
    refine lc_over (fun k : Nat => .int (0 + (k : Int))) (fun k : Nat => .tup [.int (0 + (k : Int))]) (List.range (ms.length + 1)) ?_ (fun s => rfl) (fun k hk K hK => ?_) ?_
    · rw [intsFrom_map, hlm, show ((ms.length : Int) + 1).toNat = ms.length + 1 by omega]
    · exact ⟨rfl, hK⟩
    · rw [show ((List.range (ms.length + 1)).map fun k : Nat => T.tup [.int (0 + (k : Int))]) = (List.range (ms.length + 1)).map (encN ∘ fun k => [k]) from List.map_congr_left fun k _ => by show T.tup [.int (0 + (k : Int))] = T.tup [.int (k : Int)]; rw [Int.zero_add]]
      array_mem_dec
      and_intros
      refine same_ok 3 _ (isI_tup.mpr ⟨by rw [List.length_map, List.length_range]; omega, fun t ht => ?_⟩) N (by omega) rfl h
      obtain ⟨k, _, rfl⟩ := List.mem_map.mp ht
      exact isI_nats 1 [k] (by show 1 ≤ 1000000; decide)
end K45
set_option maxHeartbeats 4000000
namespace K45
open N1
open PySem (Str sizeLine)
local macro_rules
  | `(tactic| sizeOf_list_dec) => `(tactic| first
    | assumption | omega | exact ⟨by omega, by omega⟩
    | exact cmul_l (by omega) (by omega) | exact cmul_r (by omega) (by omega)
    | exact fit_strs _ _ | exact fit_ints _ _ | exact Fm.fit _ (by omega)
    | exact emod_lo (by omega) | exact emod_hi (by omega) | exact mod_pos (by assumption)
    | (simp only [List.length_map, List.length_append, List.length_cons, List.length_nil, List.length_replicate, sizeLine_is]; first | done | omega | exact ⟨by omega, by omega⟩)
    | rfl | decide)
local macro_rules
  | `(tactic| and_intros) => `(tactic| repeat' (first
    | refine And.intro (by sizeOf_list_dec) ?_
    | refine Br.yes rfl ?_
    | refine Br.no rfl ?_
    | refine Br.is (by first | rfl | assumption | omega) ?_
    | refine Br.isnt (by first | assumption | exact k_not_atom | exact k_kd_atom _ | exact k_kd_not _ | exact k_atom_not | exact k_sa | exact k_as | omega) ?_
    | refine Br.notis (by first | assumption | exact k_not_atom | exact k_kd_atom _ | exact k_kd_not _ | exact k_atom_not | exact k_sa | exact k_as | omega) ?_
    | refine Br.notisnt (by first | rfl | assumption | omega) ?_
    | array_get_dec
    | (refine ixDg (i := 0) (by assumption) rfl rfl ?_; intro _ _ _)
    | (refine ixDg (i := 1) (by assumption) rfl rfl ?_; intro _ _ _)
    | (refine ixDg (i := 2) (by assumption) rfl rfl ?_; intro _ _ _)
    | (refine ixDg (i := 3) (by assumption) rfl rfl ?_; intro _ _ _)
    | (refine ixW rfl ?_
       first
       | refine ixB 26 36 (by decide) (by sizeOf_list_dec) (by sizeOf_list_dec) ?_
       | refine ixB 0 1 (by decide) (by sizeOf_list_dec) (by sizeOf_list_dec) ?_
       | refine ixB 1 2 (by decide) (by sizeOf_list_dec) (by sizeOf_list_dec) ?_
       | refine ixB 0 2 (by decide) (by sizeOf_list_dec) (by sizeOf_list_dec) ?_
       | refine ixB 1 3 (by decide) (by sizeOf_list_dec) (by sizeOf_list_dec) ?_
       | refine ixB 0 3 (by decide) (by sizeOf_list_dec) (by sizeOf_list_dec) ?_
       | refine ixB 1 4 (by decide) (by sizeOf_list_dec) (by sizeOf_list_dec) ?_
       | refine ixB 0 4 (by decide) (by sizeOf_list_dec) (by sizeOf_list_dec) ?_
       | refine ixB 0 5 (by decide) (by sizeOf_list_dec) (by sizeOf_list_dec) ?_
       | refine ixB 1 6 (by decide) (by sizeOf_list_dec) (by sizeOf_list_dec) ?_
       | refine ixB 1 8 (by decide) (by sizeOf_list_dec) (by sizeOf_list_dec) ?_
       | refine ixB 0 7 (by decide) (by sizeOf_list_dec) (by sizeOf_list_dec) ?_
       | refine ixB 0 12 (by decide) (by sizeOf_list_dec) (by sizeOf_list_dec) ?_
       | refine ixB 0 60 (by decide) (by sizeOf_list_dec) (by sizeOf_list_dec) ?_
       intro _ _ _)
    | (refine ixKd (by sizeOf_list_dec) (by sizeOf_list_dec) ?_; intro _)
    | (refine ixMod (by assumption) ?_; intro _ _)
    | (refine let36 (by sizeOf_list_dec) (by sizeOf_list_dec) ?_; intro _)
    | refine Br.of (fun _ => ?_) (fun _ => ?_)
    | refine Br.ofNot (fun _ => ?_) (fun _ => ?_)
    | refine Br.mk (fun _ => ?_) (fun _ => ?_)))
local macro_rules
  | `(tactic| array_mem_dec) => `(tactic| try dsimp only [putF, putS, setSlot, putAll, wipeT, ownOf, slotAt, startT, slotsFrom, nones, List.cons_append, List.nil_append, List.length_cons, List.length_nil, Nat.reduceAdd, Nat.reduceSub, Nat.zero_add, Nat.sub_self, Nat.add_sub_cancel])

local macro_rules
  | `(tactic| array_get_dec) => `(tactic| (refine cell_ok _ (by omega) (by assumption) (by assumption) (by omega) ?_; intro _; array_mem_dec))
theorem gW_len {W : List (List Str)} (h : ∀ w ∈ W, w.length ≤ 10) (a : Nat) : (gW W a).length ≤ 10 := by
  by_cases hi : a < W.length
  · have e : gW W a = W[a] := by simp [gW, List.getD, hi]
    rw [e]
    exact h _ (List.getElem_mem hi)
  · have e : gW W a = [] := by simp [gW, List.getD, hi]
    rw [e]
    exact Nat.zero_le _
theorem isI_w {w : List Str} (h : w.length ≤ 10) : isI 1 (encW w) = true := by
  refine isI_tup.mpr ⟨by rw [List.length_map]; omega, fun t ht => ?_⟩
  obtain ⟨y, _, rfl⟩ := List.mem_map.mp ht
  rfl
theorem lmisT_ok {W : List (List Str)} (h : ∀ w ∈ W, w.length ≤ 10) (F L : List Fm) : lmisT (lmis W F L) = .non ∨ isI 2 (lmisT (lmis W F L)) = true := by
  cases hq : lmis W F L with
  | none => exact .inl rfl
  | some p =>
    right
    obtain ⟨l, hl, e⟩ := List.exists_of_findSome?_eq_some hq
    cases hm : mis2 (lotW W L l) F with
    | none => rw [hm] at e; cases e
    | some q =>
      rw [hm] at e
      cases e
      have hw : ∀ w ∈ lotW W L l, w.length ≤ 10 := fun w hw => h w (List.mem_filter.mp hw).1
      refine isI_tup.mpr ⟨by show 3 ≤ 1000000; decide, fun t ht => ?_⟩
      simp only [List.mem_cons, List.not_mem_nil, or_false] at ht
      rcases ht with rfl | rfl | rfl
      · exact isI_nats 0 [l] (by show 1 ≤ 1000000; decide)
      · exact isI_w (gW_len hw _)
      · exact isI_w (gW_len hw _)
theorem lad_isL (ms : List Fm) (hl : ms.length ≤ 5) (hk : ∀ m ∈ ms, Ok1 8 m) : T.isL 40 (.tup ((lad ms).map Fm.enc)) = true := by
  rw [T.isL_tup]
  refine ⟨by rw [List.length_map, lad, List.length_map, List.length_range]; omega, fun t ht => ?_⟩
  obtain ⟨m, hm, rfl⟩ := List.mem_map.mp ht
  obtain ⟨k, _, rfl⟩ := List.mem_map.mp hm
  exact (P_ok1 hk ms.length (k + 1)).isL 39 (by omega)
abbrev depth : Nat := 90
theorem law_all (ns : List Int) (hn : ns.length ≤ 63) (sc : T) (hsc : sc = .lsk (ns.map .int) ∨ sc = .lst (ns.map .int)) : sem depth .law [.v sc] fun tk _ => tk = .v (.bl true) := by
  obtain ⟨N, hN⟩ : ∃ N : Nat, depth = N + 1 := ⟨89, rfl⟩
  have hN : N = 89 := by show N = 89; have : (90 : Nat) = N + 1 := hN; omega
  subst hN
  show sem (89 + 1) .law [.v sc] _
  have hN : 70 < 89 := by decide
  generalize 89 = N at hN
  refine ⟨rfl, ?_⟩
  array_mem_dec
  and_intros
  refine named_ok N (by omega) fun xs ts ets hx0 hx4 hx8 hnd => ?_
  subst ets
  array_mem_dec
  and_intros
  refine spots_ok hsc hn hx0 N (by omega) fun ms hl hms => ?_
  have hk : ∀ m ∈ ms, Ok1 8 m := fun m hm => ⟨(hms m hm).2.1, (hms m hm).2.2.2⟩
  have hpos : ∀ m ∈ ms, Fm.pos m = true := fun m hm => (hms m hm).2.2.1
  have J0 : ∀ cs : List Cl, (∀ c ∈ cs, c.Nq 4) → rd_law_J0 (sem N) { nx := fun τ => retK (pioFrom 0 [false]) (fun tk x => tk = Tok.v (T.bl true)) (Tok.v T.non) τ, rt := retK (pioFrom 0 [false]) (fun tk x => tk = Tok.v (T.bl true)) } [some (.val sc), some (.val (.tup (xs.map .str))), some (.val (.tup (ms.map Fm.enc))), some (.val (.tup (cs.map encC))), some (.own ((wk cs xs).map encW)), none, none, none, none, none, none] := by
    intro cs hcs
    obtain ⟨hWl, hWw⟩ := wk_len cs (names := xs) (by omega)
    and_intros
    refine ladder_ok ms (by omega) N (by omega) ?_
    array_mem_dec
    and_intros
    refine lc_over (fun k : Nat => .int (0 + k)) (fun k => Fm.enc (P ms ms.length (k + 1))) (List.range ms.length) ?_ (fun s => rfl) (fun x hx K hK => ?_) ?_
    · rw [intsFrom_map]
      congr 2 <;> simp
    · and_intros
      exact p_ok ms _ _ N (by omega) (Nat.le_refl _) (by simp) (by omega) hK
    have elad : ((List.range ms.length).map fun k => Fm.enc (P ms ms.length (k + 1))) = (lad ms).map Fm.enc := by
      rw [lad, List.map_map]; rfl
    have hlad := lad_nest hk hl
    rw [elad]
    and_intros
    refine same_ok 40 _ (isL_I _ _ (lad_isL ms hl hk)) N (by omega) rfl ?_
    refine Br.no rfl ?_
    array_mem_dec
    and_intros
    refine levels_ok cs xs (by omega) hcs ms hl hk N (by omega) rfl rfl rfl rfl rfl ?_
    refine Br.no rfl ?_
    array_mem_dec
    and_intros
    array_mem_dec
    have lenL : ∀ L ∈ [lad ms], L.length ≤ 9 := fun L hL => by rw [List.mem_singleton.mp hL, lad_length]; omega
    have nestL : ∀ L ∈ [lad ms], ∀ m ∈ L, Fm.nest m ≤ 24 := fun L hL m hm => by
      rw [List.mem_singleton.mp hL] at hm
      have := (hlad m hm).1
      omega
    have hc24 : ∀ c ∈ cs, c.Nq 24 := fun c h m hm => by have := hcs c h m hm; omega
    refine range_s [6] [7] (fun i vs => ∃ F : List Fm, vs = [some (.own (F.map Fm.enc))] ∧ F.length ≤ 5 + i ∧ ∀ m ∈ F, Dep ms m ∧ Fm.nest m ≤ 12) [_] rfl ⟨ms, rfl, by omega, fun m hm => ⟨.mem hm, by have := (hk m hm).1; omega⟩⟩ (fun i hi vs w hI K hK => ?_) (fun vs w hI => ?_)
    · obtain ⟨F, rfl, hFl, hF⟩ := hI
      have hm0 : 0 < ms.length := by
        rw [List.length_map] at hi
        split at hi <;> omega
      have hi2 : i < 2 := by
        split at hi <;> omega
      array_mem_dec
      dsimp only [putF, putS, setSlot] at hK
      and_intros
      refine bent_ok ms hm0 8 (fun m hm => (hk m hm).1) N (by omega) rfl fun m hd hmn t et => ?_
      subst et
      array_mem_dec
      and_intros
      exact hK _ [_] rfl ⟨F ++ [m], by rw [List.map_append]; rfl, by rw [List.length_append, List.length_singleton]; omega, snoc_all hF ⟨hd, hmn⟩⟩
    · obtain ⟨F, rfl, hFl, hF⟩ := hI
      have hFl : F.length ≤ 7 := by
        split at hFl <;> omega
      have hFd : ∀ m ∈ F, Dep ms m := fun m hm => (hF m hm).1
      have hFn : ∀ m ∈ F, Fm.nest m ≤ 24 := fun m hm => by have := (hF m hm).2; omega
      array_mem_dec
      and_intros
      refine find_misfit_ok cs xs (by omega) [lad ms] (by show 1 ≤ 3; decide) lenL ms 24 hc24 nestL (fun m hm => by have := (hk m hm).1; omega) N (by omega) rfl rfl rfl rfl rfl ?_
      rw [no_misfit _ [lad ms] lenL ms hpos List.mem_cons_self ms fun m hm => .mem hm]
      refine Br.no rfl ?_
      array_mem_dec
      and_intros
      refine find_misfit_ok cs xs (by omega) [lad ms] (by show 1 ≤ 3; decide) lenL F 24 hc24 nestL hFn N (by omega) rfl rfl rfl rfl rfl ?_
      rw [no_misfit _ [lad ms] lenL ms hpos List.mem_cons_self F hFd]
      refine Br.no rfl ?_
      array_mem_dec
      and_intros
      refine digits_ok N (by omega) [8, 60, 60, 60, 60] rfl (by decide) (by decide) fun dg hdg => ?_
      array_mem_dec
      and_intros
      refine spoilt_ok (lad ms) (by rw [lad_length]; omega) 24 (nestL _ List.mem_cons_self) hdg hx0 N (by omega) rfl rfl rfl fun S hSl hSn t et => ?_
      subst et
      array_mem_dec
      and_intros
      have lenS : ∀ L ∈ [S, lad ms], L.length ≤ 9 := fun L hL => by
        rcases List.mem_cons.mp hL with rfl | hL
        · omega
        · exact lenL L hL
      have nestS : ∀ L ∈ [S, lad ms], ∀ m ∈ L, Fm.nest m ≤ 24 := fun L hL => by
        rcases List.mem_cons.mp hL with rfl | hL
        · exact hSn
        · exact nestL L hL
      refine find_misfit_ok cs xs (by omega) [S, lad ms] (by show 2 ≤ 3; decide) lenS F 24 hc24 nestS hFn N (by omega) rfl rfl rfl rfl rfl ?_
      rw [no_misfit _ [S, lad ms] lenS ms hpos (List.mem_cons_of_mem _ List.mem_cons_self) F hFd]
      refine Br.no rfl ?_
      array_mem_dec
      refine ixDg (i := 4) hdg rfl rfl ?_
      intro v v0 v1
      refine ⟨by split <;> omega, ?_⟩
      obtain ⟨o, eo⟩ : ∃ o : Nat, v % (if ((F.map Fm.enc).length : Int) > 1 then ((F.map Fm.enc).length : Int) else 1) = (o : Int) := ⟨_, (Int.toNat_of_nonneg (Int.emod_nonneg _ (by split <;> omega))).symm⟩
      rw [eo]
      and_intros
      rw [sl_suf o rfl]
      have hDn : ∀ m ∈ F.drop o, Fm.nest m ≤ 24 := fun m hm => hFn m (List.mem_of_mem_drop hm)
      array_mem_dec
      and_intros
      refine find_misfit_ok cs xs (by omega) [S] (by show 1 ≤ 3; decide) (fun L hL => by rw [List.mem_singleton.mp hL]; exact (by omega)) (F.drop o) 24 hc24 (fun L hL m hm => by rw [List.mem_singleton.mp hL] at hm; exact hSn m hm) hDn N (by omega) rfl rfl rfl rfl rfl ?_
      rw [find_same (wk_asn cs xs) hnd (F.drop o) S]
      array_mem_dec
      and_intros
      refine law_misfit_ok (wk cs xs) hWl S (F.drop o) ((by omega)) 24 hSn hDn N (by omega) rfl rfl rfl ?_
      and_intros
      refine told_ok 2 _ (lmisT_ok hWw (F.drop o) S) N (by omega) rfl ?_
      refine Br.no rfl ?_
      array_mem_dec
      and_intros
      rename_i y _
      refine ⟨by rw [List.length_map, List.length_drop, sizeLine_is]; simp; omega, ?_⟩
      rw [show (F.drop o).map Fm.enc ++ [T.tup [.str (Str.ofString "atom"), .str y]] = (F.drop o ++ [Fm.at y]).map Fm.enc by rw [List.map_append]; rfl]
      obtain ⟨F3, eF3⟩ : ∃ F3, F3 = F.drop o ++ [Fm.at y] := ⟨_, rfl⟩
      rw [← eF3]
      have hF3n : ∀ m ∈ F3, Fm.nest m ≤ 24 := fun m hm => by
        rw [eF3] at hm
        rcases List.mem_append.mp hm with hm | hm
        · exact hDn m hm
        · rw [List.mem_singleton.mp hm]; exact Nat.zero_le _
      array_mem_dec
      and_intros
      array_mem_dec
      refine for_s (e := fun L : List Fm => T.tup (L.map Fm.enc)) [6] [10] (fun pre vs => ∃ s : Slot, vs = [some s] ∧ (s = .own (F3.map Fm.enc) ∨ s = .val (.lst (F3.map Fm.enc)))) [S, lad ms] rfl [_] rfl ⟨_, rfl, .inl rfl⟩ (fun pre L post e vs w hI K hK => ?_) (fun vs w hI => ?_)
      · obtain ⟨s, rfl, hs⟩ := hI
        have hLm : L ∈ [S, lad ms] := by rw [e]; simp
        have hLl := lenS L hLm
        have hLn := nestS L hLm
        rcases hs with rfl | rfl
        all_goals
          array_mem_dec
          dsimp only [putF, putS, setSlot] at hK
          and_intros
          refine find_misfit_ok cs xs (by omega) [L] (by show 1 ≤ 3; decide) (fun L hL => by rw [List.mem_singleton.mp hL]; exact hLl) F3 24 hc24 (fun L hL m hm => by rw [List.mem_singleton.mp hL] at hm; exact hLn m hm) hF3n N (by omega) rfl rfl rfl rfl rfl ?_
          rw [find_same (wk_asn cs xs) hnd F3 L]
          array_mem_dec
          and_intros
          refine law_misfit_ok (wk cs xs) hWl L F3 (hLl) 24 hLn hF3n N (by omega) rfl rfl rfl ?_
          and_intros
          refine told_ok 2 _ (lmisT_ok hWw F3 L) N (by omega) rfl ?_
          refine Br.no rfl ?_
          array_mem_dec
          exact hK _ [_] rfl ⟨_, rfl, .inr rfl⟩
      · obtain ⟨s, rfl, hs⟩ := hI
        array_mem_dec
        exact (rfl : Tok.v (T.bl true) = Tok.v (T.bl true))
  revert J0
  generalize rd_law_J0 (sem N) = J
  intro J0
  array_mem_dec
  and_intros
  refine book_ok hx0 N (by omega) rfl fun cs hcs t et => ?_
  subst et
  array_mem_dec
  and_intros
  refine lworlds_ok cs xs (by omega) 4 hcs N (by omega) rfl rfl ?_
  array_mem_dec
  and_intros
  · refine lworlds_ok [] xs (by omega) 4 (fun c h => by cases h) N (by omega) rfl rfl ?_
    exact J0 [] fun c h => by cases h
  · exact J0 cs hcs
end K45
namespace K45
open PySem PySem.Spec PyProof.Rows L2 N1
/-! the walk -/
def dD_law : He.DefD := ⟨("law", none), "law", "law", defArgs s_law, defBody s_law, defScope s_law, [], []⟩
def dD_law_named : He.DefD := ⟨("_law_named", none), "_law_named", "_law_named", defArgs s_law_named, defBody s_law_named, defScope s_law_named, [], []⟩
def dD_law_cell : He.DefD := ⟨("_law_cell", none), "_law_cell", "_law_cell", defArgs s_law_cell, defBody s_law_cell, defScope s_law_cell, [], []⟩
def dD_law_spots : He.DefD := ⟨("_law_spots", none), "_law_spots", "_law_spots", defArgs s_law_spots, defBody s_law_spots, defScope s_law_spots, [], []⟩
def dD_law_book : He.DefD := ⟨("_law_book", none), "_law_book", "_law_book", defArgs s_law_book, defBody s_law_book, defScope s_law_book, [], []⟩
def dD_law_worlds : He.DefD := ⟨("_law_worlds", none), "_law_worlds", "_law_worlds", defArgs s_law_worlds, defBody s_law_worlds, defScope s_law_worlds, [], []⟩
def dD_count_ladder : He.DefD := ⟨("count_ladder", none), "count_ladder", "count_ladder", defArgs s_count_ladder, defBody s_count_ladder, defScope s_count_ladder, [], []⟩
def dD_law_same : He.DefD := ⟨("_law_same", none), "_law_same", "_law_same", defArgs s_law_same, defBody s_law_same, defScope s_law_same, [], []⟩
def dD_law_p : He.DefD := ⟨("_law_p", none), "_law_p", "_law_p", defArgs s_law_p, defBody s_law_p, defScope s_law_p, [], []⟩
def dD_law_levels : He.DefD := ⟨("_law_levels", none), "_law_levels", "_law_levels", defArgs s_law_levels, defBody s_law_levels, defScope s_law_levels, [], []⟩
def dD_law_bent : He.DefD := ⟨("_law_bent", none), "_law_bent", "_law_bent", defArgs s_law_bent, defBody s_law_bent, defScope s_law_bent, [], []⟩
def dD_find_misfit : He.DefD := ⟨("find_misfit", none), "find_misfit", "find_misfit", defArgs s_find_misfit, defBody s_find_misfit, defScope s_find_misfit, [.adr (He.dflAt ("find_misfit", none) 0)], []⟩
def dD_law_digits : He.DefD := ⟨("_law_digits", none), "_law_digits", "_law_digits", defArgs s_law_digits, defBody s_law_digits, defScope s_law_digits, [], []⟩
def dD_law_spoilt : He.DefD := ⟨("_law_spoilt", none), "_law_spoilt", "_law_spoilt", defArgs s_law_spoilt, defBody s_law_spoilt, defScope s_law_spoilt, [], []⟩
def dD_law_told : He.DefD := ⟨("_law_told", none), "_law_told", "_law_told", defArgs s_law_told, defBody s_law_told, defScope s_law_told, [], []⟩
def dD_law_misfit : He.DefD := ⟨("_law_misfit", none), "_law_misfit", "_law_misfit", defArgs s_law_misfit, defBody s_law_misfit, defScope s_law_misfit, [], []⟩
def dD_law_ascending : He.DefD := ⟨("_law_ascending", none), "_law_ascending", "_law_ascending", defArgs s_law_ascending, defBody s_law_ascending, defScope s_law_ascending, [], []⟩
def dD_law_spot : He.DefD := ⟨("_law_spot", none), "_law_spot", "_law_spot", defArgs s_law_spot, defBody s_law_spot, defScope s_law_spot, [], []⟩
def dD_law_take : He.DefD := ⟨("_law_take", none), "_law_take", "_law_take", defArgs s_law_take, defBody s_law_take, defScope s_law_take, [], []⟩
def dD_law_formula : He.DefD := ⟨("_law_formula", none), "_law_formula", "_law_formula", defArgs s_law_formula, defBody s_law_formula, defScope s_law_formula, [], []⟩
def dD_law_keeps : He.DefD := ⟨("_law_keeps", none), "_law_keeps", "_law_keeps", defArgs s_law_keeps, defBody s_law_keeps, defScope s_law_keeps, [], []⟩
def dD_at_least : He.DefD := ⟨("at_least", none), "at_least", "at_least", defArgs s_at_least, defBody s_at_least, defScope s_at_least, [], []⟩
def dD_law_whole : He.DefD := ⟨("_law_whole", none), "_law_whole", "_law_whole", defArgs s_law_whole, defBody s_law_whole, defScope s_law_whole, [], []⟩
def dD_law_count : He.DefD := ⟨("_law_count", none), "_law_count", "_law_count", defArgs s_law_count, defBody s_law_count, defScope s_law_count, [], []⟩
def dD_leaf_worlds : He.DefD := ⟨("leaf_worlds", none), "leaf_worlds", "leaf_worlds", defArgs s_leaf_worlds, defBody s_leaf_worlds, defScope s_leaf_worlds, [], []⟩
def dD_others : He.DefD := ⟨("others", none), "others", "others", defArgs s_others, defBody s_others, defScope s_others, [], []⟩
def dD_law_q : He.DefD := ⟨("_law_q", none), "_law_q", "_law_q", defArgs s_law_q, defBody s_law_q, defScope s_law_q, [], []⟩
def dD_law_on : He.DefD := ⟨("_law_on", none), "_law_on", "_law_on", defArgs s_law_on, defBody s_law_on, defScope s_law_on, [], []⟩
def dD_leaves_of : He.DefD := ⟨("leaves_of", none), "leaves_of", "leaves_of", defArgs s_leaves_of, defBody s_leaves_of, defScope s_leaves_of, [], []⟩
def dD_law_over : He.DefD := ⟨("_law_over", none), "_law_over", "_law_over", defArgs s_law_over, defBody s_law_over, defScope s_law_over, [], []⟩
def dD_law_size : He.DefD := ⟨("_law_size", none), "_law_size", "_law_size", defArgs s_law_size, defBody s_law_size, defScope s_law_size, [], []⟩
def dD_worlds_of : He.DefD := ⟨("worlds_of", none), "worlds_of", "worlds_of", defArgs s_worlds_of, defBody s_worlds_of, defScope s_worlds_of, [], []⟩
def dD_levels_of : He.DefD := ⟨("levels_of", none), "levels_of", "levels_of", defArgs s_levels_of, defBody s_levels_of, defScope s_levels_of, [], []⟩
def dD_picture_of : He.DefD := ⟨("picture_of", none), "picture_of", "picture_of", defArgs s_picture_of, defBody s_picture_of, defScope s_picture_of, [], []⟩
def dD_signature_of : He.DefD := ⟨("signature_of", none), "signature_of", "signature_of", defArgs s_signature_of, defBody s_signature_of, defScope s_signature_of, [], []⟩
def dD_stands_on : He.DefD := ⟨("stands_on", none), "stands_on", "stands_on", defArgs s_stands_on, defBody s_stands_on, defScope s_stands_on, [], []⟩
def dD_misfit_in : He.DefD := ⟨("misfit_in", none), "misfit_in", "misfit_in", defArgs s_misfit_in, defBody s_misfit_in, defScope s_misfit_in, [], []⟩
def dD_law_picture : He.DefD := ⟨("_law_picture", none), "_law_picture", "_law_picture", defArgs s_law_picture, defBody s_law_picture, defScope s_law_picture, [], []⟩
def dD_law_below : He.DefD := ⟨("_law_below", none), "_law_below", "_law_below", defArgs s_law_below, defBody s_law_below, defScope s_law_below, [], []⟩
def dD_all_worlds : He.DefD := ⟨("all_worlds", none), "all_worlds", "all_worlds", defArgs s_all_worlds, defBody s_all_worlds, defScope s_all_worlds, [], []⟩
def dD_keeps : He.DefD := ⟨("keeps", none), "keeps", "keeps", defArgs s_keeps, defBody s_keeps, defScope s_keeps, [], []⟩
def dD_levels_on : He.DefD := ⟨("levels_on", none), "levels_on", "levels_on", defArgs s_levels_on, defBody s_levels_on, defScope s_levels_on, [], []⟩
def dD_is_on : He.DefD := ⟨("is_on", none), "is_on", "is_on", defArgs s_is_on, defBody s_is_on, defScope s_is_on, [], []⟩
def dD_is_below : He.DefD := ⟨("is_below", none), "is_below", "is_below", defArgs s_is_below, defBody s_is_below, defScope s_is_below, [], []⟩
structure DefAtD (K : PySem.W.Frag) (mg : Str → Option Value) (x : Str) (st : Stmt) (dvs : List V) (f : Addr) (fd : FuncData) : Prop where
  F : FunD K x x (defArgs st) (defBody st) (defScope st) dvs [] f fd
  g : mg x = some (.ref f)
structure DefAt (K : PySem.W.Frag) (mg : Str → Option Value) (x : Str) (st : Stmt) (ps : List Str) (f : Addr) (fd : FuncData) : Prop where
  F : FunD K x x (defArgs st) (defBody st) (defScope st) [] [] f fd
  g : mg x = some (.ref f)
  b : Binds K fd ps []
structure Top (K : PySem.W.Frag) (Z : List Addr) (mg : Str → Option Value) (base : Heap) (fa : Fn → Addr) (ft : Fn → FuncData) : Prop where
  law : DefAt K mg "law" s_law ["script"] (fa .law) (ft .law)
  law_named : DefAt K mg "_law_named" s_law_named ["cell"] (fa .law_named) (ft .law_named)
  law_cell : DefAt K mg "_law_cell" s_law_cell ["script", "k"] (fa .law_cell) (ft .law_cell)
  law_spots : DefAt K mg "_law_spots" s_law_spots ["script", "at", "names", "menu"] (fa .law_spots) (ft .law_spots)
  law_book : DefAt K mg "_law_book" s_law_book ["cell", "names"] (fa .law_book) (ft .law_book)
  law_worlds : DefAt K mg "_law_worlds" s_law_worlds ["book", "names"] (fa .law_worlds) (ft .law_worlds)
  count_ladder : DefAt K mg "count_ladder" s_count_ladder ["places"] (fa .count_ladder) (ft .count_ladder)
  law_same : DefAt K mg "_law_same" s_law_same ["told", "due"] (fa .law_same) (ft .law_same)
  law_p : DefAt K mg "_law_p" s_law_p ["places", "j", "k"] (fa .law_p) (ft .law_p)
  law_levels : DefAt K mg "_law_levels" s_law_levels ["book", "names", "worlds", "places", "ladder"] (fa .law_levels) (ft .law_levels)
  law_bent : DefAt K mg "_law_bent" s_law_bent ["cell", "places"] (fa .law_bent) (ft .law_bent)
  find_misfit : DefAtD K mg "find_misfit" s_find_misfit (He.DefD.dvs K dD_find_misfit) (fa .find_misfit) (ft .find_misfit)
  law_digits : DefAt K mg "_law_digits" s_law_digits ["cell", "sizes"] (fa .law_digits) (ft .law_digits)
  law_spoilt : DefAt K mg "_law_spoilt" s_law_spoilt ["ladder", "picks", "names"] (fa .law_spoilt) (ft .law_spoilt)
  law_told : DefAt K mg "_law_told" s_law_told ["told", "due"] (fa .law_told) (ft .law_told)
  law_misfit : DefAt K mg "_law_misfit" s_law_misfit ["worlds", "ladder", "formulas"] (fa .law_misfit) (ft .law_misfit)
  law_ascending : DefAt K mg "_law_ascending" s_law_ascending ["items"] (fa .law_ascending) (ft .law_ascending)
  law_spot : DefAt K mg "_law_spot" s_law_spot ["cell", "names"] (fa .law_spot) (ft .law_spot)
  law_take_viv : DefAt K mg "_law_take" s_law_take ["row", "at", "size"] (fa .law_take_viv) (ft .law_take_viv)
  law_formula_vivv : DefAt K mg "_law_formula" s_law_formula ["row", "at", "names", "deep"] (fa .law_formula_vivv) (ft .law_formula_vivv)
  law_keeps : DefAt K mg "_law_keeps" s_law_keeps ["world", "sequent"] (fa .law_keeps) (ft .law_keeps)
  at_least : DefAt K mg "at_least" s_at_least ["places", "j", "k"] (fa .at_least) (ft .at_least)
  law_whole : DefAt K mg "_law_whole" s_law_whole ["value"] (fa .law_whole) (ft .law_whole)
  law_count : DefAt K mg "_law_count" s_law_count ["places", "world"] (fa .law_count) (ft .law_count)
  leaf_worlds : DefAt K mg "leaf_worlds" s_leaf_worlds ["book", "names", "plan", "leaf"] (fa .leaf_worlds) (ft .leaf_worlds)
  others : DefAt K mg "others" s_others ["places", "i", "j", "k"] (fa .others) (ft .others)
  law_q : DefAt K mg "_law_q" s_law_q ["places", "i", "j", "k"] (fa .law_q) (ft .law_q)
  law_on : DefAt K mg "_law_on" s_law_on ["member", "world"] (fa .law_on) (ft .law_on)
  leaves_of : DefAt K mg "leaves_of" s_leaves_of ["plan"] (fa .leaves_of) (ft .leaves_of)
  law_over_vivv : DefAt K mg "_law_over" s_law_over ["row", "at", "places", "deep"] (fa .law_over_vivv) (ft .law_over_vivv)
  law_size : DefAt K mg "_law_size" s_law_size ["member"] (fa .law_size) (ft .law_size)
  worlds_of : DefAt K mg "worlds_of" s_worlds_of ["book", "names"] (fa .worlds_of) (ft .worlds_of)
  levels_of : DefAt K mg "levels_of" s_levels_of ["plan", "world"] (fa .levels_of) (ft .levels_of)
  picture_of : DefAt K mg "picture_of" s_picture_of ["formulas", "world"] (fa .picture_of) (ft .picture_of)
  signature_of : DefAt K mg "signature_of" s_signature_of ["signs", "world"] (fa .signature_of) (ft .signature_of)
  stands_on : DefAt K mg "stands_on" s_stands_on ["levels", "leaf"] (fa .stands_on) (ft .stands_on)
  misfit_in : DefAt K mg "misfit_in" s_misfit_in ["lot", "pictures", "signatures", "worlds"] (fa .misfit_in) (ft .misfit_in)
  law_picture : DefAt K mg "_law_picture" s_law_picture ["formulas", "world"] (fa .law_picture) (ft .law_picture)
  law_below : DefAt K mg "_law_below" s_law_below ["low", "high"] (fa .law_below) (ft .law_below)
  all_worlds : DefAt K mg "all_worlds" s_all_worlds ["names"] (fa .all_worlds) (ft .all_worlds)
  keeps : DefAt K mg "keeps" s_keeps ["world", "sequent"] (fa .keeps) (ft .keeps)
  levels_on : DefAt K mg "levels_on" s_levels_on ["ladder", "world"] (fa .levels_on) (ft .levels_on)
  is_on : DefAt K mg "is_on" s_is_on ["member", "world"] (fa .is_on) (ft .is_on)
  is_below : DefAt K mg "is_below" s_is_below ["low", "high"] (fa .is_below) (ft .is_below)
  b0 : BindsD K Z (ft .find_misfit) ["book", "names", "plan", "formulas", "signs"] [(.tup [])]
  z_all : mg "all" = none
  z_any : mg "any" = none
  z_bool : mg "bool" = none
  z_int : mg "int" = none
  z_isinstance : mg "isinstance" = none
  z_len : mg "len" = none
  z_list : mg "list" = none
  z_max : mg "max" = none
  z_min : mg "min" = none
  z_range : mg "range" = none
  z_sorted : mg "sorted" = none
  z_str : mg "str" = none
  z_sum : mg "sum" = none
  z_tuple : mg "tuple" = none
  z_zip : mg "zip" = none
  v_SURE : GlobT K mg "SURE" c_SURE
  v_NEVER : GlobT K mg "NEVER" c_NEVER
  cd_worlds_of : CodeAt Z base mg (ft .worlds_of)
  cd_keeps : CodeAt Z base mg (ft .keeps)
  cd_is_on : CodeAt Z base mg (ft .is_on)
  cd_is_below : CodeAt Z base mg (ft .is_below)
section
variable {P : Program} {w : World} {K : PySem.W.Frag} {Z : List Addr} {mg : Str → Option Value} {base : Heap} {fa : Fn → Addr} {ft : Fn → FuncData}
def AllOk (P : Program) (w : World) (K : PySem.W.Frag) (Z : List Addr) (mg : Str → Option Value) (base : Heap) (fa : Fn → Addr) (ft : Fn → FuncData) (k : Nat) : Prop := ∀ f : Fn, FnOk P w K mg base CX0 (2 * k) (fa f) (ft f) (psOf f) (liftSp ⟨K, Z⟩ (psOf f).length (sem k f))
theorem w_law {k : Nat} (t : Top K Z mg base fa ft) (G : AllOk P w K Z mg base fa ft k) : FnOk P w K mg base CX0 (2 * k + 1 + 1) (fa .law) (ft .law) ["script"] (liftSp ⟨K, Z⟩ 1 (sem (k + 1) .law)) := by
  obtain ⟨dv_b0, ds_b0, hd_b0, hb_b0, ht_b0⟩ := t.b0
  refine fn_okD (K := ⟨K, Z⟩) (modes := [false]) t.law.F sc_law rfl (by decide) fun A outer s H E hr2 => ?_
  have hr := hr2.mono (Nat.le_succ _)
  have hu := hr.units
  have hw := roomW hr
  have nd := sc_law.nd
  exact (qss_cons (qs_set (i := 1) nd rfl (by first | exact Or.inl rfl | exact Or.inr rfl) (qe_call (modes := [false]) (dts := []) (G .law_named) hr (by rfl) t.law_named.g t.law_named.F.kp t.law_named.b .nil (fun _ _ => .nil) rfl (qf_of (qa_cons (qe_call (modes := [false, false]) (dts := []) (G .law_cell) hr (by rfl) t.law_cell.g t.law_cell.F.kp t.law_cell.b .nil (fun _ _ => .nil) rfl (qf_of (qa_cons (qe_var (pv 0)) (qa_cons qe_int qa_nil)))) qa_nil))))
  (qss_cons (qs_set (i := 2) nd rfl (by first | exact Or.inl rfl | exact Or.inr rfl) (qe_call (modes := [false, false, false, false]) (dts := []) (G .law_spots) hr (by rfl) t.law_spots.g t.law_spots.F.kp t.law_spots.b .nil (fun _ _ => .nil) rfl (qf_of (qa_cons (qe_var (pv 0)) (qa_cons qe_int (qa_cons (qe_var (pv 1)) (qa_cons (qe_lst 12 (qa_cons qe_int (qa_cons qe_int (qa_cons qe_int (qa_cons qe_int (qa_cons qe_int (qa_cons qe_int (qa_cons qe_int (qa_cons qe_int (qa_cons qe_int (qa_cons qe_int (qa_cons qe_int (qa_cons qe_int qa_nil))))))))))))) qa_nil)))))))
  (qss_cons (qs_set (i := 3) nd rfl (by first | exact Or.inl rfl | exact Or.inr rfl) (qe_call (modes := [false, false]) (dts := []) (G .law_book) hr (by rfl) t.law_book.g t.law_book.F.kp t.law_book.b .nil (fun _ _ => .nil) rfl (qf_of (qa_cons (qe_call (modes := [false, false]) (dts := []) (G .law_cell) hr (by rfl) t.law_cell.g t.law_cell.F.kp t.law_cell.b .nil (fun _ _ => .nil) rfl (qf_of (qa_cons (qe_var (pv 0)) (qa_cons qe_int qa_nil)))) (qa_cons (qe_var (pv 1)) qa_nil)))))
  (qss_cons (qs_set (i := 4) nd rfl (by first | exact Or.inl rfl | exact Or.inr rfl) (qe_call (modes := [false, false]) (dts := []) (G .law_worlds) hr (by rfl) t.law_worlds.g t.law_worlds.F.kp t.law_worlds.b .nil (fun _ _ => .nil) rfl (qf_of (qa_cons (qe_var (pv 3)) (qa_cons (qe_var (pv 1)) qa_nil)))))
  (qss_cons (qs_if (qt_cmp opd_lt (qe_callB cd_len (by rfl) t.z_len (by decide +kernel) (qa_cons (qe_var (pv 4)) qa_nil)) qe_int (nomark _)) (qss_cons (qs_set (i := 3) nd rfl (by first | exact Or.inl rfl | exact Or.inr rfl) (qe_tup 0 qa_nil))
  (qss_one (qs_set (i := 4) nd rfl (by first | exact Or.inl rfl | exact Or.inr rfl) (qe_call (modes := [false, false]) (dts := []) (G .law_worlds) hr (by rfl) t.law_worlds.g t.law_worlds.F.kp t.law_worlds.b .nil (fun _ _ => .nil) rfl (qf_of (qa_cons (qe_var (pv 3)) (qa_cons (qe_var (pv 1)) qa_nil))))))) qss_nil)
  (qss_cons (qs_set (i := 5) nd rfl (by first | exact Or.inl rfl | exact Or.inr rfl) (qe_call (modes := [false]) (dts := []) (G .count_ladder) hr (by rfl) t.count_ladder.g t.count_ladder.F.kp t.count_ladder.b .nil (fun _ _ => .nil) rfl (qf_of (qa_cons (qe_var (pv 2)) qa_nil))))
  (qss_cons (qs_if (qt_not (qt_truth (qe_call (modes := [false, false]) (dts := []) (G .law_same) hr (by rfl) t.law_same.g t.law_same.F.kp t.law_same.b .nil (fun _ _ => .nil) rfl (qf_of (qa_cons (qe_var (pv 5)) (qa_cons (qe_callTy cd_tuple (by rfl) t.z_tuple (by decide +kernel) (qa_cons (qe_lc (own := [("k", 7)]) rfl nd (qi_range1 (by rfl) t.z_range (qe_callB cd_len (by rfl) t.z_len (by decide +kernel) (qa_cons (qe_var (pv 2)) qa_nil))) (blkOk_by (by kernel_rfl)) (fun _ _ _ _ _ => (qg_name (pg_name (i := 7) nd rfl (by first | exact Or.inl rfl | exact Or.inr rfl)))) (fun _ _ _ _ _ => qts_nil) (fun _ _ _ _ _ => (qe_call (modes := [false, false, false]) (dts := []) (G .law_p) hr (by rfl) t.law_p.g t.law_p.F.kp t.law_p.b .nil (fun _ _ => .nil) rfl (qf_of (qa_cons (qe_var (pv 2)) (qa_cons (qe_callB cd_len (by rfl) t.z_len (by decide +kernel) (qa_cons (qe_var (pv 2)) qa_nil)) (qa_cons (qe_op opd_add (qe_var (pv 7)) qe_int) qa_nil))))))) qa_nil)) qa_nil)))))) (qss_one (qs_ret qe_bl)) qss_nil)
  (qss_cons (qs_if (qt_not (qt_truth (qe_call (modes := [false, false, false, false, false]) (dts := []) (G .law_levels) hr (by rfl) t.law_levels.g t.law_levels.F.kp t.law_levels.b .nil (fun _ _ => .nil) rfl (qf_of (qa_cons (qe_var (pv 3)) (qa_cons (qe_var (pv 1)) (qa_cons (qe_var (pv 4)) (qa_cons (qe_var (pv 2)) (qa_cons (qe_var (pv 5)) qa_nil))))))))) (qss_one (qs_ret qe_bl)) qss_nil)
  (qss_cons (qs_set (i := 6) nd rfl (by first | exact Or.inl rfl | exact Or.inr rfl) (qe_callTy cd_list (by rfl) t.z_list (by decide +kernel) (qa_cons (qe_var (pv 2)) qa_nil)))
  (qss_cons (qs_for (is := [7]) PassesOwn.never rfl (qi_range1 (by rfl) t.z_range (qe_callB (cd_min rfl) (by rfl) t.z_min (by decide +kernel) (qa_cons qe_int (qa_cons (qe_op opd_mul qe_int (qe_callB cd_len (by rfl) t.z_len (by decide +kernel) (qa_cons (qe_var (pv 2)) qa_nil))) qa_nil)))) (qg_name (pg_name (i := 7) nd rfl (by first | exact Or.inl rfl | exact Or.inr rfl))) (qss_one (qs_append (i := 6) (pv 6) (qe_call (modes := [false, false]) (dts := []) (G .law_bent) hr (by rfl) t.law_bent.g t.law_bent.F.kp t.law_bent.b .nil (fun _ _ => .nil) rfl (qf_of (qa_cons (qe_call (modes := [false, false]) (dts := []) (G .law_cell) hr (by rfl) t.law_cell.g t.law_cell.F.kp t.law_cell.b .nil (fun _ _ => .nil) rfl (qf_of (qa_cons (qe_var (pv 0)) (qa_cons (qe_op opd_add qe_int (qe_var (pv 7))) qa_nil)))) (qa_cons (qe_var (pv 2)) qa_nil)))))))
  (qss_cons (qs_if (qt_cmp opd_isnot (qe_call (modes := [false, false, false, false]) (dts := [(.tup [])]) (G .find_misfit) hr (by rfl) t.find_misfit.g t.find_misfit.F.kp hb_b0 hd_b0 ht_b0 rfl (qf_of (qa_cons (qe_var (pv 3)) (qa_cons (qe_var (pv 1)) (qa_cons (qe_tup 1 (qa_cons (qe_var (pv 5)) qa_nil)) (qa_cons (qe_var (pv 2)) qa_nil)))))) qe_non (nomark _)) (qss_one (qs_ret qe_bl)) qss_nil)
  (qss_cons (qs_if (qt_cmp opd_isnot (qe_call (modes := [false, false, false, false]) (dts := [(.tup [])]) (G .find_misfit) hr (by rfl) t.find_misfit.g t.find_misfit.F.kp hb_b0 hd_b0 ht_b0 rfl (qf_of (qa_cons (qe_var (pv 3)) (qa_cons (qe_var (pv 1)) (qa_cons (qe_tup 1 (qa_cons (qe_var (pv 5)) qa_nil)) (qa_cons (qe_callTy cd_tuple (by rfl) t.z_tuple (by decide +kernel) (qa_cons (qe_var (pv 6)) qa_nil)) qa_nil)))))) qe_non (nomark _)) (qss_one (qs_ret qe_bl)) qss_nil)
  (qss_cons (qs_set (i := 8) nd rfl (by first | exact Or.inl rfl | exact Or.inr rfl) (qe_call (modes := [false, false]) (dts := []) (G .law_digits) hr (by rfl) t.law_digits.g t.law_digits.F.kp t.law_digits.b .nil (fun _ _ => .nil) rfl (qf_of (qa_cons (qe_call (modes := [false, false]) (dts := []) (G .law_cell) hr (by rfl) t.law_cell.g t.law_cell.F.kp t.law_cell.b .nil (fun _ _ => .nil) rfl (qf_of (qa_cons (qe_var (pv 0)) (qa_cons qe_int qa_nil)))) (qa_cons (qe_lst 5 (qa_cons qe_int (qa_cons qe_int (qa_cons qe_int (qa_cons qe_int (qa_cons qe_int qa_nil)))))) qa_nil)))))
  (qss_cons (qs_set (i := 9) nd rfl (by first | exact Or.inl rfl | exact Or.inr rfl) (qe_call (modes := [false, false, false]) (dts := []) (G .law_spoilt) hr (by rfl) t.law_spoilt.g t.law_spoilt.F.kp t.law_spoilt.b .nil (fun _ _ => .nil) rfl (qf_of (qa_cons (qe_var (pv 5)) (qa_cons (qe_var (pv 8)) (qa_cons (qe_var (pv 1)) qa_nil))))))
  (qss_cons (qs_if (qt_cmp opd_isnot (qe_call (modes := [false, false, false, false]) (dts := [(.tup [])]) (G .find_misfit) hr (by rfl) t.find_misfit.g t.find_misfit.F.kp hb_b0 hd_b0 ht_b0 rfl (qf_of (qa_cons (qe_var (pv 3)) (qa_cons (qe_var (pv 1)) (qa_cons (qe_tup 2 (qa_cons (qe_var (pv 9)) (qa_cons (qe_var (pv 5)) qa_nil))) (qa_cons (qe_callTy cd_tuple (by rfl) t.z_tuple (by decide +kernel) (qa_cons (qe_var (pv 6)) qa_nil)) qa_nil)))))) qe_non (nomark _)) (qss_one (qs_ret qe_bl)) qss_nil)
  (qss_cons (qs_set (i := 6) nd rfl (by first | exact Or.inl rfl | exact Or.inr rfl) (qe_slice (qe_var (pv 6)) (qo_some (qe_op opd_mod (qe_callTy cd_int (by rfl) t.z_int (by decide +kernel) (qa_cons (qe_ix (qe_var (pv 8)) qe_int (fun _ _ => rfl)) qa_nil)) (qe_callB (cd_max rfl) (by rfl) t.z_max (by decide +kernel) (qa_cons qe_int (qa_cons (qe_callB cd_len (by rfl) t.z_len (by decide +kernel) (qa_cons (qe_var (pv 6)) qa_nil)) qa_nil))))) qo_none))
  (qss_cons (qs_if (qt_not (qt_truth (qe_call (modes := [false, false]) (dts := []) (G .law_told) hr (by rfl) t.law_told.g t.law_told.F.kp t.law_told.b .nil (fun _ _ => .nil) rfl (qf_of (qa_cons (qe_call (modes := [false, false, false, false]) (dts := [(.tup [])]) (G .find_misfit) hr (by rfl) t.find_misfit.g t.find_misfit.F.kp hb_b0 hd_b0 ht_b0 rfl (qf_of (qa_cons (qe_var (pv 3)) (qa_cons (qe_var (pv 1)) (qa_cons (qe_tup 1 (qa_cons (qe_var (pv 9)) qa_nil)) (qa_cons (qe_callTy cd_tuple (by rfl) t.z_tuple (by decide +kernel) (qa_cons (qe_var (pv 6)) qa_nil)) qa_nil)))))) (qa_cons (qe_call (modes := [false, false, false]) (dts := []) (G .law_misfit) hr (by rfl) t.law_misfit.g t.law_misfit.F.kp t.law_misfit.b .nil (fun _ _ => .nil) rfl (qf_of (qa_cons (qe_var (pv 4)) (qa_cons (qe_var (pv 9)) (qa_cons (qe_var (pv 6)) qa_nil))))) qa_nil)))))) (qss_one (qs_ret qe_bl)) qss_nil)
  (qss_cons (qs_set (i := 6) nd rfl (by first | exact Or.inl rfl | exact Or.inr rfl) (qe_op opd_add (qe_var (pv 6)) (qe_lst 1 (qa_cons (qe_tup 2 (qa_cons qe_str (qa_cons (qe_ix (qe_var (pv 1)) (qe_op opd_mod (qe_callTy cd_int (by rfl) t.z_int (by decide +kernel) (qa_cons (qe_ix (qe_var (pv 8)) qe_int (fun _ _ => rfl)) qa_nil)) (qe_callB cd_len (by rfl) t.z_len (by decide +kernel) (qa_cons (qe_var (pv 1)) qa_nil))) (fun _ _ => rfl)) qa_nil))) qa_nil))))
  (qss_cons (qs_for (is := [10]) PassesOwn.never rfl (qi_any (qe_lst 2 (qa_cons (qe_var (pv 9)) (qa_cons (qe_var (pv 5)) qa_nil)))) (qg_name (pg_name (i := 10) nd rfl (by first | exact Or.inl rfl | exact Or.inr rfl))) (qss_one (qs_if (qt_not (qt_truth (qe_call (modes := [false, false]) (dts := []) (G .law_told) hr (by rfl) t.law_told.g t.law_told.F.kp t.law_told.b .nil (fun _ _ => .nil) rfl (qf_of (qa_cons (qe_call (modes := [false, false, false, false]) (dts := [(.tup [])]) (G .find_misfit) hr (by rfl) t.find_misfit.g t.find_misfit.F.kp hb_b0 hd_b0 ht_b0 rfl (qf_of (qa_cons (qe_var (pv 3)) (qa_cons (qe_var (pv 1)) (qa_cons (qe_tup 1 (qa_cons (qe_var (pv 10)) qa_nil)) (qa_cons (qe_callTy cd_tuple (by rfl) t.z_tuple (by decide +kernel) (qa_cons (qe_var (pv 6)) qa_nil)) qa_nil)))))) (qa_cons (qe_call (modes := [false, false, false]) (dts := []) (G .law_misfit) hr (by rfl) t.law_misfit.g t.law_misfit.F.kp t.law_misfit.b .nil (fun _ _ => .nil) rfl (qf_of (qa_cons (qe_var (pv 4)) (qa_cons (qe_var (pv 10)) (qa_cons (qe_var (pv 6)) qa_nil))))) qa_nil)))))) (qss_one (qs_ret qe_bl)) qss_nil)))
  (qss_one (qs_ret qe_bl)))))))))))))))))))))
theorem w_law_named {k : Nat} (t : Top K Z mg base fa ft) (G : AllOk P w K Z mg base fa ft k) : FnOk P w K mg base CX0 (2 * k + 1 + 1) (fa .law_named) (ft .law_named) ["cell"] (liftSp ⟨K, Z⟩ 1 (sem (k + 1) .law_named)) := by
  refine fn_okD (K := ⟨K, Z⟩) (modes := [false]) t.law_named.F sc_law_named rfl (by decide) fun A outer s H E hr2 => ?_
  have hr := hr2.mono (Nat.le_succ _)
  have hu := hr.units
  have hw := roomW hr
  have nd := sc_law_named.nd
  exact (qss_cons (qs_set (i := 1) nd rfl (by first | exact Or.inl rfl | exact Or.inr rfl) (qe_call (modes := [false, false]) (dts := []) (G .law_digits) hr (by rfl) t.law_digits.g t.law_digits.F.kp t.law_digits.b .nil (fun _ _ => .nil) rfl (qf_of (qa_cons (qe_var (pv 0)) (qa_cons (qe_op opd_add (qe_lst 3 (qa_cons qe_int (qa_cons qe_int (qa_cons qe_int qa_nil)))) (qe_op opd_mul (qe_lst 9 (qa_cons qe_int (qa_cons qe_int (qa_cons qe_int (qa_cons qe_int (qa_cons qe_int (qa_cons qe_int (qa_cons qe_int (qa_cons qe_int (qa_cons qe_int qa_nil)))))))))) qe_int)) qa_nil)))))
  (qss_cons (qs_set (i := 2) nd rfl (by first | exact Or.inl rfl | exact Or.inr rfl) (qe_ix (qe_lst 12 (qa_cons qe_int (qa_cons qe_int (qa_cons qe_int (qa_cons qe_int (qa_cons qe_int (qa_cons qe_int (qa_cons qe_int (qa_cons qe_int (qa_cons qe_int (qa_cons qe_int (qa_cons qe_int (qa_cons qe_int qa_nil))))))))))))) (qe_ix (qe_var (pv 1)) qe_int (fun _ _ => rfl)) (fun _ _ => rfl)))
  (qss_cons (qs_if (qt_cmp (opd_eq hu) (qe_ix (qe_var (pv 1)) qe_int (fun _ _ => rfl)) qe_int (nomark _)) (qss_cons (qs_set (i := 3) nd rfl (by first | exact Or.inl rfl | exact Or.inr rfl) (qe_lst 6 (qa_cons (qe_lst 4 (qa_cons qe_str (qa_cons qe_str (qa_cons qe_str (qa_cons qe_str qa_nil))))) (qa_cons (qe_lst 4 (qa_cons qe_str (qa_cons qe_str (qa_cons qe_str (qa_cons qe_str qa_nil))))) (qa_cons (qe_lst 4 (qa_cons qe_str (qa_cons qe_str (qa_cons qe_str (qa_cons qe_str qa_nil))))) (qa_cons (qe_lst 4 (qa_cons qe_str (qa_cons qe_str (qa_cons qe_str (qa_cons qe_str qa_nil))))) (qa_cons (qe_lst 4 (qa_cons qe_str (qa_cons qe_str (qa_cons qe_str (qa_cons qe_str qa_nil))))) (qa_cons (qe_lst 4 (qa_cons qe_str (qa_cons qe_str (qa_cons qe_str (qa_cons qe_str qa_nil))))) qa_nil))))))))
  (qss_one (qs_ret (qe_callTy cd_tuple (by rfl) t.z_tuple (by decide +kernel) (qa_cons (qe_slice (qe_ix (qe_var (pv 3)) (qe_ix (qe_var (pv 1)) qe_int (fun _ _ => rfl)) (fun _ _ => rfl)) qo_none (qo_some (qe_var (pv 2)))) qa_nil))))) qss_nil)
  (qss_cons (qs_set (i := 4) nd rfl (by first | exact Or.inl rfl | exact Or.inr rfl) qe_str)
  (qss_cons (qs_set (i := 5) nd rfl (by first | exact Or.inl rfl | exact Or.inr rfl) (qe_lst 0 qa_nil))
  (qss_cons (qs_for (is := [6]) PassesOwn.never rfl (qi_range1 (by rfl) t.z_range (qe_var (pv 2))) (qg_name (pg_name (i := 6) nd rfl (by first | exact Or.inl rfl | exact Or.inr rfl))) (qss_cons (qs_set (i := 7) nd rfl (by first | exact Or.inl rfl | exact Or.inr rfl) (qe_slice (qe_var (pv 1)) (qo_some (qe_op opd_add qe_int (qe_op opd_mul qe_int (qe_var (pv 6))))) (qo_some (qe_op opd_add qe_int (qe_op opd_mul qe_int (qe_var (pv 6)))))))
  (qss_cons (qs_set (i := 8) nd rfl (by first | exact Or.inl rfl | exact Or.inr rfl) (qe_ix (qe_var (pv 4)) (qe_ix (qe_var (pv 7)) qe_int (fun _ _ => rfl)) (fun _ _ => rfl)))
  (qss_cons (qs_for (is := [9]) PassesOwn.never rfl (qi_any (qe_slice (qe_var (pv 7)) (qo_some qe_int) (qo_some (qe_op opd_add qe_int (qe_ix (qe_lst 6 (qa_cons qe_int (qa_cons qe_int (qa_cons qe_int (qa_cons qe_int (qa_cons qe_int (qa_cons qe_int qa_nil))))))) (qe_ix (qe_var (pv 7)) qe_int (fun _ _ => rfl)) (fun _ _ => rfl)))))) (qg_name (pg_name (i := 9) nd rfl (by first | exact Or.inl rfl | exact Or.inr rfl))) (qss_one (qs_set (i := 8) nd rfl (by first | exact Or.inl rfl | exact Or.inr rfl) (qe_op opd_add (qe_var (pv 8)) (qe_ix (qe_var (pv 4)) (qe_var (pv 9)) (fun _ _ => rfl))))))
  (qss_cons (qs_if (PW.pt (qw_or (qt_cmp (opd_in hu) (qe_var (pv 8)) (qe_lst 4 (qa_cons qe_str (qa_cons qe_str (qa_cons qe_str (qa_cons qe_str qa_nil))))) rfl) (qw_or1 (qt_cmp (opd_eq hu) (qe_slice (qe_var (pv 8)) qo_none (qo_some qe_int)) qe_str (nomark _))))) (qss_one (qs_set (i := 8) nd rfl (by first | exact Or.inl rfl | exact Or.inr rfl) (qe_op opd_add qe_str (qe_ix (qe_var (pv 4)) (qe_op opd_add qe_int (qe_var (pv 6))) (fun _ _ => rfl))))) qss_nil)
  (qss_one (qs_append (i := 5) (pv 5) (qe_var (pv 8)))))))))
  (qss_one (qs_ret (qe_call (modes := [false]) (dts := []) (G .law_ascending) hr (by rfl) t.law_ascending.g t.law_ascending.F.kp t.law_ascending.b .nil (fun _ _ => .nil) rfl (qf_of (qa_cons (qe_var (pv 5)) qa_nil)))))))))))
theorem w_law_cell {k : Nat} (t : Top K Z mg base fa ft) (G : AllOk P w K Z mg base fa ft k) : FnOk P w K mg base CX0 (2 * k + 1 + 1) (fa .law_cell) (ft .law_cell) ["script", "k"] (liftSp ⟨K, Z⟩ 2 (sem (k + 1) .law_cell)) := by
  refine fn_okD (K := ⟨K, Z⟩) (modes := [false, false]) t.law_cell.F sc_law_cell rfl (by decide) fun A outer s H E hr2 => ?_
  have hr := hr2.mono (Nat.le_succ _)
  have hu := hr.units
  have hw := roomW hr
  have nd := sc_law_cell.nd
  exact (qss_cons (qs_if (qt_cmp opd_lt (qe_var (pv 1)) (qe_callB cd_len (by rfl) t.z_len (by decide +kernel) (qa_cons (qe_var (pv 0)) qa_nil)) (nomark _)) (qss_one (qs_ret (qe_ix (qe_var (pv 0)) (qe_var (pv 1)) (fun _ _ => rfl)))) qss_nil)
  (qss_cons (qs_set (i := 2) nd rfl (by first | exact Or.inl rfl | exact Or.inr rfl) qe_int)
  (qss_cons (qs_for (is := [3]) PassesOwn.never rfl (qi_any (qe_var (pv 0))) (qg_name (pg_name (i := 3) nd rfl (by first | exact Or.inl rfl | exact Or.inr rfl))) (qss_one (qs_set (i := 2) nd rfl (by first | exact Or.inl rfl | exact Or.inr rfl) (qe_op opd_mod (qe_callTy cd_int (by rfl) t.z_int (by decide +kernel) (qa_cons (qe_op opd_add (qe_op opd_mul (qe_var (pv 2)) qe_int) (qe_op opd_mod (qe_callTy cd_int (by rfl) t.z_int (by decide +kernel) (qa_cons (qe_var (pv 3)) qa_nil)) qe_int)) qa_nil)) qe_int))))
  (qss_one (qs_ret (qe_op opd_mod (qe_callTy cd_int (by rfl) t.z_int (by decide +kernel) (qa_cons (qe_op opd_mul (qe_op opd_mul (qe_op opd_add (qe_var (pv 2)) qe_int) (qe_op opd_add (qe_var (pv 1)) qe_int)) qe_int) qa_nil)) qe_int))))))
theorem w_law_spots {k : Nat} (t : Top K Z mg base fa ft) (G : AllOk P w K Z mg base fa ft k) : FnOk P w K mg base CX0 (2 * k + 1 + 1) (fa .law_spots) (ft .law_spots) ["script", "at", "names", "menu"] (liftSp ⟨K, Z⟩ 4 (sem (k + 1) .law_spots)) := by
  refine fn_okD (K := ⟨K, Z⟩) (modes := [false, false, false, false]) t.law_spots.F sc_law_spots rfl (by decide) fun A outer s H E hr2 => ?_
  have hr := hr2.mono (Nat.le_succ _)
  have hu := hr.units
  have hw := roomW hr
  have nd := sc_law_spots.nd
  exact (qss_cons (qs_set (i := 4) nd rfl (by first | exact Or.inl rfl | exact Or.inr rfl) (qe_call (modes := [false, false]) (dts := []) (G .law_digits) hr (by rfl) t.law_digits.g t.law_digits.F.kp t.law_digits.b .nil (fun _ _ => .nil) rfl (qf_of (qa_cons (qe_call (modes := [false, false]) (dts := []) (G .law_cell) hr (by rfl) t.law_cell.g t.law_cell.F.kp t.law_cell.b .nil (fun _ _ => .nil) rfl (qf_of (qa_cons (qe_var (pv 0)) (qa_cons (qe_var (pv 1)) qa_nil)))) (qa_cons (qe_lst 1 (qa_cons qe_int qa_nil)) qa_nil)))))
  (qss_cons (qs_set (i := 5) nd rfl (by first | exact Or.inl rfl | exact Or.inr rfl) (qe_lst 0 qa_nil))
  (qss_cons (qs_for (is := [6]) PassesOwn.never rfl (qi_range1 (by rfl) t.z_range (qe_ix (qe_var (pv 3)) (qe_ix (qe_var (pv 4)) qe_int (fun _ _ => rfl)) (fun _ _ => rfl))) (qg_name (pg_name (i := 6) nd rfl (by first | exact Or.inl rfl | exact Or.inr rfl))) (qss_one (qs_append (i := 5) (pv 5) (qe_call (modes := [false, false]) (dts := []) (G .law_spot) hr (by rfl) t.law_spot.g t.law_spot.F.kp t.law_spot.b .nil (fun _ _ => .nil) rfl (qf_of (qa_cons (qe_call (modes := [false, false]) (dts := []) (G .law_cell) hr (by rfl) t.law_cell.g t.law_cell.F.kp t.law_cell.b .nil (fun _ _ => .nil) rfl (qf_of (qa_cons (qe_var (pv 0)) (qa_cons (qe_op opd_add (qe_op opd_add (qe_var (pv 1)) qe_int) (qe_var (pv 6))) qa_nil)))) (qa_cons (qe_var (pv 2)) qa_nil)))))))
  (qss_one (qs_ret (qe_call (modes := [false]) (dts := []) (G .law_ascending) hr (by rfl) t.law_ascending.g t.law_ascending.F.kp t.law_ascending.b .nil (fun _ _ => .nil) rfl (qf_of (qa_cons (qe_var (pv 5)) qa_nil))))))))
theorem w_law_book {k : Nat} (t : Top K Z mg base fa ft) (G : AllOk P w K Z mg base fa ft k) : FnOk P w K mg base CX0 (2 * k + 1 + 1) (fa .law_book) (ft .law_book) ["cell", "names"] (liftSp ⟨K, Z⟩ 2 (sem (k + 1) .law_book)) := by
  refine fn_okD (K := ⟨K, Z⟩) (modes := [false, false]) t.law_book.F sc_law_book rfl (by decide) fun A outer s H E hr2 => ?_
  have hr := hr2.mono (Nat.le_succ _)
  have hu := hr.units
  have hw := roomW hr
  have nd := sc_law_book.nd
  exact (qss_cons (qs_set (i := 2) nd rfl (by first | exact Or.inl rfl | exact Or.inr rfl) (qe_call (modes := [false, false]) (dts := []) (G .law_digits) hr (by rfl) t.law_digits.g t.law_digits.F.kp t.law_digits.b .nil (fun _ _ => .nil) rfl (qf_of (qa_cons (qe_var (pv 0)) (qa_cons (qe_op opd_mul (qe_lst 1 (qa_cons qe_int qa_nil)) qe_int) qa_nil)))))
  (qss_cons (qs_set (i := 3) nd rfl (by first | exact Or.inl rfl | exact Or.inr rfl) (qe_lst 1 (qa_cons qe_int qa_nil)))
  (qss_cons (qs_set (i := 4) nd rfl (by first | exact Or.inl rfl | exact Or.inr rfl) (qe_lst 0 qa_nil))
  (qss_cons (qs_for (is := [5]) PassesOwn.never rfl (qi_range1 (by rfl) t.z_range (qe_ix (qe_lst 6 (qa_cons qe_int (qa_cons qe_int (qa_cons qe_int (qa_cons qe_int (qa_cons qe_int (qa_cons qe_int qa_nil))))))) (qe_call (modes := [false, true, false]) (dts := []) (G .law_take_viv) hr (by rfl) t.law_take_viv.g t.law_take_viv.F.kp t.law_take_viv.b .nil (fun _ _ => .nil) rfl (qf_of (qa_cons (qe_var (pv 2)) (qa_cons (qe_var (pv 3)) (qa_cons qe_int qa_nil))))) (fun _ _ => rfl))) (qg_name (pg_name (i := 5) nd rfl (by first | exact Or.inl rfl | exact Or.inr rfl))) (qss_cons (qs_set (i := 6) nd rfl (by first | exact Or.inl rfl | exact Or.inr rfl) (qe_lst 0 qa_nil))
  (qss_cons (qs_for (is := [7]) PassesOwn.never rfl (qi_range1 (by rfl) t.z_range qe_int) (qg_name (pg_name (i := 7) nd rfl (by first | exact Or.inl rfl | exact Or.inr rfl))) (qss_cons (qs_set (i := 8) nd rfl (by first | exact Or.inl rfl | exact Or.inr rfl) (qe_lst 0 qa_nil))
  (qss_cons (qs_for (is := [9]) PassesOwn.never rfl (qi_range1 (by rfl) t.z_range (qe_ix (qe_lst 4 (qa_cons qe_int (qa_cons qe_int (qa_cons qe_int (qa_cons qe_int qa_nil))))) (qe_call (modes := [false, true, false]) (dts := []) (G .law_take_viv) hr (by rfl) t.law_take_viv.g t.law_take_viv.F.kp t.law_take_viv.b .nil (fun _ _ => .nil) rfl (qf_of (qa_cons (qe_var (pv 2)) (qa_cons (qe_var (pv 3)) (qa_cons qe_int qa_nil))))) (fun _ _ => rfl))) (qg_name (pg_name (i := 9) nd rfl (by first | exact Or.inl rfl | exact Or.inr rfl))) (qss_one (qs_append (i := 8) (pv 8) (qe_call (modes := [false, true, false, false]) (dts := []) (G .law_formula_vivv) hr (by rfl) t.law_formula_vivv.g t.law_formula_vivv.F.kp t.law_formula_vivv.b .nil (fun _ _ => .nil) rfl (qf_of (qa_cons (qe_var (pv 2)) (qa_cons (qe_var (pv 3)) (qa_cons (qe_var (pv 1)) (qa_cons (qe_ix (qe_lst 3 (qa_cons qe_int (qa_cons qe_int (qa_cons qe_int qa_nil)))) (qe_call (modes := [false, true, false]) (dts := []) (G .law_take_viv) hr (by rfl) t.law_take_viv.g t.law_take_viv.F.kp t.law_take_viv.b .nil (fun _ _ => .nil) rfl (qf_of (qa_cons (qe_var (pv 2)) (qa_cons (qe_var (pv 3)) (qa_cons qe_int qa_nil))))) (fun _ _ => rfl)) qa_nil)))))))))
  (qss_one (qs_append (i := 6) (pv 6) (qe_call (modes := [false]) (dts := []) (G .law_ascending) hr (by rfl) t.law_ascending.g t.law_ascending.F.kp t.law_ascending.b .nil (fun _ _ => .nil) rfl (qf_of (qa_cons (qe_var (pv 8)) qa_nil))))))))
  (qss_one (qs_append (i := 4) (pv 4) (qe_tup 2 (qa_cons (qe_ix (qe_var (pv 6)) qe_int (fun _ _ => rfl)) (qa_cons (qe_ix (qe_var (pv 6)) qe_int (fun _ _ => rfl)) qa_nil))))))))
  (qss_one (qs_ret (qe_callTy cd_tuple (by rfl) t.z_tuple (by decide +kernel) (qa_cons (qe_var (pv 4)) qa_nil))))))))
theorem w_law_worlds {k : Nat} (t : Top K Z mg base fa ft) (G : AllOk P w K Z mg base fa ft k) : FnOk P w K mg base CX0 (2 * k + 1 + 1) (fa .law_worlds) (ft .law_worlds) ["book", "names"] (liftSp ⟨K, Z⟩ 2 (sem (k + 1) .law_worlds)) := by
  refine fn_okD (K := ⟨K, Z⟩) (modes := [false, false]) t.law_worlds.F sc_law_worlds rfl (by decide) fun A outer s H E hr2 => ?_
  have hr := hr2.mono (Nat.le_succ _)
  have hu := hr.units
  have hw := roomW hr
  have nd := sc_law_worlds.nd
  exact (qss_cons (qs_set (i := 2) nd rfl (by first | exact Or.inl rfl | exact Or.inr rfl) (qe_lst 1 (qa_cons (qe_tup 0 qa_nil) qa_nil)))
  (qss_cons (qs_for (is := [3]) PassesOwn.never rfl (qi_any (qe_var (pv 1))) (qg_name (pg_name (i := 3) nd rfl (by first | exact Or.inl rfl | exact Or.inr rfl))) (qss_one (qs_set (i := 2) nd rfl (by first | exact Or.inl rfl | exact Or.inr rfl) (qe_op opd_add (qe_var (pv 2)) (qe_lc (own := [("world", 5)]) rfl nd (qi_any (qe_var (pv 2))) (blkOk_by (by kernel_rfl)) (fun _ _ _ _ _ => (qg_name (pg_name (i := 5) nd rfl (by first | exact Or.inl rfl | exact Or.inr rfl)))) (fun _ _ _ _ _ => qts_nil) (fun _ _ _ _ _ => (qe_op opd_add (qe_var (pv 5)) (qe_tup 1 (qa_cons (qe_var (pv 3)) qa_nil)))))))))
  (qss_cons (qs_set (i := 4) nd rfl (by first | exact Or.inl rfl | exact Or.inr rfl) (qe_lst 0 qa_nil))
  (qss_cons (qs_for (is := [5]) PassesOwn.never rfl (qi_any (qe_var (pv 2))) (qg_name (pg_name (i := 5) nd rfl (by first | exact Or.inl rfl | exact Or.inr rfl))) (qss_cons (qs_set (i := 6) nd rfl (by first | exact Or.inl rfl | exact Or.inr rfl) qe_bl)
  (qss_cons (qs_for (is := [7]) PassesOwn.never rfl (qi_any (qe_var (pv 0))) (qg_name (pg_name (i := 7) nd rfl (by first | exact Or.inl rfl | exact Or.inr rfl))) (qss_one (qs_set (i := 6) nd rfl (by first | exact Or.inl rfl | exact Or.inr rfl) (qe_and (qe_var (pv 6)) (qe_one (qe_call (modes := [false, false]) (dts := []) (G .law_keeps) hr (by rfl) t.law_keeps.g t.law_keeps.F.kp t.law_keeps.b .nil (fun _ _ => .nil) rfl (qf_of (qa_cons (qe_var (pv 5)) (qa_cons (qe_var (pv 7)) qa_nil)))))))))
  (qss_one (qs_if (qt_truth (qe_var (pv 6))) (qss_one (qs_append (i := 4) (pv 4) (qe_var (pv 5)))) qss_nil)))))
  (qss_one (qs_ret (qe_var (pv 4))))))))
theorem w_count_ladder {k : Nat} (t : Top K Z mg base fa ft) (G : AllOk P w K Z mg base fa ft k) : FnOk P w K mg base CX0 (2 * k + 1 + 1) (fa .count_ladder) (ft .count_ladder) ["places"] (liftSp ⟨K, Z⟩ 1 (sem (k + 1) .count_ladder)) := by
  refine fn_okD (K := ⟨K, Z⟩) (modes := [false]) t.count_ladder.F sc_count_ladder rfl (by decide) fun A outer s H E hr2 => ?_
  have hr := hr2.mono (Nat.le_succ _)
  have hu := hr.units
  have hw := roomW hr
  have nd := sc_count_ladder.nd
  exact (qss_cons (qs_set (i := 1) nd rfl (by first | exact Or.inl rfl | exact Or.inr rfl) (qe_callB cd_len (by rfl) t.z_len (by decide +kernel) (qa_cons (qe_var (pv 0)) qa_nil)))
  (qss_one (qs_ret (qe_callTy cd_tuple (by rfl) t.z_tuple (by decide +kernel) (qa_cons (qe_lc (own := [("k", 2)]) rfl nd (qi_range2 (by rfl) t.z_range qe_int (qe_op opd_add (qe_var (pv 1)) qe_int)) (blkOk_by (by kernel_rfl)) (fun _ _ _ _ _ => (qg_name (pg_name (i := 2) nd rfl (by first | exact Or.inl rfl | exact Or.inr rfl)))) (fun _ _ _ _ _ => qts_nil) (fun _ _ _ _ _ => (qe_call (modes := [false, false, false]) (dts := []) (G .at_least) hr (by rfl) t.at_least.g t.at_least.F.kp t.at_least.b .nil (fun _ _ => .nil) rfl (qf_of (qa_cons (qe_var (pv 0)) (qa_cons (qe_var (pv 1)) (qa_cons (qe_var (pv 2)) qa_nil))))))) qa_nil)))))
theorem w_law_same {k : Nat} (t : Top K Z mg base fa ft) (G : AllOk P w K Z mg base fa ft k) : FnOk P w K mg base CX0 (2 * k + 1 + 1) (fa .law_same) (ft .law_same) ["told", "due"] (liftSp ⟨K, Z⟩ 2 (sem (k + 1) .law_same)) := by
  refine fn_okD (K := ⟨K, Z⟩) (modes := [false, false]) t.law_same.F sc_law_same rfl (by decide) fun A outer s H E hr2 => ?_
  have hr := hr2.mono (Nat.le_succ _)
  have hu := hr.units
  have hw := roomW hr
  have nd := sc_law_same.nd
  exact (qss_cons (qs_if (qt_truth (qe_callB (cd_isi isi_tup) (by rfl) t.z_isinstance (by decide +kernel) (qa_cons (qe_var (pv 1)) (qa_cons (qe_ty (by rfl) t.z_tuple (by decide +kernel)) qa_nil)))) (qss_cons (qs_if (PW.pt (qw_or (qt_not (qt_truth (qe_callB (cd_isi isi_tup) (by rfl) t.z_isinstance (by decide +kernel) (qa_cons (qe_var (pv 0)) (qa_cons (qe_ty (by rfl) t.z_tuple (by decide +kernel)) qa_nil))))) (qw_or1 (qt_cmp (opd_ne hu) (qe_callB cd_len (by rfl) t.z_len (by decide +kernel) (qa_cons (qe_var (pv 0)) qa_nil)) (qe_callB cd_len (by rfl) t.z_len (by decide +kernel) (qa_cons (qe_var (pv 1)) qa_nil)) (nomark _))))) (qss_one (qs_ret qe_bl)) qss_nil)
  (qss_cons (qs_for (is := [2]) PassesOwn.never rfl (qi_range1 (by rfl) t.z_range (qe_callB cd_len (by rfl) t.z_len (by decide +kernel) (qa_cons (qe_var (pv 1)) qa_nil))) (qg_name (pg_name (i := 2) nd rfl (by first | exact Or.inl rfl | exact Or.inr rfl))) (qss_one (qs_if (qt_not (qt_truth (qe_call (modes := [false, false]) (dts := []) (G .law_same) hr (by rfl) t.law_same.g t.law_same.F.kp t.law_same.b .nil (fun _ _ => .nil) rfl (qf_of (qa_cons (qe_ix (qe_var (pv 0)) (qe_var (pv 2)) (fun _ _ => rfl)) (qa_cons (qe_ix (qe_var (pv 1)) (qe_var (pv 2)) (fun _ _ => rfl)) qa_nil)))))) (qss_one (qs_ret qe_bl)) qss_nil)))
  (qss_one (qs_ret qe_bl)))) qss_nil)
  (qss_cons (qs_if (qt_truth (qe_callB (cd_isi isi_str) (by rfl) t.z_isinstance (by decide +kernel) (qa_cons (qe_var (pv 1)) (qa_cons (qe_ty (by rfl) t.z_str (by decide +kernel)) qa_nil)))) (qss_one (qs_ret (qe_and (qe_callB (cd_isi isi_str) (by rfl) t.z_isinstance (by decide +kernel) (qa_cons (qe_var (pv 0)) (qa_cons (qe_ty (by rfl) t.z_str (by decide +kernel)) qa_nil))) (qe_one (qe_cmp (opd_eq hu) (qe_var (pv 0)) (qe_var (pv 1)) (nomark _)))))) qss_nil)
  (qss_one (qs_ret (qe_and (qe_call (modes := [false]) (dts := []) (G .law_whole) hr (by rfl) t.law_whole.g t.law_whole.F.kp t.law_whole.b .nil (fun _ _ => .nil) rfl (qf_of (qa_cons (qe_var (pv 0)) qa_nil))) (qe_one (qe_cmp (opd_eq hu) (qe_var (pv 0)) (qe_var (pv 1)) (nomark _))))))))
theorem w_law_p {k : Nat} (t : Top K Z mg base fa ft) (G : AllOk P w K Z mg base fa ft k) : FnOk P w K mg base CX0 (2 * k + 1 + 1) (fa .law_p) (ft .law_p) ["places", "j", "k"] (liftSp ⟨K, Z⟩ 3 (sem (k + 1) .law_p)) := by
  refine fn_okD (K := ⟨K, Z⟩) (modes := [false, false, false]) t.law_p.F sc_law_p rfl (by decide) fun A outer s H E hr2 => ?_
  have hr := hr2.mono (Nat.le_succ _)
  have hu := hr.units
  have hw := roomW hr
  have nd := sc_law_p.nd
  exact (qss_cons (qs_if (qt_cmp (opd_eq hu) (qe_var (pv 2)) qe_int (nomark _)) (qss_one (qs_ret (qe_tup 2 (qa_cons qe_str (qa_cons (qe_tup 0 qa_nil) qa_nil))))) qss_nil)
  (qss_cons (qs_if (qt_cmp opd_gt (qe_var (pv 2)) (qe_var (pv 1)) (nomark _)) (qss_one (qs_ret (qe_tup 2 (qa_cons qe_str (qa_cons (qe_tup 0 qa_nil) qa_nil))))) qss_nil)
  (qss_one (qs_ret (qe_tup 2 (qa_cons qe_str (qa_cons (qe_tup 2 (qa_cons (qe_call (modes := [false, false, false]) (dts := []) (G .law_p) hr (by rfl) t.law_p.g t.law_p.F.kp t.law_p.b .nil (fun _ _ => .nil) rfl (qf_of (qa_cons (qe_var (pv 0)) (qa_cons (qe_op opd_sub (qe_var (pv 1)) qe_int) (qa_cons (qe_var (pv 2)) qa_nil))))) (qa_cons (qe_tup 2 (qa_cons qe_str (qa_cons (qe_tup 2 (qa_cons (qe_ix (qe_var (pv 0)) (qe_op opd_sub (qe_var (pv 1)) qe_int) (fun _ _ => rfl)) (qa_cons (qe_call (modes := [false, false, false]) (dts := []) (G .law_p) hr (by rfl) t.law_p.g t.law_p.F.kp t.law_p.b .nil (fun _ _ => .nil) rfl (qf_of (qa_cons (qe_var (pv 0)) (qa_cons (qe_op opd_sub (qe_var (pv 1)) qe_int) (qa_cons (qe_op opd_sub (qe_var (pv 2)) qe_int) qa_nil))))) qa_nil))) qa_nil))) qa_nil))) qa_nil)))))))
theorem w_law_levels {k : Nat} (t : Top K Z mg base fa ft) (G : AllOk P w K Z mg base fa ft k) : FnOk P w K mg base CX0 (2 * k + 1 + 1) (fa .law_levels) (ft .law_levels) ["book", "names", "worlds", "places", "ladder"] (liftSp ⟨K, Z⟩ 5 (sem (k + 1) .law_levels)) := by
  refine fn_okD (K := ⟨K, Z⟩) (modes := [false, false, false, false, false]) t.law_levels.F sc_law_levels rfl (by decide) fun A outer s H E hr2 => ?_
  have hr := hr2.mono (Nat.le_succ _)
  have hu := hr.units
  have hw := roomW hr
  have nd := sc_law_levels.nd
  exact (qss_cons (qs_set (i := 5) nd rfl (by first | exact Or.inl rfl | exact Or.inr rfl) (qe_callB cd_len (by rfl) t.z_len (by decide +kernel) (qa_cons (qe_var (pv 3)) qa_nil)))
  (qss_cons (qs_for (is := [6]) PassesOwn.never rfl (qi_range1 (by rfl) t.z_range (qe_op opd_add (qe_var (pv 5)) qe_int)) (qg_name (pg_name (i := 6) nd rfl (by first | exact Or.inl rfl | exact Or.inr rfl))) (qss_cons (qs_setLc (i := 7) (own := [("world", 10)]) rfl nd rfl rfl (sw_true rfl rfl rfl (by decide +kernel)) (qi_any (qe_var (pv 2))) (blkOk_by (by kernel_rfl)) (fun _ _ _ _ _ => (qg_name (pg_name (i := 10) nd rfl (by first | exact Or.inl rfl | exact Or.inr rfl)))) (fun _ _ _ _ _ => (qts_one (qt_cmp (opd_eq hu) (qe_call (modes := [false, false]) (dts := []) (G .law_count) hr (by rfl) t.law_count.g t.law_count.F.kp t.law_count.b .nil (fun _ _ => .nil) rfl (qf_of (qa_cons (qe_var (pv 3)) (qa_cons (qe_var (pv 10)) qa_nil)))) (qe_var (pv 6)) (nomark _)))) (fun _ _ _ _ _ => (qe_var (pv 10))))
  (qss_cons (qs_if (qt_not (qt_truth (qe_call (modes := [false, false]) (dts := []) (G .law_same) hr (by rfl) t.law_same.g t.law_same.F.kp t.law_same.b .nil (fun _ _ => .nil) rfl (qf_of (qa_cons (qe_call (modes := [false, false, false, false]) (dts := []) (G .leaf_worlds) hr (by rfl) t.leaf_worlds.g t.leaf_worlds.F.kp t.leaf_worlds.b .nil (fun _ _ => .nil) rfl (qf_of (qa_cons (qe_var (pv 0)) (qa_cons (qe_var (pv 1)) (qa_cons (qe_tup 1 (qa_cons (qe_var (pv 4)) qa_nil)) (qa_cons (qe_tup 1 (qa_cons (qe_var (pv 6)) qa_nil)) qa_nil)))))) (qa_cons (qe_callTy cd_tuple (by rfl) t.z_tuple (by decide +kernel) (qa_cons (qe_var (pv 7)) qa_nil)) qa_nil)))))) (qss_one (qs_ret qe_bl)) qss_nil)
  (qss_one (qs_for (is := [8]) PassesOwn.never rfl (qi_range1 (by rfl) t.z_range (qe_var (pv 5))) (qg_name (pg_name (i := 8) nd rfl (by first | exact Or.inl rfl | exact Or.inr rfl))) (qss_cons (qs_set (i := 9) nd rfl (by first | exact Or.inl rfl | exact Or.inr rfl) (qe_call (modes := [false, false, false, false]) (dts := []) (G .others) hr (by rfl) t.others.g t.others.F.kp t.others.b .nil (fun _ _ => .nil) rfl (qf_of (qa_cons (qe_var (pv 3)) (qa_cons (qe_var (pv 8)) (qa_cons (qe_var (pv 5)) (qa_cons (qe_var (pv 6)) qa_nil)))))))
  (qss_cons (qs_if (qt_not (qt_truth (qe_call (modes := [false, false]) (dts := []) (G .law_same) hr (by rfl) t.law_same.g t.law_same.F.kp t.law_same.b .nil (fun _ _ => .nil) rfl (qf_of (qa_cons (qe_var (pv 9)) (qa_cons (qe_call (modes := [false, false, false, false]) (dts := []) (G .law_q) hr (by rfl) t.law_q.g t.law_q.F.kp t.law_q.b .nil (fun _ _ => .nil) rfl (qf_of (qa_cons (qe_var (pv 3)) (qa_cons (qe_var (pv 8)) (qa_cons (qe_var (pv 5)) (qa_cons (qe_var (pv 6)) qa_nil)))))) qa_nil)))))) (qss_one (qs_ret qe_bl)) qss_nil)
  (qss_one (qs_for (is := [10]) PassesOwn.never rfl (qi_any (qe_var (pv 7))) (qg_name (pg_name (i := 10) nd rfl (by first | exact Or.inl rfl | exact Or.inr rfl))) (qss_one (qs_if (qt_cmp (opd_eq hu) (qe_call (modes := [false, false]) (dts := []) (G .law_on) hr (by rfl) t.law_on.g t.law_on.F.kp t.law_on.b .nil (fun _ _ => .nil) rfl (qf_of (qa_cons (qe_var (pv 9)) (qa_cons (qe_var (pv 10)) qa_nil)))) (qe_call (modes := [false, false]) (dts := []) (G .law_on) hr (by rfl) t.law_on.g t.law_on.F.kp t.law_on.b .nil (fun _ _ => .nil) rfl (qf_of (qa_cons (qe_ix (qe_var (pv 3)) (qe_var (pv 8)) (fun _ _ => rfl)) (qa_cons (qe_var (pv 10)) qa_nil)))) (nomark _)) (qss_one (qs_ret qe_bl)) qss_nil)))))))))))
  (qss_one (qs_ret (qe_call (modes := [false, false]) (dts := []) (G .law_same) hr (by rfl) t.law_same.g t.law_same.F.kp t.law_same.b .nil (fun _ _ => .nil) rfl (qf_of (qa_cons (qe_call (modes := [false]) (dts := []) (G .leaves_of) hr (by rfl) t.leaves_of.g t.leaves_of.F.kp t.leaves_of.b .nil (fun _ _ => .nil) rfl (qf_of (qa_cons (qe_tup 1 (qa_cons (qe_var (pv 4)) qa_nil)) qa_nil))) (qa_cons (qe_callTy cd_tuple (by rfl) t.z_tuple (by decide +kernel) (qa_cons (qe_lc (own := [("k", 6)]) rfl nd (qi_range1 (by rfl) t.z_range (qe_op opd_add (qe_var (pv 5)) qe_int)) (blkOk_by (by kernel_rfl)) (fun _ _ _ _ _ => (qg_name (pg_name (i := 6) nd rfl (by first | exact Or.inl rfl | exact Or.inr rfl)))) (fun _ _ _ _ _ => qts_nil) (fun _ _ _ _ _ => (qe_tup 1 (qa_cons (qe_var (pv 6)) qa_nil)))) qa_nil)) qa_nil))))))))
theorem w_law_bent {k : Nat} (t : Top K Z mg base fa ft) (G : AllOk P w K Z mg base fa ft k) : FnOk P w K mg base CX0 (2 * k + 1 + 1) (fa .law_bent) (ft .law_bent) ["cell", "places"] (liftSp ⟨K, Z⟩ 2 (sem (k + 1) .law_bent)) := by
  refine fn_okD (K := ⟨K, Z⟩) (modes := [false, false]) t.law_bent.F sc_law_bent rfl (by decide) fun A outer s H E hr2 => ?_
  have hr := hr2.mono (Nat.le_succ _)
  have hu := hr.units
  have hw := roomW hr
  have nd := sc_law_bent.nd
  exact (qss_cons (qs_set (i := 2) nd rfl (by first | exact Or.inl rfl | exact Or.inr rfl) (qe_call (modes := [false, false]) (dts := []) (G .law_digits) hr (by rfl) t.law_digits.g t.law_digits.F.kp t.law_digits.b .nil (fun _ _ => .nil) rfl (qf_of (qa_cons (qe_var (pv 0)) (qa_cons (qe_op opd_mul (qe_lst 1 (qa_cons qe_int qa_nil)) qe_int) qa_nil)))))
  (qss_cons (qs_set (i := 3) nd rfl (by first | exact Or.inl rfl | exact Or.inr rfl) (qe_call (modes := [false, true, false, false]) (dts := []) (G .law_over_vivv) hr (by rfl) t.law_over_vivv.g t.law_over_vivv.F.kp t.law_over_vivv.b .nil (fun _ _ => .nil) rfl (qf_skip (qe_var (pv 2)) (qf_here (qe_lst 1 (qa_cons qe_int qa_nil)) (qa_cons (qe_var (pv 1)) (qa_cons (qe_op opd_add qe_int (qe_call (modes := [false, true, false]) (dts := []) (G .law_take_viv) hr (by rfl) t.law_take_viv.g t.law_take_viv.F.kp t.law_take_viv.b .nil (fun _ _ => .nil) rfl (qf_skip (qe_var (pv 2)) (qf_here (qe_lst 1 (qa_cons qe_int qa_nil)) (qa_cons qe_int qa_nil))))) qa_nil))))))
  (qss_cons (qs_if (qt_cmp opd_gt (qe_call (modes := [false]) (dts := []) (G .law_size) hr (by rfl) t.law_size.g t.law_size.F.kp t.law_size.b .nil (fun _ _ => .nil) rfl (qf_of (qa_cons (qe_var (pv 3)) qa_nil))) qe_int (nomark _)) (qss_one (qs_ret (qe_tup 2 (qa_cons qe_str (qa_cons (qe_tup 2 (qa_cons (qe_tup 2 (qa_cons qe_str (qa_cons (qe_ix (qe_var (pv 1)) qe_int (fun _ _ => rfl)) qa_nil))) (qa_cons (qe_ix (qe_var (pv 1)) (qe_neg qe_int) (fun _ _ => rfl)) qa_nil))) qa_nil))))) qss_nil)
  (qss_one (qs_ret (qe_var (pv 3)))))))
theorem w_find_misfit {k : Nat} (t : Top K Z mg base fa ft) (G : AllOk P w K Z mg base fa ft k) : FnOk P w K mg base CX0 (2 * k + 1 + 1) (fa .find_misfit) (ft .find_misfit) ["book", "names", "plan", "formulas", "signs"] (liftSp ⟨K, Z⟩ 5 (sem (k + 1) .find_misfit)) := by
  refine fn_okD (K := ⟨K, Z⟩) (modes := [false, false, false, false, false]) t.find_misfit.F sc_find_misfit rfl (by decide) fun A outer s H E hr2 => ?_
  have hr := hr2.mono (Nat.le_succ _)
  have hu := hr.units
  have hw := roomW hr
  have nd := sc_find_misfit.nd
  exact (qss_cons (qs_set (i := 5) nd rfl (by first | exact Or.inl rfl | exact Or.inr rfl) (qe_call (modes := [false, false]) (dts := []) (G .worlds_of) hr (by rfl) t.worlds_of.g t.worlds_of.F.kp t.worlds_of.b .nil (fun _ _ => .nil) rfl (qf_of (qa_cons (qe_var (pv 0)) (qa_cons (qe_var (pv 1)) qa_nil)))))
  (qss_cons (qs_set (i := 6) nd rfl (by first | exact Or.inl rfl | exact Or.inr rfl) (qe_lc (own := [("world", 12)]) rfl nd (qi_any (qe_var (pv 5))) (blkOk_by (by kernel_rfl)) (fun _ _ _ _ _ => (qg_name (pg_name (i := 12) nd rfl (by first | exact Or.inl rfl | exact Or.inr rfl)))) (fun _ _ _ _ _ => qts_nil) (fun _ _ _ _ _ => (qe_call (modes := [false, false]) (dts := []) (G .levels_of) hr (by rfl) t.levels_of.g t.levels_of.F.kp t.levels_of.b .nil (fun _ _ => .nil) rfl (qf_of (qa_cons (qe_var (pv 2)) (qa_cons (qe_var (pv 12)) qa_nil)))))))
  (qss_cons (qs_set (i := 7) nd rfl (by first | exact Or.inl rfl | exact Or.inr rfl) (qe_callTy cd_tuple (by rfl) t.z_tuple (by decide +kernel) (qa_cons (qe_lc (own := [("world", 12)]) rfl nd (qi_any (qe_var (pv 5))) (blkOk_by (by kernel_rfl)) (fun _ _ _ _ _ => (qg_name (pg_name (i := 12) nd rfl (by first | exact Or.inl rfl | exact Or.inr rfl)))) (fun _ _ _ _ _ => qts_nil) (fun _ _ _ _ _ => (qe_call (modes := [false, false]) (dts := []) (G .picture_of) hr (by rfl) t.picture_of.g t.picture_of.F.kp t.picture_of.b .nil (fun _ _ => .nil) rfl (qf_of (qa_cons (qe_var (pv 3)) (qa_cons (qe_var (pv 12)) qa_nil)))))) qa_nil)))
  (qss_cons (qs_set (i := 8) nd rfl (by first | exact Or.inl rfl | exact Or.inr rfl) (qe_callTy cd_tuple (by rfl) t.z_tuple (by decide +kernel) (qa_cons (qe_lc (own := [("world", 12)]) rfl nd (qi_any (qe_var (pv 5))) (blkOk_by (by kernel_rfl)) (fun _ _ _ _ _ => (qg_name (pg_name (i := 12) nd rfl (by first | exact Or.inl rfl | exact Or.inr rfl)))) (fun _ _ _ _ _ => qts_nil) (fun _ _ _ _ _ => (qe_call (modes := [false, false]) (dts := []) (G .signature_of) hr (by rfl) t.signature_of.g t.signature_of.F.kp t.signature_of.b .nil (fun _ _ => .nil) rfl (qf_of (qa_cons (qe_var (pv 4)) (qa_cons (qe_var (pv 12)) qa_nil)))))) qa_nil)))
  (qss_cons (qs_for (is := [9]) PassesOwn.never rfl (qi_any (qe_call (modes := [false]) (dts := []) (G .leaves_of) hr (by rfl) t.leaves_of.g t.leaves_of.F.kp t.leaves_of.b .nil (fun _ _ => .nil) rfl (qf_of (qa_cons (qe_var (pv 2)) qa_nil)))) (qg_name (pg_name (i := 9) nd rfl (by first | exact Or.inl rfl | exact Or.inr rfl))) (qss_cons (qs_set (i := 10) nd rfl (by first | exact Or.inl rfl | exact Or.inr rfl) (qe_callTy cd_tuple (by rfl) t.z_tuple (by decide +kernel) (qa_cons (qe_lc (own := [("index", 13)]) rfl nd (qi_range1 (by rfl) t.z_range (qe_callB cd_len (by rfl) t.z_len (by decide +kernel) (qa_cons (qe_var (pv 5)) qa_nil))) (blkOk_by (by kernel_rfl)) (fun _ _ _ _ _ => (qg_name (pg_name (i := 13) nd rfl (by first | exact Or.inl rfl | exact Or.inr rfl)))) (fun _ _ _ _ _ => (qts_one (qt_truth (qe_call (modes := [false, false]) (dts := []) (G .stands_on) hr (by rfl) t.stands_on.g t.stands_on.F.kp t.stands_on.b .nil (fun _ _ => .nil) rfl (qf_of (qa_cons (qe_ix (qe_var (pv 6)) (qe_var (pv 13)) (fun _ _ => rfl)) (qa_cons (qe_var (pv 9)) qa_nil))))))) (fun _ _ _ _ _ => (qe_var (pv 13)))) qa_nil)))
  (qss_cons (qs_set (i := 11) nd rfl (by first | exact Or.inl rfl | exact Or.inr rfl) (qe_call (modes := [false, false, false, false]) (dts := []) (G .misfit_in) hr (by rfl) t.misfit_in.g t.misfit_in.F.kp t.misfit_in.b .nil (fun _ _ => .nil) rfl (qf_of (qa_cons (qe_var (pv 10)) (qa_cons (qe_var (pv 7)) (qa_cons (qe_var (pv 8)) (qa_cons (qe_var (pv 5)) qa_nil)))))))
  (qss_one (qs_if (qt_cmp opd_isnot (qe_var (pv 11)) qe_non (nomark _)) (qss_one (qs_ret (qe_tup 3 (qa_cons (qe_var (pv 9)) (qa_cons (qe_ix (qe_var (pv 11)) qe_int (fun _ _ => rfl)) (qa_cons (qe_ix (qe_var (pv 11)) qe_int (fun _ _ => rfl)) qa_nil)))))) qss_nil)))))
  (qss_one (qs_ret qe_non)))))))
theorem w_law_digits {k : Nat} (t : Top K Z mg base fa ft) (G : AllOk P w K Z mg base fa ft k) : FnOk P w K mg base CX0 (2 * k + 1 + 1) (fa .law_digits) (ft .law_digits) ["cell", "sizes"] (liftSp ⟨K, Z⟩ 2 (sem (k + 1) .law_digits)) := by
  refine fn_okD (K := ⟨K, Z⟩) (modes := [false, false]) t.law_digits.F sc_law_digits rfl (by decide) fun A outer s H E hr2 => ?_
  have hr := hr2.mono (Nat.le_succ _)
  have hu := hr.units
  have hw := roomW hr
  have nd := sc_law_digits.nd
  exact (qss_cons (qs_set (i := 2) nd rfl (by first | exact Or.inl rfl | exact Or.inr rfl) (qe_lst 0 qa_nil))
  (qss_cons (qs_set (i := 3) nd rfl (by first | exact Or.inl rfl | exact Or.inr rfl) (qe_callTy cd_int (by rfl) t.z_int (by decide +kernel) (qa_cons (qe_var (pv 0)) qa_nil)))
  (qss_cons (qs_if (qt_cmp opd_ge (qe_var (pv 3)) (qe_op opd_pow qe_int qe_int) (nomark _)) (qss_cons (qs_set (i := 3) nd rfl (by first | exact Or.inl rfl | exact Or.inr rfl) (qe_op opd_sub (qe_var (pv 3)) (qe_op opd_pow qe_int qe_int)))
  (qss_cons (qs_for (is := [4]) PassesOwn.never rfl (qi_any (qe_var (pv 1))) (qg_name (pg_name (i := 4) nd rfl (by first | exact Or.inl rfl | exact Or.inr rfl))) (qss_cons (qs_append (i := 2) (pv 2) (qe_op opd_mod (qe_callTy cd_int (by rfl) t.z_int (by decide +kernel) (qa_cons (qe_var (pv 3)) qa_nil)) (qe_var (pv 4))))
  (qss_one (qs_set (i := 3) nd rfl (by first | exact Or.inl rfl | exact Or.inr rfl) (qe_op opd_fdiv (qe_callTy cd_int (by rfl) t.z_int (by decide +kernel) (qa_cons (qe_var (pv 3)) qa_nil)) (qe_var (pv 4)))))))
  (qss_one (qs_ret (qe_var (pv 2)))))) qss_nil)
  (qss_cons (qs_set (i := 5) nd rfl (by first | exact Or.inl rfl | exact Or.inr rfl) (qe_op opd_mod (qe_callTy cd_int (by rfl) t.z_int (by decide +kernel) (qa_cons (qe_var (pv 3)) qa_nil)) qe_int))
  (qss_cons (qs_for (is := [6]) PassesOwn.never rfl (qi_range1 (by rfl) t.z_range (qe_callB cd_len (by rfl) t.z_len (by decide +kernel) (qa_cons (qe_var (pv 1)) qa_nil))) (qg_name (pg_name (i := 6) nd rfl (by first | exact Or.inl rfl | exact Or.inr rfl))) (qss_cons (qs_set (i := 5) nd rfl (by first | exact Or.inl rfl | exact Or.inr rfl) (qe_op opd_mod (qe_callTy cd_int (by rfl) t.z_int (by decide +kernel) (qa_cons (qe_op opd_add (qe_op opd_add (qe_op opd_mul (qe_var (pv 5)) qe_int) (qe_op opd_mul qe_int (qe_var (pv 6)))) qe_int) qa_nil)) qe_int))
  (qss_cons (qs_set (i := 7) nd rfl (by first | exact Or.inl rfl | exact Or.inr rfl) (qe_op opd_mod (qe_callTy cd_int (by rfl) t.z_int (by decide +kernel) (qa_cons (qe_op opd_mul (qe_var (pv 5)) (qe_op opd_add (qe_op opd_fdiv (qe_var (pv 5)) qe_int) qe_int)) qa_nil)) qe_int))
  (qss_one (qs_append (i := 2) (pv 2) (qe_op opd_mod (qe_op opd_fdiv (qe_var (pv 7)) qe_int) (qe_ix (qe_var (pv 1)) (qe_var (pv 6)) (fun _ _ => rfl))))))))
  (qss_one (qs_ret (qe_var (pv 2)))))))))
theorem w_law_spoilt {k : Nat} (t : Top K Z mg base fa ft) (G : AllOk P w K Z mg base fa ft k) : FnOk P w K mg base CX0 (2 * k + 1 + 1) (fa .law_spoilt) (ft .law_spoilt) ["ladder", "picks", "names"] (liftSp ⟨K, Z⟩ 3 (sem (k + 1) .law_spoilt)) := by
  refine fn_okD (K := ⟨K, Z⟩) (modes := [false, false, false]) t.law_spoilt.F sc_law_spoilt rfl (by decide) fun A outer s H E hr2 => ?_
  have hr := hr2.mono (Nat.le_succ _)
  have hu := hr.units
  have hw := roomW hr
  have nd := sc_law_spoilt.nd
  exact (qss_cons (qs_set (i := 3) nd rfl (by first | exact Or.inl rfl | exact Or.inr rfl) (qe_callTy cd_list (by rfl) t.z_list (by decide +kernel) (qa_cons (qe_var (pv 0)) qa_nil)))
  (qss_cons (qs_set (i := 4) nd rfl (by first | exact Or.inl rfl | exact Or.inr rfl) (qe_tup 2 (qa_cons qe_str (qa_cons (qe_ix (qe_var (pv 2)) (qe_op opd_mod (qe_callTy cd_int (by rfl) t.z_int (by decide +kernel) (qa_cons (qe_ix (qe_var (pv 1)) qe_int (fun _ _ => rfl)) qa_nil)) (qe_callB cd_len (by rfl) t.z_len (by decide +kernel) (qa_cons (qe_var (pv 2)) qa_nil))) (fun _ _ => rfl)) qa_nil))))
  (qss_cons (qs_if (qt_cmp (opd_eq hu) (qe_callB cd_len (by rfl) t.z_len (by decide +kernel) (qa_cons (qe_var (pv 3)) qa_nil)) qe_int (nomark _)) (qss_one (qs_ret (qe_tup 1 (qa_cons (qe_var (pv 4)) qa_nil)))) qss_nil)
  (qss_cons (qs_set (i := 5) nd rfl (by first | exact Or.inl rfl | exact Or.inr rfl) (qe_op opd_mod (qe_callTy cd_int (by rfl) t.z_int (by decide +kernel) (qa_cons (qe_ix (qe_var (pv 1)) qe_int (fun _ _ => rfl)) qa_nil)) (qe_callB cd_len (by rfl) t.z_len (by decide +kernel) (qa_cons (qe_var (pv 3)) qa_nil))))
  (qss_cons (qs_set (i := 6) nd rfl (by first | exact Or.inl rfl | exact Or.inr rfl) (qe_op opd_mod (qe_callTy cd_int (by rfl) t.z_int (by decide +kernel) (qa_cons (qe_op opd_add (qe_op opd_add (qe_var (pv 5)) qe_int) (qe_op opd_mod (qe_callTy cd_int (by rfl) t.z_int (by decide +kernel) (qa_cons (qe_ix (qe_var (pv 1)) qe_int (fun _ _ => rfl)) qa_nil)) (qe_callB (cd_max rfl) (by rfl) t.z_max (by decide +kernel) (qa_cons qe_int (qa_cons (qe_op opd_sub (qe_callB cd_len (by rfl) t.z_len (by decide +kernel) (qa_cons (qe_var (pv 3)) qa_nil)) qe_int) qa_nil))))) qa_nil)) (qe_callB cd_len (by rfl) t.z_len (by decide +kernel) (qa_cons (qe_var (pv 3)) qa_nil))))
  (qss_cons (qs_if (qt_cmp opd_lt (qe_ix (qe_var (pv 1)) qe_int (fun _ _ => rfl)) qe_int (nomark _)) (qss_one (qs_ret (qe_callTy cd_tuple (by rfl) t.z_tuple (by decide +kernel) (qa_cons (qe_op opd_add (qe_slice (qe_var (pv 3)) qo_none (qo_some (qe_var (pv 5)))) (qe_slice (qe_var (pv 3)) (qo_some (qe_op opd_add (qe_var (pv 5)) qe_int)) qo_none)) qa_nil)))) qss_nil)
  (qss_cons (qs_if (qt_cmp opd_lt (qe_ix (qe_var (pv 1)) qe_int (fun _ _ => rfl)) qe_int (nomark _)) (qss_cons (qs_set (i := 7) nd rfl (by first | exact Or.inl rfl | exact Or.inr rfl) (qe_ix (qe_var (pv 3)) (qe_var (pv 5)) (fun _ _ => rfl)))
  (qss_cons (qs_setix (pv 3) (qe_var (pv 5)) (qe_ix (qe_var (pv 3)) (qe_var (pv 6)) (fun _ _ => rfl)))
  (qss_one (qs_setix (pv 3) (qe_var (pv 6)) (qe_var (pv 7)))))) (qss_one (qs_if (qt_cmp (opd_eq hu) (qe_ix (qe_var (pv 1)) qe_int (fun _ _ => rfl)) qe_int (nomark _)) (qss_one (qs_set (i := 3) nd rfl (by first | exact Or.inl rfl | exact Or.inr rfl) (qe_op opd_add (qe_op opd_add (qe_slice (qe_var (pv 3)) qo_none (qo_some (qe_var (pv 5)))) (qe_lst 1 (qa_cons (qe_ix (qe_var (pv 3)) (qe_var (pv 6)) (fun _ _ => rfl)) qa_nil))) (qe_slice (qe_var (pv 3)) (qo_some (qe_var (pv 5))) qo_none)))) (qss_one (qs_setix (pv 3) (qe_var (pv 5)) (qe_var (pv 4)))))))
  (qss_one (qs_ret (qe_callTy cd_tuple (by rfl) t.z_tuple (by decide +kernel) (qa_cons (qe_var (pv 3)) qa_nil)))))))))))
theorem w_law_told {k : Nat} (t : Top K Z mg base fa ft) (G : AllOk P w K Z mg base fa ft k) : FnOk P w K mg base CX0 (2 * k + 1 + 1) (fa .law_told) (ft .law_told) ["told", "due"] (liftSp ⟨K, Z⟩ 2 (sem (k + 1) .law_told)) := by
  refine fn_okD (K := ⟨K, Z⟩) (modes := [false, false]) t.law_told.F sc_law_told rfl (by decide) fun A outer s H E hr2 => ?_
  have hr := hr2.mono (Nat.le_succ _)
  have hu := hr.units
  have hw := roomW hr
  have nd := sc_law_told.nd
  exact (qss_cons (qs_if (qt_cmp opd_is (qe_var (pv 1)) qe_non (nomark _)) (qss_one (qs_ret (qe_cmp opd_is (qe_var (pv 0)) qe_non (nomark _)))) qss_nil)
  (qss_one (qs_ret (qe_call (modes := [false, false]) (dts := []) (G .law_same) hr (by rfl) t.law_same.g t.law_same.F.kp t.law_same.b .nil (fun _ _ => .nil) rfl (qf_of (qa_cons (qe_var (pv 0)) (qa_cons (qe_var (pv 1)) qa_nil)))))))
theorem w_law_misfit {k : Nat} (t : Top K Z mg base fa ft) (G : AllOk P w K Z mg base fa ft k) : FnOk P w K mg base CX0 (2 * k + 1 + 1) (fa .law_misfit) (ft .law_misfit) ["worlds", "ladder", "formulas"] (liftSp ⟨K, Z⟩ 3 (sem (k + 1) .law_misfit)) := by
  refine fn_okD (K := ⟨K, Z⟩) (modes := [false, false, false]) t.law_misfit.F sc_law_misfit rfl (by decide) fun A outer s H E hr2 => ?_
  have hr := hr2.mono (Nat.le_succ _)
  have hu := hr.units
  have hw := roomW hr
  have nd := sc_law_misfit.nd
  exact (qss_cons (qs_set (i := 3) nd rfl (by first | exact Or.inl rfl | exact Or.inr rfl) (qe_op opd_add (qe_op opd_add (qe_lst 1 (qa_cons (qe_tup 2 (qa_cons qe_str (qa_cons (qe_tup 0 qa_nil) qa_nil))) qa_nil)) (qe_callTy cd_list (by rfl) t.z_list (by decide +kernel) (qa_cons (qe_var (pv 1)) qa_nil))) (qe_lst 1 (qa_cons (qe_tup 2 (qa_cons qe_str (qa_cons (qe_tup 0 qa_nil) qa_nil))) qa_nil))))
  (qss_cons (qs_for (is := [4]) PassesOwn.never rfl (qi_range1 (by rfl) t.z_range (qe_op opd_add (qe_callB cd_len (by rfl) t.z_len (by decide +kernel) (qa_cons (qe_var (pv 1)) qa_nil)) qe_int)) (qg_name (pg_name (i := 4) nd rfl (by first | exact Or.inl rfl | exact Or.inr rfl))) (qss_cons (qs_setLc (i := 5) (own := [("world", 9)]) rfl nd rfl rfl (sw_true rfl rfl rfl (by decide +kernel)) (qi_any (qe_var (pv 0))) (blkOk_by (by kernel_rfl)) (fun _ _ _ _ _ => (qg_name (pg_name (i := 9) nd rfl (by first | exact Or.inl rfl | exact Or.inr rfl)))) (fun _ _ _ _ _ => (qts_one (PW.pt (qw_and (qt_truth (qe_call (modes := [false, false]) (dts := []) (G .law_on) hr (by rfl) t.law_on.g t.law_on.F.kp t.law_on.b .nil (fun _ _ => .nil) rfl (qf_of (qa_cons (qe_ix (qe_var (pv 3)) (qe_var (pv 4)) (fun _ _ => rfl)) (qa_cons (qe_var (pv 9)) qa_nil))))) (qw_and1 (qt_not (qt_truth (qe_call (modes := [false, false]) (dts := []) (G .law_on) hr (by rfl) t.law_on.g t.law_on.F.kp t.law_on.b .nil (fun _ _ => .nil) rfl (qf_of (qa_cons (qe_ix (qe_var (pv 3)) (qe_op opd_add (qe_var (pv 4)) qe_int) (fun _ _ => rfl)) (qa_cons (qe_var (pv 9)) qa_nil))))))))))) (fun _ _ _ _ _ => (qe_var (pv 9))))
  (qss_cons (qs_setLc (i := 6) (own := [("world", 9)]) rfl nd rfl rfl (sw_true rfl rfl rfl (by decide +kernel)) (qi_any (qe_var (pv 5))) (blkOk_by (by kernel_rfl)) (fun _ _ _ _ _ => (qg_name (pg_name (i := 9) nd rfl (by first | exact Or.inl rfl | exact Or.inr rfl)))) (fun _ _ _ _ _ => qts_nil) (fun _ _ _ _ _ => (qe_call (modes := [false, false]) (dts := []) (G .law_picture) hr (by rfl) t.law_picture.g t.law_picture.F.kp t.law_picture.b .nil (fun _ _ => .nil) rfl (qf_of (qa_cons (qe_var (pv 2)) (qa_cons (qe_var (pv 9)) qa_nil))))))
  (qss_one (qs_for (is := [7]) PassesOwn.never rfl (qi_range1 (by rfl) t.z_range (qe_callB cd_len (by rfl) t.z_len (by decide +kernel) (qa_cons (qe_var (pv 5)) qa_nil))) (qg_name (pg_name (i := 7) nd rfl (by first | exact Or.inl rfl | exact Or.inr rfl))) (qss_one (qs_for (is := [8]) PassesOwn.never rfl (qi_range1 (by rfl) t.z_range (qe_callB cd_len (by rfl) t.z_len (by decide +kernel) (qa_cons (qe_var (pv 5)) qa_nil))) (qg_name (pg_name (i := 8) nd rfl (by first | exact Or.inl rfl | exact Or.inr rfl))) (qss_one (qs_if (PW.pt (qw_and (qt_cmp (opd_ne hu) (qe_ix (qe_var (pv 6)) (qe_var (pv 7)) (fun _ _ => rfl)) (qe_ix (qe_var (pv 6)) (qe_var (pv 8)) (fun _ _ => rfl)) (nomark _)) (qw_and1 (qt_truth (qe_call (modes := [false, false]) (dts := []) (G .law_below) hr (by rfl) t.law_below.g t.law_below.F.kp t.law_below.b .nil (fun _ _ => .nil) rfl (qf_of (qa_cons (qe_ix (qe_var (pv 5)) (qe_var (pv 7)) (fun _ _ => rfl)) (qa_cons (qe_ix (qe_var (pv 5)) (qe_var (pv 8)) (fun _ _ => rfl)) qa_nil)))))))) (qss_one (qs_ret (qe_tup 3 (qa_cons (qe_tup 1 (qa_cons (qe_var (pv 4)) qa_nil)) (qa_cons (qe_ix (qe_var (pv 5)) (qe_var (pv 7)) (fun _ _ => rfl)) (qa_cons (qe_ix (qe_var (pv 5)) (qe_var (pv 8)) (fun _ _ => rfl)) qa_nil)))))) qss_nil)))))))))
  (qss_one (qs_ret qe_non))))
theorem w_law_ascending {k : Nat} (t : Top K Z mg base fa ft) (G : AllOk P w K Z mg base fa ft k) : FnOk P w K mg base CX0 (2 * k + 1 + 1) (fa .law_ascending) (ft .law_ascending) ["items"] (liftSp ⟨K, Z⟩ 1 (sem (k + 1) .law_ascending)) := by
  refine fn_okD (K := ⟨K, Z⟩) (modes := [false]) t.law_ascending.F sc_law_ascending rfl (by decide) fun A outer s H E hr2 => ?_
  have hr := hr2.mono (Nat.le_succ _)
  have hu := hr.units
  have hw := roomW hr
  have nd := sc_law_ascending.nd
  exact (qss_cons (qs_set (i := 1) nd rfl (by first | exact Or.inl rfl | exact Or.inr rfl) (qe_lst 0 qa_nil))
  (qss_cons (qs_for (is := [2]) PassesOwn.never rfl (qi_any (qe_callB (cd_sorted hw) (by rfl) t.z_sorted (by decide +kernel) (qa_cons (qe_var (pv 0)) qa_nil))) (qg_name (pg_name (i := 2) nd rfl (by first | exact Or.inl rfl | exact Or.inr rfl))) (qss_one (qs_if (PW.pt (qw_or (qt_cmp (opd_eq hu) (qe_callB cd_len (by rfl) t.z_len (by decide +kernel) (qa_cons (qe_var (pv 1)) qa_nil)) qe_int (nomark _)) (qw_or1 (qt_cmp (opd_ne hu) (qe_ix (qe_var (pv 1)) (qe_neg qe_int) (fun _ _ => rfl)) (qe_var (pv 2)) (nomark _))))) (qss_one (qs_append (i := 1) (pv 1) (qe_var (pv 2)))) qss_nil)))
  (qss_one (qs_ret (qe_callTy cd_tuple (by rfl) t.z_tuple (by decide +kernel) (qa_cons (qe_var (pv 1)) qa_nil))))))
theorem w_law_spot {k : Nat} (t : Top K Z mg base fa ft) (G : AllOk P w K Z mg base fa ft k) : FnOk P w K mg base CX0 (2 * k + 1 + 1) (fa .law_spot) (ft .law_spot) ["cell", "names"] (liftSp ⟨K, Z⟩ 2 (sem (k + 1) .law_spot)) := by
  refine fn_okD (K := ⟨K, Z⟩) (modes := [false, false]) t.law_spot.F sc_law_spot rfl (by decide) fun A outer s H E hr2 => ?_
  have hr := hr2.mono (Nat.le_succ _)
  have hu := hr.units
  have hw := roomW hr
  have nd := sc_law_spot.nd
  exact (qss_cons (qs_set (i := 2) nd rfl (by first | exact Or.inl rfl | exact Or.inr rfl) (qe_call (modes := [false, false]) (dts := []) (G .law_digits) hr (by rfl) t.law_digits.g t.law_digits.F.kp t.law_digits.b .nil (fun _ _ => .nil) rfl (qf_of (qa_cons (qe_var (pv 0)) (qa_cons (qe_op opd_mul (qe_lst 1 (qa_cons qe_int qa_nil)) qe_int) qa_nil)))))
  (qss_cons (qs_set (i := 3) nd rfl (by first | exact Or.inl rfl | exact Or.inr rfl) (qe_lst 1 (qa_cons qe_int qa_nil)))
  (qss_cons (qs_set (i := 4) nd rfl (by first | exact Or.inl rfl | exact Or.inr rfl) (qe_call (modes := [false, true, false]) (dts := []) (G .law_take_viv) hr (by rfl) t.law_take_viv.g t.law_take_viv.F.kp t.law_take_viv.b .nil (fun _ _ => .nil) rfl (qf_of (qa_cons (qe_var (pv 2)) (qa_cons (qe_var (pv 3)) (qa_cons qe_int qa_nil))))))
  (qss_cons (qs_if (qt_cmp opd_lt (qe_var (pv 4)) qe_int (nomark _)) (qss_one (qs_ret (qe_tup 2 (qa_cons qe_str (qa_cons (qe_ix (qe_var (pv 1)) (qe_op opd_mod (qe_callTy cd_int (by rfl) t.z_int (by decide +kernel) (qa_cons (qe_call (modes := [false, true, false]) (dts := []) (G .law_take_viv) hr (by rfl) t.law_take_viv.g t.law_take_viv.F.kp t.law_take_viv.b .nil (fun _ _ => .nil) rfl (qf_of (qa_cons (qe_var (pv 2)) (qa_cons (qe_var (pv 3)) (qa_cons qe_int qa_nil))))) qa_nil)) (qe_callB cd_len (by rfl) t.z_len (by decide +kernel) (qa_cons (qe_var (pv 1)) qa_nil))) (fun _ _ => rfl)) qa_nil))))) qss_nil)
  (qss_cons (qs_if (qt_cmp opd_lt (qe_var (pv 4)) qe_int (nomark _)) (qss_one (qs_ret (qe_call (modes := [false, true, false, false]) (dts := []) (G .law_formula_vivv) hr (by rfl) t.law_formula_vivv.g t.law_formula_vivv.F.kp t.law_formula_vivv.b .nil (fun _ _ => .nil) rfl (qf_of (qa_cons (qe_var (pv 2)) (qa_cons (qe_var (pv 3)) (qa_cons (qe_var (pv 1)) (qa_cons (qe_op opd_add qe_int (qe_op opd_mod (qe_callTy cd_int (by rfl) t.z_int (by decide +kernel) (qa_cons (qe_var (pv 4)) qa_nil)) qe_int)) qa_nil)))))))) qss_nil)
  (qss_one (qs_ret (qe_ix (qe_lst 2 (qa_cons (qe_tup 2 (qa_cons qe_str (qa_cons (qe_tup 0 qa_nil) qa_nil))) (qa_cons (qe_tup 2 (qa_cons qe_str (qa_cons (qe_tup 0 qa_nil) qa_nil))) qa_nil))) (qe_call (modes := [false, true, false]) (dts := []) (G .law_take_viv) hr (by rfl) t.law_take_viv.g t.law_take_viv.F.kp t.law_take_viv.b .nil (fun _ _ => .nil) rfl (qf_of (qa_cons (qe_var (pv 2)) (qa_cons (qe_var (pv 3)) (qa_cons qe_int qa_nil))))) (fun _ _ => rfl)))))))))
theorem w_law_take_viv {k : Nat} (t : Top K Z mg base fa ft) (G : AllOk P w K Z mg base fa ft k) : FnOk P w K mg base CX0 (2 * k + 1 + 1) (fa .law_take_viv) (ft .law_take_viv) ["row", "at", "size"] (liftSp ⟨K, Z⟩ 3 (sem (k + 1) .law_take_viv)) := by
  refine fn_okD (K := ⟨K, Z⟩) (modes := [false, true, false]) t.law_take_viv.F sc_law_take rfl (by decide) fun A outer s H E hr2 => ?_
  have hr := hr2.mono (Nat.le_succ _)
  have hu := hr.units
  have hw := roomW hr
  have nd := sc_law_take.nd
  exact (qss_cons (qs_set (i := 3) nd rfl (by first | exact Or.inl rfl | exact Or.inr rfl) (qe_op opd_mod (qe_callTy cd_int (by rfl) t.z_int (by decide +kernel) (qa_cons (qe_ix (qe_var (pv 0)) (qe_op opd_mod (qe_ix (qe_var (pv 1)) qe_int (fun _ _ => rfl)) (qe_callB cd_len (by rfl) t.z_len (by decide +kernel) (qa_cons (qe_var (pv 0)) qa_nil))) (fun _ _ => rfl)) qa_nil)) (qe_var (pv 2))))
  (qss_cons (qs_setix (pv 1) qe_int (qe_op opd_add (qe_ix (qe_var (pv 1)) qe_int (fun _ _ => rfl)) qe_int))
  (qss_one (qs_ret (qe_var (pv 3))))))
theorem w_law_formula_vivv {k : Nat} (t : Top K Z mg base fa ft) (G : AllOk P w K Z mg base fa ft k) : FnOk P w K mg base CX0 (2 * k + 1 + 1) (fa .law_formula_vivv) (ft .law_formula_vivv) ["row", "at", "names", "deep"] (liftSp ⟨K, Z⟩ 4 (sem (k + 1) .law_formula_vivv)) := by
  refine fn_okD (K := ⟨K, Z⟩) (modes := [false, true, false, false]) t.law_formula_vivv.F sc_law_formula rfl (by decide) fun A outer s H E hr2 => ?_
  have hr := hr2.mono (Nat.le_succ _)
  have hu := hr.units
  have hw := roomW hr
  have nd := sc_law_formula.nd
  exact (qss_cons (qs_set (i := 4) nd rfl (by first | exact Or.inl rfl | exact Or.inr rfl) (qe_call (modes := [false, true, false]) (dts := []) (G .law_take_viv) hr (by rfl) t.law_take_viv.g t.law_take_viv.F.kp t.law_take_viv.b .nil (fun _ _ => .nil) rfl (qf_of (qa_cons (qe_var (pv 0)) (qa_cons (qe_var (pv 1)) (qa_cons qe_int qa_nil))))))
  (qss_cons (qs_if (PW.pt (qw_or (qt_cmp (opd_eq hu) (qe_var (pv 3)) qe_int (nomark _)) (qw_or1 (qt_cmp opd_lt (qe_var (pv 4)) qe_int (nomark _))))) (qss_one (qs_ret (qe_tup 2 (qa_cons qe_str (qa_cons (qe_ix (qe_var (pv 2)) (qe_op opd_mod (qe_callTy cd_int (by rfl) t.z_int (by decide +kernel) (qa_cons (qe_call (modes := [false, true, false]) (dts := []) (G .law_take_viv) hr (by rfl) t.law_take_viv.g t.law_take_viv.F.kp t.law_take_viv.b .nil (fun _ _ => .nil) rfl (qf_of (qa_cons (qe_var (pv 0)) (qa_cons (qe_var (pv 1)) (qa_cons qe_int qa_nil))))) qa_nil)) (qe_callB cd_len (by rfl) t.z_len (by decide +kernel) (qa_cons (qe_var (pv 2)) qa_nil))) (fun _ _ => rfl)) qa_nil))))) qss_nil)
  (qss_cons (qs_set (i := 5) nd rfl (by first | exact Or.inl rfl | exact Or.inr rfl) (qe_lst 0 qa_nil))
  (qss_cons (qs_for (is := [6]) PassesOwn.never rfl (qi_range1 (by rfl) t.z_range (qe_ix (qe_lst 12 (qa_cons qe_int (qa_cons qe_int (qa_cons qe_int (qa_cons qe_int (qa_cons qe_int (qa_cons qe_int (qa_cons qe_int (qa_cons qe_int (qa_cons qe_int (qa_cons qe_int (qa_cons qe_int (qa_cons qe_int qa_nil))))))))))))) (qe_call (modes := [false, true, false]) (dts := []) (G .law_take_viv) hr (by rfl) t.law_take_viv.g t.law_take_viv.F.kp t.law_take_viv.b .nil (fun _ _ => .nil) rfl (qf_of (qa_cons (qe_var (pv 0)) (qa_cons (qe_var (pv 1)) (qa_cons qe_int qa_nil))))) (fun _ _ => rfl))) (qg_name (pg_name (i := 6) nd rfl (by first | exact Or.inl rfl | exact Or.inr rfl))) (qss_one (qs_append (i := 5) (pv 5) (qe_call (modes := [false, true, false, false]) (dts := []) (G .law_formula_vivv) hr (by rfl) t.law_formula_vivv.g t.law_formula_vivv.F.kp t.law_formula_vivv.b .nil (fun _ _ => .nil) rfl (qf_of (qa_cons (qe_var (pv 0)) (qa_cons (qe_var (pv 1)) (qa_cons (qe_var (pv 2)) (qa_cons (qe_op opd_sub (qe_var (pv 3)) qe_int) qa_nil)))))))))
  (qss_one (qs_ret (qe_tup 2 (qa_cons (qe_ix (qe_lst 2 (qa_cons qe_str (qa_cons qe_str qa_nil))) (qe_call (modes := [false, true, false]) (dts := []) (G .law_take_viv) hr (by rfl) t.law_take_viv.g t.law_take_viv.F.kp t.law_take_viv.b .nil (fun _ _ => .nil) rfl (qf_of (qa_cons (qe_var (pv 0)) (qa_cons (qe_var (pv 1)) (qa_cons qe_int qa_nil))))) (fun _ _ => rfl)) (qa_cons (qe_callTy cd_tuple (by rfl) t.z_tuple (by decide +kernel) (qa_cons (qe_var (pv 5)) qa_nil)) qa_nil)))))))))
theorem w_law_keeps {k : Nat} (t : Top K Z mg base fa ft) (G : AllOk P w K Z mg base fa ft k) : FnOk P w K mg base CX0 (2 * k + 1 + 1) (fa .law_keeps) (ft .law_keeps) ["world", "sequent"] (liftSp ⟨K, Z⟩ 2 (sem (k + 1) .law_keeps)) := by
  refine fn_okD (K := ⟨K, Z⟩) (modes := [false, false]) t.law_keeps.F sc_law_keeps rfl (by decide) fun A outer s H E hr2 => ?_
  have hr := hr2.mono (Nat.le_succ _)
  have hu := hr.units
  have hw := roomW hr
  have nd := sc_law_keeps.nd
  exact (qss_cons (qs_for (is := [2]) PassesOwn.never rfl (qi_any (qe_ix (qe_var (pv 1)) qe_int (fun _ _ => rfl))) (qg_name (pg_name (i := 2) nd rfl (by first | exact Or.inl rfl | exact Or.inr rfl))) (qss_one (qs_if (qt_not (qt_truth (qe_call (modes := [false, false]) (dts := []) (G .law_on) hr (by rfl) t.law_on.g t.law_on.F.kp t.law_on.b .nil (fun _ _ => .nil) rfl (qf_of (qa_cons (qe_var (pv 2)) (qa_cons (qe_var (pv 0)) qa_nil)))))) (qss_one (qs_ret qe_bl)) qss_nil)))
  (qss_cons (qs_for (is := [2]) PassesOwn.never rfl (qi_any (qe_ix (qe_var (pv 1)) qe_int (fun _ _ => rfl))) (qg_name (pg_name (i := 2) nd rfl (by first | exact Or.inl rfl | exact Or.inr rfl))) (qss_one (qs_if (qt_truth (qe_call (modes := [false, false]) (dts := []) (G .law_on) hr (by rfl) t.law_on.g t.law_on.F.kp t.law_on.b .nil (fun _ _ => .nil) rfl (qf_of (qa_cons (qe_var (pv 2)) (qa_cons (qe_var (pv 0)) qa_nil))))) (qss_one (qs_ret qe_bl)) qss_nil)))
  (qss_one (qs_ret qe_bl))))
theorem w_at_least {k : Nat} (t : Top K Z mg base fa ft) (G : AllOk P w K Z mg base fa ft k) : FnOk P w K mg base CX0 (2 * k + 1 + 1) (fa .at_least) (ft .at_least) ["places", "j", "k"] (liftSp ⟨K, Z⟩ 3 (sem (k + 1) .at_least)) := by
  refine fn_okD (K := ⟨K, Z⟩) (modes := [false, false, false]) t.at_least.F sc_at_least rfl (by decide) fun A outer s H E hr2 => ?_
  have hr := hr2.mono (Nat.le_succ _)
  have hu := hr.units
  have hw := roomW hr
  have nd := sc_at_least.nd
  exact (qss_cons (qs_if (qt_cmp (opd_eq hu) (qe_var (pv 2)) qe_int (nomark _)) (qss_one (qs_ret (qe_globT (by rfl) t.v_SURE))) qss_nil)
  (qss_cons (qs_if (qt_cmp opd_gt (qe_var (pv 2)) (qe_var (pv 1)) (nomark _)) (qss_one (qs_ret (qe_globT (by rfl) t.v_NEVER))) qss_nil)
  (qss_cons (qs_set (i := 3) nd rfl (by first | exact Or.inl rfl | exact Or.inr rfl) (qe_tup 2 (qa_cons qe_str (qa_cons (qe_tup 2 (qa_cons (qe_ix (qe_var (pv 0)) (qe_op opd_sub (qe_var (pv 1)) qe_int) (fun _ _ => rfl)) (qa_cons (qe_call (modes := [false, false, false]) (dts := []) (G .at_least) hr (by rfl) t.at_least.g t.at_least.F.kp t.at_least.b .nil (fun _ _ => .nil) rfl (qf_of (qa_cons (qe_var (pv 0)) (qa_cons (qe_op opd_sub (qe_var (pv 1)) qe_int) (qa_cons (qe_op opd_sub (qe_var (pv 2)) qe_int) qa_nil))))) qa_nil))) qa_nil))))
  (qss_one (qs_ret (qe_tup 2 (qa_cons qe_str (qa_cons (qe_tup 2 (qa_cons (qe_call (modes := [false, false, false]) (dts := []) (G .at_least) hr (by rfl) t.at_least.g t.at_least.F.kp t.at_least.b .nil (fun _ _ => .nil) rfl (qf_of (qa_cons (qe_var (pv 0)) (qa_cons (qe_op opd_sub (qe_var (pv 1)) qe_int) (qa_cons (qe_var (pv 2)) qa_nil))))) (qa_cons (qe_var (pv 3)) qa_nil))) qa_nil))))))))
theorem w_law_whole {k : Nat} (t : Top K Z mg base fa ft) (G : AllOk P w K Z mg base fa ft k) : FnOk P w K mg base CX0 (2 * k + 1 + 1) (fa .law_whole) (ft .law_whole) ["value"] (liftSp ⟨K, Z⟩ 1 (sem (k + 1) .law_whole)) := by
  refine fn_okD (K := ⟨K, Z⟩) (modes := [false]) t.law_whole.F sc_law_whole rfl (by decide) fun A outer s H E hr2 => ?_
  have hr := hr2.mono (Nat.le_succ _)
  have hu := hr.units
  have hw := roomW hr
  have nd := sc_law_whole.nd
  exact (qss_one (qs_ret (qe_and (qe_callB (cd_isi isi_int) (by rfl) t.z_isinstance (by decide +kernel) (qa_cons (qe_var (pv 0)) (qa_cons (qe_ty (by rfl) t.z_int (by decide +kernel)) qa_nil))) (qe_one (qe_not (qe_callB (cd_isi isi_bool) (by rfl) t.z_isinstance (by decide +kernel) (qa_cons (qe_var (pv 0)) (qa_cons (qe_ty (by rfl) t.z_bool (by decide +kernel)) qa_nil))))))))
theorem w_law_count {k : Nat} (t : Top K Z mg base fa ft) (G : AllOk P w K Z mg base fa ft k) : FnOk P w K mg base CX0 (2 * k + 1 + 1) (fa .law_count) (ft .law_count) ["places", "world"] (liftSp ⟨K, Z⟩ 2 (sem (k + 1) .law_count)) := by
  refine fn_okD (K := ⟨K, Z⟩) (modes := [false, false]) t.law_count.F sc_law_count rfl (by decide) fun A outer s H E hr2 => ?_
  have hr := hr2.mono (Nat.le_succ _)
  have hu := hr.units
  have hw := roomW hr
  have nd := sc_law_count.nd
  exact (qss_one (qs_ret (qe_callB (cd_sum rfl) (by rfl) t.z_sum (by decide +kernel) (qa_cons (qe_lc (own := [("place", 2)]) rfl nd (qi_any (qe_var (pv 0))) (blkOk_by (by kernel_rfl)) (fun _ _ _ _ _ => (qg_name (pg_name (i := 2) nd rfl (by first | exact Or.inl rfl | exact Or.inr rfl)))) (fun _ _ _ _ _ => qts_nil) (fun _ _ _ _ _ => (qe_callTy cd_int (by rfl) t.z_int (by decide +kernel) (qa_cons (qe_call (modes := [false, false]) (dts := []) (G .law_on) hr (by rfl) t.law_on.g t.law_on.F.kp t.law_on.b .nil (fun _ _ => .nil) rfl (qf_of (qa_cons (qe_var (pv 2)) (qa_cons (qe_var (pv 1)) qa_nil)))) qa_nil)))) qa_nil))))
theorem w_leaf_worlds {k : Nat} (t : Top K Z mg base fa ft) (G : AllOk P w K Z mg base fa ft k) : FnOk P w K mg base CX0 (2 * k + 1 + 1) (fa .leaf_worlds) (ft .leaf_worlds) ["book", "names", "plan", "leaf"] (liftSp ⟨K, Z⟩ 4 (sem (k + 1) .leaf_worlds)) := by
  refine fn_okD (K := ⟨K, Z⟩) (modes := [false, false, false, false]) t.leaf_worlds.F sc_leaf_worlds rfl (by decide) fun A outer s H E hr2 => ?_
  have hr := hr2.mono (Nat.le_succ _)
  have hu := hr.units
  have hw := roomW hr
  have nd := sc_leaf_worlds.nd
  exact (qss_cons (qs_set (i := 4) nd rfl (by first | exact Or.inl rfl | exact Or.inr rfl) (qe_call (modes := [false, false]) (dts := []) (G .worlds_of) hr (by rfl) t.worlds_of.g t.worlds_of.F.kp t.worlds_of.b .nil (fun _ _ => .nil) rfl (qf_of (qa_cons (qe_var (pv 0)) (qa_cons (qe_var (pv 1)) qa_nil)))))
  (qss_one (qs_ret (qe_callTy cd_tuple (by rfl) t.z_tuple (by decide +kernel) (qa_cons (qe_lc (own := [("world", 5)]) rfl nd (qi_any (qe_var (pv 4))) (blkOk_by (by kernel_rfl)) (fun _ _ _ _ _ => (qg_name (pg_name (i := 5) nd rfl (by first | exact Or.inl rfl | exact Or.inr rfl)))) (fun _ _ _ _ _ => (qts_one (qt_truth (qe_call (modes := [false, false]) (dts := []) (G .stands_on) hr (by rfl) t.stands_on.g t.stands_on.F.kp t.stands_on.b .nil (fun _ _ => .nil) rfl (qf_of (qa_cons (qe_call (modes := [false, false]) (dts := []) (G .levels_of) hr (by rfl) t.levels_of.g t.levels_of.F.kp t.levels_of.b .nil (fun _ _ => .nil) rfl (qf_of (qa_cons (qe_var (pv 2)) (qa_cons (qe_var (pv 5)) qa_nil)))) (qa_cons (qe_var (pv 3)) qa_nil))))))) (fun _ _ _ _ _ => (qe_var (pv 5)))) qa_nil)))))
theorem w_others {k : Nat} (t : Top K Z mg base fa ft) (G : AllOk P w K Z mg base fa ft k) : FnOk P w K mg base CX0 (2 * k + 1 + 1) (fa .others) (ft .others) ["places", "i", "j", "k"] (liftSp ⟨K, Z⟩ 4 (sem (k + 1) .others)) := by
  refine fn_okD (K := ⟨K, Z⟩) (modes := [false, false, false, false]) t.others.F sc_others rfl (by decide) fun A outer s H E hr2 => ?_
  have hr := hr2.mono (Nat.le_succ _)
  have hu := hr.units
  have hw := roomW hr
  have nd := sc_others.nd
  exact (qss_cons (qs_if (qt_cmp (opd_eq hu) (qe_var (pv 2)) (qe_op opd_add (qe_var (pv 1)) qe_int) (nomark _)) (qss_one (qs_ret (qe_call (modes := [false, false, false]) (dts := []) (G .at_least) hr (by rfl) t.at_least.g t.at_least.F.kp t.at_least.b .nil (fun _ _ => .nil) rfl (qf_of (qa_cons (qe_var (pv 0)) (qa_cons (qe_var (pv 1)) (qa_cons (qe_var (pv 3)) qa_nil))))))) qss_nil)
  (qss_cons (qs_if (qt_cmp (opd_eq hu) (qe_var (pv 3)) qe_int (nomark _)) (qss_one (qs_ret (qe_globT (by rfl) t.v_SURE))) qss_nil)
  (qss_cons (qs_if (qt_cmp opd_gt (qe_var (pv 3)) (qe_op opd_sub (qe_var (pv 2)) qe_int) (nomark _)) (qss_one (qs_ret (qe_globT (by rfl) t.v_NEVER))) qss_nil)
  (qss_cons (qs_set (i := 4) nd rfl (by first | exact Or.inl rfl | exact Or.inr rfl) (qe_tup 2 (qa_cons qe_str (qa_cons (qe_tup 2 (qa_cons (qe_ix (qe_var (pv 0)) (qe_op opd_sub (qe_var (pv 2)) qe_int) (fun _ _ => rfl)) (qa_cons (qe_call (modes := [false, false, false, false]) (dts := []) (G .others) hr (by rfl) t.others.g t.others.F.kp t.others.b .nil (fun _ _ => .nil) rfl (qf_of (qa_cons (qe_var (pv 0)) (qa_cons (qe_var (pv 1)) (qa_cons (qe_op opd_sub (qe_var (pv 2)) qe_int) (qa_cons (qe_op opd_sub (qe_var (pv 3)) qe_int) qa_nil)))))) qa_nil))) qa_nil))))
  (qss_one (qs_ret (qe_tup 2 (qa_cons qe_str (qa_cons (qe_tup 2 (qa_cons (qe_call (modes := [false, false, false, false]) (dts := []) (G .others) hr (by rfl) t.others.g t.others.F.kp t.others.b .nil (fun _ _ => .nil) rfl (qf_of (qa_cons (qe_var (pv 0)) (qa_cons (qe_var (pv 1)) (qa_cons (qe_op opd_sub (qe_var (pv 2)) qe_int) (qa_cons (qe_var (pv 3)) qa_nil)))))) (qa_cons (qe_var (pv 4)) qa_nil))) qa_nil)))))))))
theorem w_law_q {k : Nat} (t : Top K Z mg base fa ft) (G : AllOk P w K Z mg base fa ft k) : FnOk P w K mg base CX0 (2 * k + 1 + 1) (fa .law_q) (ft .law_q) ["places", "i", "j", "k"] (liftSp ⟨K, Z⟩ 4 (sem (k + 1) .law_q)) := by
  refine fn_okD (K := ⟨K, Z⟩) (modes := [false, false, false, false]) t.law_q.F sc_law_q rfl (by decide) fun A outer s H E hr2 => ?_
  have hr := hr2.mono (Nat.le_succ _)
  have hu := hr.units
  have hw := roomW hr
  have nd := sc_law_q.nd
  exact (qss_cons (qs_if (qt_cmp (opd_eq hu) (qe_var (pv 2)) (qe_op opd_add (qe_var (pv 1)) qe_int) (nomark _)) (qss_one (qs_ret (qe_call (modes := [false, false, false]) (dts := []) (G .law_p) hr (by rfl) t.law_p.g t.law_p.F.kp t.law_p.b .nil (fun _ _ => .nil) rfl (qf_of (qa_cons (qe_var (pv 0)) (qa_cons (qe_var (pv 1)) (qa_cons (qe_var (pv 3)) qa_nil))))))) qss_nil)
  (qss_cons (qs_if (qt_cmp (opd_eq hu) (qe_var (pv 3)) qe_int (nomark _)) (qss_one (qs_ret (qe_tup 2 (qa_cons qe_str (qa_cons (qe_tup 0 qa_nil) qa_nil))))) qss_nil)
  (qss_cons (qs_if (qt_cmp opd_gt (qe_var (pv 3)) (qe_op opd_sub (qe_var (pv 2)) qe_int) (nomark _)) (qss_one (qs_ret (qe_tup 2 (qa_cons qe_str (qa_cons (qe_tup 0 qa_nil) qa_nil))))) qss_nil)
  (qss_one (qs_ret (qe_tup 2 (qa_cons qe_str (qa_cons (qe_tup 2 (qa_cons (qe_call (modes := [false, false, false, false]) (dts := []) (G .law_q) hr (by rfl) t.law_q.g t.law_q.F.kp t.law_q.b .nil (fun _ _ => .nil) rfl (qf_of (qa_cons (qe_var (pv 0)) (qa_cons (qe_var (pv 1)) (qa_cons (qe_op opd_sub (qe_var (pv 2)) qe_int) (qa_cons (qe_var (pv 3)) qa_nil)))))) (qa_cons (qe_tup 2 (qa_cons qe_str (qa_cons (qe_tup 2 (qa_cons (qe_ix (qe_var (pv 0)) (qe_op opd_sub (qe_var (pv 2)) qe_int) (fun _ _ => rfl)) (qa_cons (qe_call (modes := [false, false, false, false]) (dts := []) (G .law_q) hr (by rfl) t.law_q.g t.law_q.F.kp t.law_q.b .nil (fun _ _ => .nil) rfl (qf_of (qa_cons (qe_var (pv 0)) (qa_cons (qe_var (pv 1)) (qa_cons (qe_op opd_sub (qe_var (pv 2)) qe_int) (qa_cons (qe_op opd_sub (qe_var (pv 3)) qe_int) qa_nil)))))) qa_nil))) qa_nil))) qa_nil))) qa_nil))))))))
theorem w_law_on {k : Nat} (t : Top K Z mg base fa ft) (G : AllOk P w K Z mg base fa ft k) : FnOk P w K mg base CX0 (2 * k + 1 + 1) (fa .law_on) (ft .law_on) ["member", "world"] (liftSp ⟨K, Z⟩ 2 (sem (k + 1) .law_on)) := by
  refine fn_okD (K := ⟨K, Z⟩) (modes := [false, false]) t.law_on.F sc_law_on rfl (by decide) fun A outer s H E hr2 => ?_
  have hr := hr2.mono (Nat.le_succ _)
  have hu := hr.units
  have hw := roomW hr
  have nd := sc_law_on.nd
  exact (qss_cons (qs_if (qt_cmp (opd_eq hu) (qe_ix (qe_var (pv 0)) qe_int (fun _ _ => rfl)) qe_str (nomark _)) (qss_one (qs_ret (qe_cmp (opd_in hu) (qe_ix (qe_var (pv 0)) qe_int (fun _ _ => rfl)) (qe_var (pv 1)) rfl))) qss_nil)
  (qss_cons (qs_if (qt_cmp (opd_eq hu) (qe_ix (qe_var (pv 0)) qe_int (fun _ _ => rfl)) qe_str (nomark _)) (qss_one (qs_ret (qe_not (qe_call (modes := [false, false]) (dts := []) (G .law_on) hr (by rfl) t.law_on.g t.law_on.F.kp t.law_on.b .nil (fun _ _ => .nil) rfl (qf_of (qa_cons (qe_ix (qe_var (pv 0)) qe_int (fun _ _ => rfl)) (qa_cons (qe_var (pv 1)) qa_nil))))))) qss_nil)
  (qss_cons (qs_for (is := [2]) PassesOwn.never rfl (qi_any (qe_ix (qe_var (pv 0)) qe_int (fun _ _ => rfl))) (qg_name (pg_name (i := 2) nd rfl (by first | exact Or.inl rfl | exact Or.inr rfl))) (qss_one (qs_if (qt_cmp (opd_ne hu) (qe_call (modes := [false, false]) (dts := []) (G .law_on) hr (by rfl) t.law_on.g t.law_on.F.kp t.law_on.b .nil (fun _ _ => .nil) rfl (qf_of (qa_cons (qe_var (pv 2)) (qa_cons (qe_var (pv 1)) qa_nil)))) (qe_cmp (opd_eq hu) (qe_ix (qe_var (pv 0)) qe_int (fun _ _ => rfl)) qe_str (nomark _)) (nomark _)) (qss_one (qs_ret (qe_cmp (opd_ne hu) (qe_ix (qe_var (pv 0)) qe_int (fun _ _ => rfl)) qe_str (nomark _)))) qss_nil)))
  (qss_one (qs_ret (qe_cmp (opd_eq hu) (qe_ix (qe_var (pv 0)) qe_int (fun _ _ => rfl)) qe_str (nomark _)))))))
theorem w_leaves_of {k : Nat} (t : Top K Z mg base fa ft) (G : AllOk P w K Z mg base fa ft k) : FnOk P w K mg base CX0 (2 * k + 1 + 1) (fa .leaves_of) (ft .leaves_of) ["plan"] (liftSp ⟨K, Z⟩ 1 (sem (k + 1) .leaves_of)) := by
  refine fn_okD (K := ⟨K, Z⟩) (modes := [false]) t.leaves_of.F sc_leaves_of rfl (by decide) fun A outer s H E hr2 => ?_
  have hr := hr2.mono (Nat.le_succ _)
  have hu := hr.units
  have hw := roomW hr
  have nd := sc_leaves_of.nd
  exact (qss_cons (qs_set (i := 1) nd rfl (by first | exact Or.inl rfl | exact Or.inr rfl) (qe_lst 1 (qa_cons (qe_tup 0 qa_nil) qa_nil)))
  (qss_cons (qs_for (is := [2]) PassesOwn.never rfl (qi_any (qe_var (pv 0))) (qg_name (pg_name (i := 2) nd rfl (by first | exact Or.inl rfl | exact Or.inr rfl))) (qss_one (qs_setLc2 (i := 1) (own := [("leaf", 3), ("level", 4)]) (vs1 := [4]) rfl nd rfl rfl (sw_true rfl rfl rfl (by decide +kernel)) (qi_any (qe_var (pv 1))) (blkOk_by (by kernel_rfl)) (by decide) (fun _ _ _ _ _ => (qg_name (pg_name (i := 3) nd rfl (by first | exact Or.inl rfl | exact Or.inr rfl)))) (fun _ _ _ _ _ => qts_nil) (fun _ _ _ _ _ => (qi_range1 (by rfl) t.z_range (qe_op opd_add (qe_callB cd_len (by rfl) t.z_len (by decide +kernel) (qa_cons (qe_var (pv 2)) qa_nil)) qe_int))) (fun _ _ _ _ _ => (qg_name (pg_name (i := 4) nd rfl (by first | exact Or.inl rfl | exact Or.inr rfl)))) (fun _ _ _ _ _ => qts_nil) (fun _ _ _ _ _ => (qe_op opd_add (qe_var (pv 3)) (qe_tup 1 (qa_cons (qe_var (pv 4)) qa_nil)))))))
  (qss_one (qs_ret (qe_callTy cd_tuple (by rfl) t.z_tuple (by decide +kernel) (qa_cons (qe_var (pv 1)) qa_nil))))))
theorem w_law_over_vivv {k : Nat} (t : Top K Z mg base fa ft) (G : AllOk P w K Z mg base fa ft k) : FnOk P w K mg base CX0 (2 * k + 1 + 1) (fa .law_over_vivv) (ft .law_over_vivv) ["row", "at", "places", "deep"] (liftSp ⟨K, Z⟩ 4 (sem (k + 1) .law_over_vivv)) := by
  refine fn_okD (K := ⟨K, Z⟩) (modes := [false, true, false, false]) t.law_over_vivv.F sc_law_over rfl (by decide) fun A outer s H E hr2 => ?_
  have hr := hr2.mono (Nat.le_succ _)
  have hu := hr.units
  have hw := roomW hr
  have nd := sc_law_over.nd
  exact (qss_cons (qs_if (qt_cmp (opd_eq hu) (qe_var (pv 3)) qe_int (nomark _)) (qss_one (qs_ret (qe_ix (qe_var (pv 2)) (qe_op opd_mod (qe_callTy cd_int (by rfl) t.z_int (by decide +kernel) (qa_cons (qe_call (modes := [false, true, false]) (dts := []) (G .law_take_viv) hr (by rfl) t.law_take_viv.g t.law_take_viv.F.kp t.law_take_viv.b .nil (fun _ _ => .nil) rfl (qf_of (qa_cons (qe_var (pv 0)) (qa_cons (qe_var (pv 1)) (qa_cons qe_int qa_nil))))) qa_nil)) (qe_callB cd_len (by rfl) t.z_len (by decide +kernel) (qa_cons (qe_var (pv 2)) qa_nil))) (fun _ _ => rfl)))) qss_nil)
  (qss_cons (qs_set (i := 4) nd rfl (by first | exact Or.inl rfl | exact Or.inr rfl) (qe_lst 0 qa_nil))
  (qss_cons (qs_for (is := [5]) PassesOwn.never rfl (qi_range1 (by rfl) t.z_range (qe_ix (qe_lst 6 (qa_cons qe_int (qa_cons qe_int (qa_cons qe_int (qa_cons qe_int (qa_cons qe_int (qa_cons qe_int qa_nil))))))) (qe_call (modes := [false, true, false]) (dts := []) (G .law_take_viv) hr (by rfl) t.law_take_viv.g t.law_take_viv.F.kp t.law_take_viv.b .nil (fun _ _ => .nil) rfl (qf_of (qa_cons (qe_var (pv 0)) (qa_cons (qe_var (pv 1)) (qa_cons qe_int qa_nil))))) (fun _ _ => rfl))) (qg_name (pg_name (i := 5) nd rfl (by first | exact Or.inl rfl | exact Or.inr rfl))) (qss_cons (qs_set (i := 6) nd rfl (by first | exact Or.inl rfl | exact Or.inr rfl) (qe_call (modes := [false, true, false, false]) (dts := []) (G .law_over_vivv) hr (by rfl) t.law_over_vivv.g t.law_over_vivv.F.kp t.law_over_vivv.b .nil (fun _ _ => .nil) rfl (qf_of (qa_cons (qe_var (pv 0)) (qa_cons (qe_var (pv 1)) (qa_cons (qe_var (pv 2)) (qa_cons (qe_callB (cd_max rfl) (by rfl) t.z_max (by decide +kernel) (qa_cons qe_int (qa_cons (qe_op opd_sub (qe_op opd_sub (qe_var (pv 3)) qe_int) (qe_call (modes := [false, true, false]) (dts := []) (G .law_take_viv) hr (by rfl) t.law_take_viv.g t.law_take_viv.F.kp t.law_take_viv.b .nil (fun _ _ => .nil) rfl (qf_of (qa_cons (qe_var (pv 0)) (qa_cons (qe_var (pv 1)) (qa_cons qe_int qa_nil)))))) qa_nil))) qa_nil)))))))
  (qss_one (qs_if (qt_cmp (opd_eq hu) (qe_call (modes := [false, true, false]) (dts := []) (G .law_take_viv) hr (by rfl) t.law_take_viv.g t.law_take_viv.F.kp t.law_take_viv.b .nil (fun _ _ => .nil) rfl (qf_of (qa_cons (qe_var (pv 0)) (qa_cons (qe_var (pv 1)) (qa_cons qe_int qa_nil))))) qe_int (nomark _)) (qss_one (qs_append (i := 4) (pv 4) (qe_tup 2 (qa_cons qe_str (qa_cons (qe_var (pv 6)) qa_nil))))) (qss_one (qs_append (i := 4) (pv 4) (qe_var (pv 6))))))))
  (qss_one (qs_ret (qe_tup 2 (qa_cons (qe_ix (qe_lst 2 (qa_cons qe_str (qa_cons qe_str qa_nil))) (qe_call (modes := [false, true, false]) (dts := []) (G .law_take_viv) hr (by rfl) t.law_take_viv.g t.law_take_viv.F.kp t.law_take_viv.b .nil (fun _ _ => .nil) rfl (qf_of (qa_cons (qe_var (pv 0)) (qa_cons (qe_var (pv 1)) (qa_cons qe_int qa_nil))))) (fun _ _ => rfl)) (qa_cons (qe_callTy cd_tuple (by rfl) t.z_tuple (by decide +kernel) (qa_cons (qe_var (pv 4)) qa_nil)) qa_nil))))))))
theorem w_law_size {k : Nat} (t : Top K Z mg base fa ft) (G : AllOk P w K Z mg base fa ft k) : FnOk P w K mg base CX0 (2 * k + 1 + 1) (fa .law_size) (ft .law_size) ["member"] (liftSp ⟨K, Z⟩ 1 (sem (k + 1) .law_size)) := by
  refine fn_okD (K := ⟨K, Z⟩) (modes := [false]) t.law_size.F sc_law_size rfl (by decide) fun A outer s H E hr2 => ?_
  have hr := hr2.mono (Nat.le_succ _)
  have hu := hr.units
  have hw := roomW hr
  have nd := sc_law_size.nd
  exact (qss_cons (qs_if (qt_cmp (opd_eq hu) (qe_ix (qe_var (pv 0)) qe_int (fun _ _ => rfl)) qe_str (nomark _)) (qss_one (qs_ret qe_int)) qss_nil)
  (qss_cons (qs_if (qt_cmp (opd_eq hu) (qe_ix (qe_var (pv 0)) qe_int (fun _ _ => rfl)) qe_str (nomark _)) (qss_one (qs_ret (qe_op opd_add qe_int (qe_call (modes := [false]) (dts := []) (G .law_size) hr (by rfl) t.law_size.g t.law_size.F.kp t.law_size.b .nil (fun _ _ => .nil) rfl (qf_of (qa_cons (qe_ix (qe_var (pv 0)) qe_int (fun _ _ => rfl)) qa_nil)))))) qss_nil)
  (qss_one (qs_ret (qe_op opd_add qe_int (qe_callB (cd_sum rfl) (by rfl) t.z_sum (by decide +kernel) (qa_cons (qe_lc (own := [("part", 1)]) rfl nd (qi_any (qe_ix (qe_var (pv 0)) qe_int (fun _ _ => rfl))) (blkOk_by (by kernel_rfl)) (fun _ _ _ _ _ => (qg_name (pg_name (i := 1) nd rfl (by first | exact Or.inl rfl | exact Or.inr rfl)))) (fun _ _ _ _ _ => qts_nil) (fun _ _ _ _ _ => (qe_call (modes := [false]) (dts := []) (G .law_size) hr (by rfl) t.law_size.g t.law_size.F.kp t.law_size.b .nil (fun _ _ => .nil) rfl (qf_of (qa_cons (qe_var (pv 1)) qa_nil))))) qa_nil)))))))
theorem w_worlds_of {k : Nat} (t : Top K Z mg base fa ft) (G : AllOk P w K Z mg base fa ft k) : FnOk P w K mg base CX0 (2 * k + 1 + 1) (fa .worlds_of) (ft .worlds_of) ["book", "names"] (liftSp ⟨K, Z⟩ 2 (sem (k + 1) .worlds_of)) := by
  obtain ⟨c, tp, hcode, TB, hP⟩ := t.cd_worlds_of
  refine fn_okD (K := ⟨K, Z⟩) (modes := [false, false]) t.worlds_of.F sc_worlds_of rfl (by decide) fun A outer s H E hr2 => ?_
  have hr := hr2.mono (Nat.le_succ _)
  have hu := hr.units
  have hw := roomW hr
  have nd := sc_worlds_of.nd
  exact (qss_one (qs_ret (qe_callTy cd_tuple (by rfl) t.z_tuple (by decide +kernel) (qa_cons (qe_lc (own := [("world", 2)]) rfl nd (qi_any (qe_call (modes := [false]) (dts := []) (G .all_worlds) hr (by rfl) t.all_worlds.g t.all_worlds.F.kp t.all_worlds.b .nil (fun _ _ => .nil) rfl (qf_of (qa_cons (qe_var (pv 1)) qa_nil)))) (blkOk_by (by kernel_rfl)) (fun _ _ _ _ _ => (qg_name (pg_name (i := 2) nd rfl (by first | exact Or.inl rfl | exact Or.inr rfl)))) (fun _ _ _ _ _ => (qts_one (qt_truth (qe_allG (own := [("sequent", 3)]) hr2 (by rfl) t.z_all (by decide +kernel) TB hP hcode nd (qi_any (qe_var (pv 0))) (blkOk_by (by kernel_rfl)) (by decide +kernel) (by rfl) rfl (fun _ _ _ _ _ _ _ _ _ => (qg_name (pg_name (i := 3) nd rfl (by first | exact Or.inl rfl | exact Or.inr rfl)))) (fun _ _ _ _ _ _ _ _ hr => have hu := hr.units; have hw := roomW hr; (qe_call (modes := [false, false]) (dts := []) (G .keeps) hr (by rfl) t.keeps.g t.keeps.F.kp t.keeps.b .nil (fun _ _ => .nil) rfl (qf_of (qa_cons (qe_var (pv 2)) (qa_cons (qe_var (pv 3)) qa_nil))))))))) (fun _ _ _ _ _ => (qe_var (pv 2)))) qa_nil))))
theorem w_levels_of {k : Nat} (t : Top K Z mg base fa ft) (G : AllOk P w K Z mg base fa ft k) : FnOk P w K mg base CX0 (2 * k + 1 + 1) (fa .levels_of) (ft .levels_of) ["plan", "world"] (liftSp ⟨K, Z⟩ 2 (sem (k + 1) .levels_of)) := by
  refine fn_okD (K := ⟨K, Z⟩) (modes := [false, false]) t.levels_of.F sc_levels_of rfl (by decide) fun A outer s H E hr2 => ?_
  have hr := hr2.mono (Nat.le_succ _)
  have hu := hr.units
  have hw := roomW hr
  have nd := sc_levels_of.nd
  exact (qss_one (qs_ret (qe_callTy cd_tuple (by rfl) t.z_tuple (by decide +kernel) (qa_cons (qe_lc (own := [("ladder", 2)]) rfl nd (qi_any (qe_var (pv 0))) (blkOk_by (by kernel_rfl)) (fun _ _ _ _ _ => (qg_name (pg_name (i := 2) nd rfl (by first | exact Or.inl rfl | exact Or.inr rfl)))) (fun _ _ _ _ _ => qts_nil) (fun _ _ _ _ _ => (qe_call (modes := [false, false]) (dts := []) (G .levels_on) hr (by rfl) t.levels_on.g t.levels_on.F.kp t.levels_on.b .nil (fun _ _ => .nil) rfl (qf_of (qa_cons (qe_var (pv 2)) (qa_cons (qe_var (pv 1)) qa_nil)))))) qa_nil))))
theorem w_picture_of {k : Nat} (t : Top K Z mg base fa ft) (G : AllOk P w K Z mg base fa ft k) : FnOk P w K mg base CX0 (2 * k + 1 + 1) (fa .picture_of) (ft .picture_of) ["formulas", "world"] (liftSp ⟨K, Z⟩ 2 (sem (k + 1) .picture_of)) := by
  refine fn_okD (K := ⟨K, Z⟩) (modes := [false, false]) t.picture_of.F sc_picture_of rfl (by decide) fun A outer s H E hr2 => ?_
  have hr := hr2.mono (Nat.le_succ _)
  have hu := hr.units
  have hw := roomW hr
  have nd := sc_picture_of.nd
  exact (qss_one (qs_ret (qe_callTy cd_tuple (by rfl) t.z_tuple (by decide +kernel) (qa_cons (qe_lc (own := [("formula", 2)]) rfl nd (qi_any (qe_var (pv 0))) (blkOk_by (by kernel_rfl)) (fun _ _ _ _ _ => (qg_name (pg_name (i := 2) nd rfl (by first | exact Or.inl rfl | exact Or.inr rfl)))) (fun _ _ _ _ _ => qts_nil) (fun _ _ _ _ _ => (qe_call (modes := [false, false]) (dts := []) (G .is_on) hr (by rfl) t.is_on.g t.is_on.F.kp t.is_on.b .nil (fun _ _ => .nil) rfl (qf_of (qa_cons (qe_var (pv 2)) (qa_cons (qe_var (pv 1)) qa_nil)))))) qa_nil))))
theorem w_signature_of {k : Nat} (t : Top K Z mg base fa ft) (G : AllOk P w K Z mg base fa ft k) : FnOk P w K mg base CX0 (2 * k + 1 + 1) (fa .signature_of) (ft .signature_of) ["signs", "world"] (liftSp ⟨K, Z⟩ 2 (sem (k + 1) .signature_of)) := by
  refine fn_okD (K := ⟨K, Z⟩) (modes := [false, false]) t.signature_of.F sc_signature_of rfl (by decide) fun A outer s H E hr2 => ?_
  have hr := hr2.mono (Nat.le_succ _)
  have hu := hr.units
  have hw := roomW hr
  have nd := sc_signature_of.nd
  exact (qss_one (qs_ret (qe_callTy cd_tuple (by rfl) t.z_tuple (by decide +kernel) (qa_cons (qe_lc (own := [("sign", 2)]) rfl nd (qi_any (qe_var (pv 0))) (blkOk_by (by kernel_rfl)) (fun _ _ _ _ _ => (qg_name (pg_name (i := 2) nd rfl (by first | exact Or.inl rfl | exact Or.inr rfl)))) (fun _ _ _ _ _ => qts_nil) (fun _ _ _ _ _ => (qe_call (modes := [false, false]) (dts := []) (G .is_on) hr (by rfl) t.is_on.g t.is_on.F.kp t.is_on.b .nil (fun _ _ => .nil) rfl (qf_of (qa_cons (qe_var (pv 2)) (qa_cons (qe_var (pv 1)) qa_nil)))))) qa_nil))))
theorem w_stands_on {k : Nat} (t : Top K Z mg base fa ft) (G : AllOk P w K Z mg base fa ft k) : FnOk P w K mg base CX0 (2 * k + 1 + 1) (fa .stands_on) (ft .stands_on) ["levels", "leaf"] (liftSp ⟨K, Z⟩ 2 (sem (k + 1) .stands_on)) := by
  refine fn_okD (K := ⟨K, Z⟩) (modes := [false, false]) t.stands_on.F sc_stands_on rfl (by decide) fun A outer s H E hr2 => ?_
  have hr := hr2.mono (Nat.le_succ _)
  have hu := hr.units
  have hw := roomW hr
  have nd := sc_stands_on.nd
  exact (qss_one (qs_ret (qe_callB (cd_all rfl) (by rfl) t.z_all (by decide +kernel) (qa_cons (qe_lc (own := [("found", 2), ("level", 3)]) rfl nd (qi_zip (by rfl) t.z_zip (qe_var (pv 0)) (qe_var (pv 1))) (blkOk_by (by kernel_rfl)) (fun _ _ _ _ _ => (qg_tup rfl (qgs_cons (qg_name (pg_name (i := 2) nd rfl (by first | exact Or.inl rfl | exact Or.inr rfl))) (qgs_cons (qg_name (pg_name (i := 3) nd rfl (by first | exact Or.inl rfl | exact Or.inr rfl))) qgs_nil)))) (fun _ _ _ _ _ => qts_nil) (fun _ _ _ _ _ => (qe_cmp (opd_in hu) (qe_var (pv 3)) (qe_var (pv 2)) rfl))) qa_nil))))
theorem w_misfit_in {k : Nat} (t : Top K Z mg base fa ft) (G : AllOk P w K Z mg base fa ft k) : FnOk P w K mg base CX0 (2 * k + 1 + 1) (fa .misfit_in) (ft .misfit_in) ["lot", "pictures", "signatures", "worlds"] (liftSp ⟨K, Z⟩ 4 (sem (k + 1) .misfit_in)) := by
  refine fn_okD (K := ⟨K, Z⟩) (modes := [false, false, false, false]) t.misfit_in.F sc_misfit_in rfl (by decide) fun A outer s H E hr2 => ?_
  have hr := hr2.mono (Nat.le_succ _)
  have hu := hr.units
  have hw := roomW hr
  have nd := sc_misfit_in.nd
  exact (qss_cons (qs_for (is := [4]) PassesOwn.never rfl (qi_any (qe_var (pv 0))) (qg_name (pg_name (i := 4) nd rfl (by first | exact Or.inl rfl | exact Or.inr rfl))) (qss_one (qs_for (is := [5]) PassesOwn.never rfl (qi_any (qe_var (pv 0))) (qg_name (pg_name (i := 5) nd rfl (by first | exact Or.inl rfl | exact Or.inr rfl))) (qss_one (qs_if (PW.pt (qw_and (qt_cmp opd_lt (qe_var (pv 4)) (qe_var (pv 5)) (nomark _)) (qw_and (qt_cmp (opd_eq hu) (qe_ix (qe_var (pv 2)) (qe_var (pv 4)) (fun _ _ => rfl)) (qe_ix (qe_var (pv 2)) (qe_var (pv 5)) (fun _ _ => rfl)) (nomark _)) (qw_and1 (qt_cmp (opd_ne hu) (qe_ix (qe_var (pv 1)) (qe_var (pv 4)) (fun _ _ => rfl)) (qe_ix (qe_var (pv 1)) (qe_var (pv 5)) (fun _ _ => rfl)) (nomark _)))))) (qss_one (qs_if (qt_truth (qe_call (modes := [false, false]) (dts := []) (G .is_below) hr (by rfl) t.is_below.g t.is_below.F.kp t.is_below.b .nil (fun _ _ => .nil) rfl (qf_of (qa_cons (qe_ix (qe_var (pv 3)) (qe_var (pv 4)) (fun _ _ => rfl)) (qa_cons (qe_ix (qe_var (pv 3)) (qe_var (pv 5)) (fun _ _ => rfl)) qa_nil))))) (qss_one (qs_ret (qe_tup 2 (qa_cons (qe_ix (qe_var (pv 3)) (qe_var (pv 4)) (fun _ _ => rfl)) (qa_cons (qe_ix (qe_var (pv 3)) (qe_var (pv 5)) (fun _ _ => rfl)) qa_nil))))) qss_nil)) qss_nil)))))
  (qss_one (qs_ret qe_non)))
theorem w_law_picture {k : Nat} (t : Top K Z mg base fa ft) (G : AllOk P w K Z mg base fa ft k) : FnOk P w K mg base CX0 (2 * k + 1 + 1) (fa .law_picture) (ft .law_picture) ["formulas", "world"] (liftSp ⟨K, Z⟩ 2 (sem (k + 1) .law_picture)) := by
  refine fn_okD (K := ⟨K, Z⟩) (modes := [false, false]) t.law_picture.F sc_law_picture rfl (by decide) fun A outer s H E hr2 => ?_
  have hr := hr2.mono (Nat.le_succ _)
  have hu := hr.units
  have hw := roomW hr
  have nd := sc_law_picture.nd
  exact (qss_one (qs_ret (qe_lc (own := [("formula", 2)]) rfl nd (qi_any (qe_var (pv 0))) (blkOk_by (by kernel_rfl)) (fun _ _ _ _ _ => (qg_name (pg_name (i := 2) nd rfl (by first | exact Or.inl rfl | exact Or.inr rfl)))) (fun _ _ _ _ _ => qts_nil) (fun _ _ _ _ _ => (qe_call (modes := [false, false]) (dts := []) (G .law_on) hr (by rfl) t.law_on.g t.law_on.F.kp t.law_on.b .nil (fun _ _ => .nil) rfl (qf_of (qa_cons (qe_var (pv 2)) (qa_cons (qe_var (pv 1)) qa_nil))))))))
theorem w_law_below {k : Nat} (t : Top K Z mg base fa ft) (G : AllOk P w K Z mg base fa ft k) : FnOk P w K mg base CX0 (2 * k + 1 + 1) (fa .law_below) (ft .law_below) ["low", "high"] (liftSp ⟨K, Z⟩ 2 (sem (k + 1) .law_below)) := by
  refine fn_okD (K := ⟨K, Z⟩) (modes := [false, false]) t.law_below.F sc_law_below rfl (by decide) fun A outer s H E hr2 => ?_
  have hr := hr2.mono (Nat.le_succ _)
  have hu := hr.units
  have hw := roomW hr
  have nd := sc_law_below.nd
  exact (qss_cons (qs_for (is := [2]) PassesOwn.never rfl (qi_any (qe_var (pv 0))) (qg_name (pg_name (i := 2) nd rfl (by first | exact Or.inl rfl | exact Or.inr rfl))) (qss_one (qs_if (qt_cmp (opd_notin hu) (qe_var (pv 2)) (qe_var (pv 1)) rfl) (qss_one (qs_ret qe_bl)) qss_nil)))
  (qss_one (qs_ret qe_bl)))
theorem w_all_worlds {k : Nat} (t : Top K Z mg base fa ft) (G : AllOk P w K Z mg base fa ft k) : FnOk P w K mg base CX0 (2 * k + 1 + 1) (fa .all_worlds) (ft .all_worlds) ["names"] (liftSp ⟨K, Z⟩ 1 (sem (k + 1) .all_worlds)) := by
  refine fn_okD (K := ⟨K, Z⟩) (modes := [false]) t.all_worlds.F sc_all_worlds rfl (by decide) fun A outer s H E hr2 => ?_
  have hr := hr2.mono (Nat.le_succ _)
  have hu := hr.units
  have hw := roomW hr
  have nd := sc_all_worlds.nd
  exact (qss_cons (qs_set (i := 1) nd rfl (by first | exact Or.inl rfl | exact Or.inr rfl) (qe_lst 1 (qa_cons (qe_tup 0 qa_nil) qa_nil)))
  (qss_cons (qs_for (is := [2]) PassesOwn.never rfl (qi_any (qe_var (pv 0))) (qg_name (pg_name (i := 2) nd rfl (by first | exact Or.inl rfl | exact Or.inr rfl))) (qss_one (qs_set (i := 1) nd rfl (by first | exact Or.inl rfl | exact Or.inr rfl) (qe_op opd_add (qe_var (pv 1)) (qe_lc (own := [("world", 3)]) rfl nd (qi_any (qe_var (pv 1))) (blkOk_by (by kernel_rfl)) (fun _ _ _ _ _ => (qg_name (pg_name (i := 3) nd rfl (by first | exact Or.inl rfl | exact Or.inr rfl)))) (fun _ _ _ _ _ => qts_nil) (fun _ _ _ _ _ => (qe_op opd_add (qe_var (pv 3)) (qe_tup 1 (qa_cons (qe_var (pv 2)) qa_nil)))))))))
  (qss_one (qs_ret (qe_callTy cd_tuple (by rfl) t.z_tuple (by decide +kernel) (qa_cons (qe_var (pv 1)) qa_nil))))))
theorem w_keeps {k : Nat} (t : Top K Z mg base fa ft) (G : AllOk P w K Z mg base fa ft k) : FnOk P w K mg base CX0 (2 * k + 1 + 1) (fa .keeps) (ft .keeps) ["world", "sequent"] (liftSp ⟨K, Z⟩ 2 (sem (k + 1) .keeps)) := by
  obtain ⟨c, tp, hcode, TB, hP⟩ := t.cd_keeps
  refine fn_okD (K := ⟨K, Z⟩) (modes := [false, false]) t.keeps.F sc_keeps rfl (by decide) fun A outer s H E hr2 => ?_
  have hr := hr2.mono (Nat.le_succ _)
  have hu := hr.units
  have hw := roomW hr
  have nd := sc_keeps.nd
  exact (qss_cons (qs_if (qt_not (qt_truth (qe_allG (own := [("formula", 2)]) hr2 (by rfl) t.z_all (by decide +kernel) TB hP hcode nd (qi_any (qe_ix (qe_var (pv 1)) qe_int (fun _ _ => rfl))) (blkOk_by (by kernel_rfl)) (by decide +kernel) (by rfl) rfl (fun _ _ _ _ _ _ _ _ _ => (qg_name (pg_name (i := 2) nd rfl (by first | exact Or.inl rfl | exact Or.inr rfl)))) (fun _ _ _ _ _ _ _ _ hr => have hu := hr.units; have hw := roomW hr; (qe_call (modes := [false, false]) (dts := []) (G .is_on) hr (by rfl) t.is_on.g t.is_on.F.kp t.is_on.b .nil (fun _ _ => .nil) rfl (qf_of (qa_cons (qe_var (pv 2)) (qa_cons (qe_var (pv 0)) qa_nil)))))))) (qss_one (qs_ret qe_bl)) qss_nil)
  (qss_one (qs_ret (qe_anyG (own := [("formula", 2)]) hr2 (by rfl) t.z_any (by decide +kernel) TB hP hcode nd (qi_any (qe_ix (qe_var (pv 1)) qe_int (fun _ _ => rfl))) (blkOk_by (by kernel_rfl)) (by decide +kernel) (by rfl) rfl (fun _ _ _ _ _ _ _ _ _ => (qg_name (pg_name (i := 2) nd rfl (by first | exact Or.inl rfl | exact Or.inr rfl)))) (fun _ _ _ _ _ _ _ _ hr => have hu := hr.units; have hw := roomW hr; (qe_call (modes := [false, false]) (dts := []) (G .is_on) hr (by rfl) t.is_on.g t.is_on.F.kp t.is_on.b .nil (fun _ _ => .nil) rfl (qf_of (qa_cons (qe_var (pv 2)) (qa_cons (qe_var (pv 0)) qa_nil)))))))))
theorem w_levels_on {k : Nat} (t : Top K Z mg base fa ft) (G : AllOk P w K Z mg base fa ft k) : FnOk P w K mg base CX0 (2 * k + 1 + 1) (fa .levels_on) (ft .levels_on) ["ladder", "world"] (liftSp ⟨K, Z⟩ 2 (sem (k + 1) .levels_on)) := by
  refine fn_okD (K := ⟨K, Z⟩) (modes := [false, false]) t.levels_on.F sc_levels_on rfl (by decide) fun A outer s H E hr2 => ?_
  have hr := hr2.mono (Nat.le_succ _)
  have hu := hr.units
  have hw := roomW hr
  have nd := sc_levels_on.nd
  exact (qss_cons (qs_set (i := 2) nd rfl (by first | exact Or.inl rfl | exact Or.inr rfl) (qe_op opd_add (qe_op opd_add (qe_lst 1 (qa_cons qe_bl qa_nil)) (qe_lc (own := [("formula", 3)]) rfl nd (qi_any (qe_var (pv 0))) (blkOk_by (by kernel_rfl)) (fun _ _ _ _ _ => (qg_name (pg_name (i := 3) nd rfl (by first | exact Or.inl rfl | exact Or.inr rfl)))) (fun _ _ _ _ _ => qts_nil) (fun _ _ _ _ _ => (qe_call (modes := [false, false]) (dts := []) (G .is_on) hr (by rfl) t.is_on.g t.is_on.F.kp t.is_on.b .nil (fun _ _ => .nil) rfl (qf_of (qa_cons (qe_var (pv 3)) (qa_cons (qe_var (pv 1)) qa_nil))))))) (qe_lst 1 (qa_cons qe_bl qa_nil))))
  (qss_one (qs_ret (qe_callTy cd_tuple (by rfl) t.z_tuple (by decide +kernel) (qa_cons (qe_lc (own := [("level", 4)]) rfl nd (qi_range1 (by rfl) t.z_range (qe_op opd_add (qe_callB cd_len (by rfl) t.z_len (by decide +kernel) (qa_cons (qe_var (pv 0)) qa_nil)) qe_int)) (blkOk_by (by kernel_rfl)) (fun _ _ _ _ _ => (qg_name (pg_name (i := 4) nd rfl (by first | exact Or.inl rfl | exact Or.inr rfl)))) (fun _ _ _ _ _ => (qts_one (PW.pt (qw_and (qt_truth (qe_ix (qe_var (pv 2)) (qe_var (pv 4)) (fun _ _ => rfl))) (qw_and1 (qt_not (qt_truth (qe_ix (qe_var (pv 2)) (qe_op opd_add (qe_var (pv 4)) qe_int) (fun _ _ => rfl))))))))) (fun _ _ _ _ _ => (qe_var (pv 4)))) qa_nil)))))
theorem w_is_on {k : Nat} (t : Top K Z mg base fa ft) (G : AllOk P w K Z mg base fa ft k) : FnOk P w K mg base CX0 (2 * k + 1 + 1) (fa .is_on) (ft .is_on) ["member", "world"] (liftSp ⟨K, Z⟩ 2 (sem (k + 1) .is_on)) := by
  obtain ⟨c, tp, hcode, TB, hP⟩ := t.cd_is_on
  refine fn_okD (K := ⟨K, Z⟩) (modes := [false, false]) t.is_on.F sc_is_on rfl (by decide) fun A outer s H E hr2 => ?_
  have hr := hr2.mono (Nat.le_succ _)
  have hu := hr.units
  have hw := roomW hr
  have nd := sc_is_on.nd
  exact (qss_cons (qs_if (qt_cmp (opd_eq hu) (qe_ix (qe_var (pv 0)) qe_int (fun _ _ => rfl)) qe_str (nomark _)) (qss_one (qs_ret (qe_cmp (opd_in hu) (qe_ix (qe_var (pv 0)) qe_int (fun _ _ => rfl)) (qe_var (pv 1)) rfl))) qss_nil)
  (qss_cons (qs_if (qt_cmp (opd_eq hu) (qe_ix (qe_var (pv 0)) qe_int (fun _ _ => rfl)) qe_str (nomark _)) (qss_one (qs_ret (qe_not (qe_call (modes := [false, false]) (dts := []) (G .is_on) hr (by rfl) t.is_on.g t.is_on.F.kp t.is_on.b .nil (fun _ _ => .nil) rfl (qf_of (qa_cons (qe_ix (qe_var (pv 0)) qe_int (fun _ _ => rfl)) (qa_cons (qe_var (pv 1)) qa_nil))))))) qss_nil)
  (qss_cons (qs_if (qt_cmp (opd_eq hu) (qe_ix (qe_var (pv 0)) qe_int (fun _ _ => rfl)) qe_str (nomark _)) (qss_one (qs_ret (qe_allG (own := [("part", 2)]) hr2 (by rfl) t.z_all (by decide +kernel) TB hP hcode nd (qi_any (qe_ix (qe_var (pv 0)) qe_int (fun _ _ => rfl))) (blkOk_by (by kernel_rfl)) (by decide +kernel) (by rfl) rfl (fun _ _ _ _ _ _ _ _ _ => (qg_name (pg_name (i := 2) nd rfl (by first | exact Or.inl rfl | exact Or.inr rfl)))) (fun _ _ _ _ _ _ _ _ hr => have hu := hr.units; have hw := roomW hr; (qe_call (modes := [false, false]) (dts := []) (G .is_on) hr (by rfl) t.is_on.g t.is_on.F.kp t.is_on.b .nil (fun _ _ => .nil) rfl (qf_of (qa_cons (qe_var (pv 2)) (qa_cons (qe_var (pv 1)) qa_nil)))))))) qss_nil)
  (qss_one (qs_ret (qe_anyG (own := [("part", 2)]) hr2 (by rfl) t.z_any (by decide +kernel) TB hP hcode nd (qi_any (qe_ix (qe_var (pv 0)) qe_int (fun _ _ => rfl))) (blkOk_by (by kernel_rfl)) (by decide +kernel) (by rfl) rfl (fun _ _ _ _ _ _ _ _ _ => (qg_name (pg_name (i := 2) nd rfl (by first | exact Or.inl rfl | exact Or.inr rfl)))) (fun _ _ _ _ _ _ _ _ hr => have hu := hr.units; have hw := roomW hr; (qe_call (modes := [false, false]) (dts := []) (G .is_on) hr (by rfl) t.is_on.g t.is_on.F.kp t.is_on.b .nil (fun _ _ => .nil) rfl (qf_of (qa_cons (qe_var (pv 2)) (qa_cons (qe_var (pv 1)) qa_nil)))))))))))
theorem w_is_below {k : Nat} (t : Top K Z mg base fa ft) (G : AllOk P w K Z mg base fa ft k) : FnOk P w K mg base CX0 (2 * k + 1 + 1) (fa .is_below) (ft .is_below) ["low", "high"] (liftSp ⟨K, Z⟩ 2 (sem (k + 1) .is_below)) := by
  obtain ⟨c, tp, hcode, TB, hP⟩ := t.cd_is_below
  refine fn_okD (K := ⟨K, Z⟩) (modes := [false, false]) t.is_below.F sc_is_below rfl (by decide) fun A outer s H E hr2 => ?_
  have hr := hr2.mono (Nat.le_succ _)
  have hu := hr.units
  have hw := roomW hr
  have nd := sc_is_below.nd
  exact (qss_one (qs_ret (qe_allG (own := [("name", 2)]) hr2 (by rfl) t.z_all (by decide +kernel) TB hP hcode nd (qi_any (qe_var (pv 0))) (blkOk_by (by kernel_rfl)) (by decide +kernel) (by rfl) rfl (fun _ _ _ _ _ _ _ _ _ => (qg_name (pg_name (i := 2) nd rfl (by first | exact Or.inl rfl | exact Or.inr rfl)))) (fun _ _ _ _ _ _ _ _ hr => have hu := hr.units; have hw := roomW hr; (qe_cmp (opd_in hu) (qe_var (pv 2)) (qe_var (pv 1)) rfl)))))
theorem all_ok (t : Top K Z mg base fa ft) : ∀ k, AllOk P w K Z mg base fa ft k
  | 0, _ => ⟨fun _ _ _ _ h => h.1, fun _ _ _ _ _ _ _ _ _ _ _ _ _ ⟨_, _, _, _, _, _, _, _, _, _, h, _⟩ => h.elim⟩
  | k + 1, f => by
    have G := all_ok t k
    cases f with
    | law => exact w_law t G
    | law_named => exact w_law_named t G
    | law_cell => exact w_law_cell t G
    | law_spots => exact w_law_spots t G
    | law_book => exact w_law_book t G
    | law_worlds => exact w_law_worlds t G
    | count_ladder => exact w_count_ladder t G
    | law_same => exact w_law_same t G
    | law_p => exact w_law_p t G
    | law_levels => exact w_law_levels t G
    | law_bent => exact w_law_bent t G
    | find_misfit => exact w_find_misfit t G
    | law_digits => exact w_law_digits t G
    | law_spoilt => exact w_law_spoilt t G
    | law_told => exact w_law_told t G
    | law_misfit => exact w_law_misfit t G
    | law_ascending => exact w_law_ascending t G
    | law_spot => exact w_law_spot t G
    | law_take_viv => exact w_law_take_viv t G
    | law_formula_vivv => exact w_law_formula_vivv t G
    | law_keeps => exact w_law_keeps t G
    | at_least => exact w_at_least t G
    | law_whole => exact w_law_whole t G
    | law_count => exact w_law_count t G
    | leaf_worlds => exact w_leaf_worlds t G
    | others => exact w_others t G
    | law_q => exact w_law_q t G
    | law_on => exact w_law_on t G
    | leaves_of => exact w_leaves_of t G
    | law_over_vivv => exact w_law_over_vivv t G
    | law_size => exact w_law_size t G
    | worlds_of => exact w_worlds_of t G
    | levels_of => exact w_levels_of t G
    | picture_of => exact w_picture_of t G
    | signature_of => exact w_signature_of t G
    | stands_on => exact w_stands_on t G
    | misfit_in => exact w_misfit_in t G
    | law_picture => exact w_law_picture t G
    | law_below => exact w_law_below t G
    | all_worlds => exact w_all_worlds t G
    | keeps => exact w_keeps t G
    | levels_on => exact w_levels_on t G
    | is_on => exact w_is_on t G
    | is_below => exact w_is_below t G
end
def fnL : List He.DefD := [dD_law, dD_law_named, dD_law_cell, dD_law_spots, dD_law_book, dD_law_worlds, dD_count_ladder, dD_law_same, dD_law_p, dD_law_levels, dD_law_bent, dD_find_misfit, dD_law_digits, dD_law_spoilt, dD_law_told, dD_law_misfit, dD_law_ascending, dD_law_spot, dD_law_take, dD_law_formula, dD_law_keeps, dD_at_least, dD_law_whole, dD_law_count, dD_leaf_worlds, dD_others, dD_law_q, dD_law_on, dD_leaves_of, dD_law_over, dD_law_size, dD_worlds_of, dD_levels_of, dD_picture_of, dD_signature_of, dD_stands_on, dD_misfit_in, dD_law_picture, dD_law_below, dD_all_worlds, dD_keeps, dD_levels_on, dD_is_on, dD_is_below]
def faL : List He.Fa := [.glo "law", .glo "_law_named", .glo "_law_cell", .glo "_law_spots", .glo "_law_book", .glo "_law_worlds", .glo "count_ladder", .glo "_law_same", .glo "_law_p", .glo "_law_levels", .glo "_law_bent", .glo "find_misfit", .glo "_law_digits", .glo "_law_spoilt", .glo "_law_told", .glo "_law_misfit", .glo "_law_ascending", .glo "_law_spot", .glo "_law_take", .glo "_law_formula", .glo "_law_keeps", .glo "at_least", .glo "_law_whole", .glo "_law_count", .glo "leaf_worlds", .glo "others", .glo "_law_q", .glo "_law_on", .glo "leaves_of", .glo "_law_over", .glo "_law_size", .glo "worlds_of", .glo "levels_of", .glo "picture_of", .glo "signature_of", .glo "stands_on", .glo "misfit_in", .glo "_law_picture", .glo "_law_below", .glo "all_worlds", .glo "keeps", .glo "levels_on", .glo "is_on", .glo "is_below", .free "all", .free "any", .free "bool", .free "int", .free "isinstance", .free "len", .free "list", .free "max", .free "min", .free "range", .free "sorted", .free "str", .free "sum", .free "tuple", .free "zip"]
def glL : List (Str × N1.T) := [("SURE", c_SURE), ("NEVER", c_NEVER)]
def tfL : List He.Defn := [("worlds_of", none), ("keeps", none), ("is_on", none), ("is_below", none)]
def dfL : List (Str × List N1.T) := [("find_misfit", [(.tup [])])]
def moreL (K : PySem.W.Frag) : Bool := glL.all (ckG K) && dfL.all (ckDfl K)
theorem law_at {l : PySem.W.OpenLaw} {w : World} {K : PySem.W.Frag} {h : Heap} {mg : Str → Option Value} {fL : Addr} {m : Nat} (X : K.In h) (G : h.Ns mainGlobals mg) (hfa : mg "law" = some (.ref fL)) (c : He.SaysX faL fnL [] tfL moreL w h K)
    (ht : ∀ ns : List Int, ns.length ≤ 63 → ∀ sc : N1.T, sc = .lsk (ns.map .int) ∨ sc = .lst (ns.map .int) → sem m .law [.v sc] fun tk _ => tk = .v (.bl true)) : LamX.LawAtS l w K CX0 (2 * m) 63 "script" mg fL h := by
  obtain ⟨fd0, F0⟩ := c.t.d.def_ 0 (d := dD_law) rfl
  obtain ⟨fd1, F1⟩ := c.t.d.def_ 1 (d := dD_law_named) rfl
  obtain ⟨fd2, F2⟩ := c.t.d.def_ 2 (d := dD_law_cell) rfl
  obtain ⟨fd3, F3⟩ := c.t.d.def_ 3 (d := dD_law_spots) rfl
  obtain ⟨fd4, F4⟩ := c.t.d.def_ 4 (d := dD_law_book) rfl
  obtain ⟨fd5, F5⟩ := c.t.d.def_ 5 (d := dD_law_worlds) rfl
  obtain ⟨fd6, F6⟩ := c.t.d.def_ 6 (d := dD_count_ladder) rfl
  obtain ⟨fd7, F7⟩ := c.t.d.def_ 7 (d := dD_law_same) rfl
  obtain ⟨fd8, F8⟩ := c.t.d.def_ 8 (d := dD_law_p) rfl
  obtain ⟨fd9, F9⟩ := c.t.d.def_ 9 (d := dD_law_levels) rfl
  obtain ⟨fd10, F10⟩ := c.t.d.def_ 10 (d := dD_law_bent) rfl
  obtain ⟨fd11, F11⟩ := c.t.d.def_ 11 (d := dD_find_misfit) rfl
  obtain ⟨fd12, F12⟩ := c.t.d.def_ 12 (d := dD_law_digits) rfl
  obtain ⟨fd13, F13⟩ := c.t.d.def_ 13 (d := dD_law_spoilt) rfl
  obtain ⟨fd14, F14⟩ := c.t.d.def_ 14 (d := dD_law_told) rfl
  obtain ⟨fd15, F15⟩ := c.t.d.def_ 15 (d := dD_law_misfit) rfl
  obtain ⟨fd16, F16⟩ := c.t.d.def_ 16 (d := dD_law_ascending) rfl
  obtain ⟨fd17, F17⟩ := c.t.d.def_ 17 (d := dD_law_spot) rfl
  obtain ⟨fd18, F18⟩ := c.t.d.def_ 18 (d := dD_law_take) rfl
  obtain ⟨fd19, F19⟩ := c.t.d.def_ 19 (d := dD_law_formula) rfl
  obtain ⟨fd20, F20⟩ := c.t.d.def_ 20 (d := dD_law_keeps) rfl
  obtain ⟨fd21, F21⟩ := c.t.d.def_ 21 (d := dD_at_least) rfl
  obtain ⟨fd22, F22⟩ := c.t.d.def_ 22 (d := dD_law_whole) rfl
  obtain ⟨fd23, F23⟩ := c.t.d.def_ 23 (d := dD_law_count) rfl
  obtain ⟨fd24, F24⟩ := c.t.d.def_ 24 (d := dD_leaf_worlds) rfl
  obtain ⟨fd25, F25⟩ := c.t.d.def_ 25 (d := dD_others) rfl
  obtain ⟨fd26, F26⟩ := c.t.d.def_ 26 (d := dD_law_q) rfl
  obtain ⟨fd27, F27⟩ := c.t.d.def_ 27 (d := dD_law_on) rfl
  obtain ⟨fd28, F28⟩ := c.t.d.def_ 28 (d := dD_leaves_of) rfl
  obtain ⟨fd29, F29⟩ := c.t.d.def_ 29 (d := dD_law_over) rfl
  obtain ⟨fd30, F30⟩ := c.t.d.def_ 30 (d := dD_law_size) rfl
  obtain ⟨fd31, F31⟩ := c.t.d.def_ 31 (d := dD_worlds_of) rfl
  obtain ⟨fd32, F32⟩ := c.t.d.def_ 32 (d := dD_levels_of) rfl
  obtain ⟨fd33, F33⟩ := c.t.d.def_ 33 (d := dD_picture_of) rfl
  obtain ⟨fd34, F34⟩ := c.t.d.def_ 34 (d := dD_signature_of) rfl
  obtain ⟨fd35, F35⟩ := c.t.d.def_ 35 (d := dD_stands_on) rfl
  obtain ⟨fd36, F36⟩ := c.t.d.def_ 36 (d := dD_misfit_in) rfl
  obtain ⟨fd37, F37⟩ := c.t.d.def_ 37 (d := dD_law_picture) rfl
  obtain ⟨fd38, F38⟩ := c.t.d.def_ 38 (d := dD_law_below) rfl
  obtain ⟨fd39, F39⟩ := c.t.d.def_ 39 (d := dD_all_worlds) rfl
  obtain ⟨fd40, F40⟩ := c.t.d.def_ 40 (d := dD_keeps) rfl
  obtain ⟨fd41, F41⟩ := c.t.d.def_ 41 (d := dD_levels_on) rfl
  obtain ⟨fd42, F42⟩ := c.t.d.def_ 42 (d := dD_is_on) rfl
  obtain ⟨fd43, F43⟩ := c.t.d.def_ 43 (d := dD_is_below) rfl
  have more := (Bool.and_eq_true_iff.mp (show (glL.all (ckG K) && dfL.all (ckDfl K)) = true from c.more))
  have mG := more.1
  have mD := fun q (hq : q ∈ dfL) => List.all_eq_true.mp more.2 q hq
  have e := hfa.symm.trans (He.glo_ok X G (c.t.d.fact 0 (f := .glo "law") rfl))
  cases e
  have b0 := FunD.bindsN (ps := ["script"]) F0 fun _ _ _ _ _ _ us hl => match us, hl with | [_], _ => rfl
  have b1 := FunD.bindsN (ps := ["cell"]) F1 fun _ _ _ _ _ _ us hl => match us, hl with | [_], _ => rfl
  have b2 := FunD.bindsN (ps := ["script", "k"]) F2 fun _ _ _ _ _ _ us hl => match us, hl with | [_, _], _ => rfl
  have b3 := FunD.bindsN (ps := ["script", "at", "names", "menu"]) F3 fun _ _ _ _ _ _ us hl => match us, hl with | [_, _, _, _], _ => rfl
  have b4 := FunD.bindsN (ps := ["cell", "names"]) F4 fun _ _ _ _ _ _ us hl => match us, hl with | [_, _], _ => rfl
  have b5 := FunD.bindsN (ps := ["book", "names"]) F5 fun _ _ _ _ _ _ us hl => match us, hl with | [_, _], _ => rfl
  have b6 := FunD.bindsN (ps := ["places"]) F6 fun _ _ _ _ _ _ us hl => match us, hl with | [_], _ => rfl
  have b7 := FunD.bindsN (ps := ["told", "due"]) F7 fun _ _ _ _ _ _ us hl => match us, hl with | [_, _], _ => rfl
  have b8 := FunD.bindsN (ps := ["places", "j", "k"]) F8 fun _ _ _ _ _ _ us hl => match us, hl with | [_, _, _], _ => rfl
  have b9 := FunD.bindsN (ps := ["book", "names", "worlds", "places", "ladder"]) F9 fun _ _ _ _ _ _ us hl => match us, hl with | [_, _, _, _, _], _ => rfl
  have b10 := FunD.bindsN (ps := ["cell", "places"]) F10 fun _ _ _ _ _ _ us hl => match us, hl with | [_, _], _ => rfl
  have b12 := FunD.bindsN (ps := ["cell", "sizes"]) F12 fun _ _ _ _ _ _ us hl => match us, hl with | [_, _], _ => rfl
  have b13 := FunD.bindsN (ps := ["ladder", "picks", "names"]) F13 fun _ _ _ _ _ _ us hl => match us, hl with | [_, _, _], _ => rfl
  have b14 := FunD.bindsN (ps := ["told", "due"]) F14 fun _ _ _ _ _ _ us hl => match us, hl with | [_, _], _ => rfl
  have b15 := FunD.bindsN (ps := ["worlds", "ladder", "formulas"]) F15 fun _ _ _ _ _ _ us hl => match us, hl with | [_, _, _], _ => rfl
  have b16 := FunD.bindsN (ps := ["items"]) F16 fun _ _ _ _ _ _ us hl => match us, hl with | [_], _ => rfl
  have b17 := FunD.bindsN (ps := ["cell", "names"]) F17 fun _ _ _ _ _ _ us hl => match us, hl with | [_, _], _ => rfl
  have b18 := FunD.bindsN (ps := ["row", "at", "size"]) F18 fun _ _ _ _ _ _ us hl => match us, hl with | [_, _, _], _ => rfl
  have b19 := FunD.bindsN (ps := ["row", "at", "names", "deep"]) F19 fun _ _ _ _ _ _ us hl => match us, hl with | [_, _, _, _], _ => rfl
  have b20 := FunD.bindsN (ps := ["world", "sequent"]) F20 fun _ _ _ _ _ _ us hl => match us, hl with | [_, _], _ => rfl
  have b21 := FunD.bindsN (ps := ["places", "j", "k"]) F21 fun _ _ _ _ _ _ us hl => match us, hl with | [_, _, _], _ => rfl
  have b22 := FunD.bindsN (ps := ["value"]) F22 fun _ _ _ _ _ _ us hl => match us, hl with | [_], _ => rfl
  have b23 := FunD.bindsN (ps := ["places", "world"]) F23 fun _ _ _ _ _ _ us hl => match us, hl with | [_, _], _ => rfl
  have b24 := FunD.bindsN (ps := ["book", "names", "plan", "leaf"]) F24 fun _ _ _ _ _ _ us hl => match us, hl with | [_, _, _, _], _ => rfl
  have b25 := FunD.bindsN (ps := ["places", "i", "j", "k"]) F25 fun _ _ _ _ _ _ us hl => match us, hl with | [_, _, _, _], _ => rfl
  have b26 := FunD.bindsN (ps := ["places", "i", "j", "k"]) F26 fun _ _ _ _ _ _ us hl => match us, hl with | [_, _, _, _], _ => rfl
  have b27 := FunD.bindsN (ps := ["member", "world"]) F27 fun _ _ _ _ _ _ us hl => match us, hl with | [_, _], _ => rfl
  have b28 := FunD.bindsN (ps := ["plan"]) F28 fun _ _ _ _ _ _ us hl => match us, hl with | [_], _ => rfl
  have b29 := FunD.bindsN (ps := ["row", "at", "places", "deep"]) F29 fun _ _ _ _ _ _ us hl => match us, hl with | [_, _, _, _], _ => rfl
  have b30 := FunD.bindsN (ps := ["member"]) F30 fun _ _ _ _ _ _ us hl => match us, hl with | [_], _ => rfl
  have b31 := FunD.bindsN (ps := ["book", "names"]) F31 fun _ _ _ _ _ _ us hl => match us, hl with | [_, _], _ => rfl
  have b32 := FunD.bindsN (ps := ["plan", "world"]) F32 fun _ _ _ _ _ _ us hl => match us, hl with | [_, _], _ => rfl
  have b33 := FunD.bindsN (ps := ["formulas", "world"]) F33 fun _ _ _ _ _ _ us hl => match us, hl with | [_, _], _ => rfl
  have b34 := FunD.bindsN (ps := ["signs", "world"]) F34 fun _ _ _ _ _ _ us hl => match us, hl with | [_, _], _ => rfl
  have b35 := FunD.bindsN (ps := ["levels", "leaf"]) F35 fun _ _ _ _ _ _ us hl => match us, hl with | [_, _], _ => rfl
  have b36 := FunD.bindsN (ps := ["lot", "pictures", "signatures", "worlds"]) F36 fun _ _ _ _ _ _ us hl => match us, hl with | [_, _, _, _], _ => rfl
  have b37 := FunD.bindsN (ps := ["formulas", "world"]) F37 fun _ _ _ _ _ _ us hl => match us, hl with | [_, _], _ => rfl
  have b38 := FunD.bindsN (ps := ["low", "high"]) F38 fun _ _ _ _ _ _ us hl => match us, hl with | [_, _], _ => rfl
  have b39 := FunD.bindsN (ps := ["names"]) F39 fun _ _ _ _ _ _ us hl => match us, hl with | [_], _ => rfl
  have b40 := FunD.bindsN (ps := ["world", "sequent"]) F40 fun _ _ _ _ _ _ us hl => match us, hl with | [_, _], _ => rfl
  have b41 := FunD.bindsN (ps := ["ladder", "world"]) F41 fun _ _ _ _ _ _ us hl => match us, hl with | [_, _], _ => rfl
  have b42 := FunD.bindsN (ps := ["member", "world"]) F42 fun _ _ _ _ _ _ us hl => match us, hl with | [_, _], _ => rfl
  have b43 := FunD.bindsN (ps := ["low", "high"]) F43 fun _ _ _ _ _ _ us hl => match us, hl with | [_, _], _ => rfl
  let fA : Fn → Addr := fun f => match f with
    | .law => He.fAd K ("law", none)
    | .law_named => He.fAd K ("_law_named", none)
    | .law_cell => He.fAd K ("_law_cell", none)
    | .law_spots => He.fAd K ("_law_spots", none)
    | .law_book => He.fAd K ("_law_book", none)
    | .law_worlds => He.fAd K ("_law_worlds", none)
    | .count_ladder => He.fAd K ("count_ladder", none)
    | .law_same => He.fAd K ("_law_same", none)
    | .law_p => He.fAd K ("_law_p", none)
    | .law_levels => He.fAd K ("_law_levels", none)
    | .law_bent => He.fAd K ("_law_bent", none)
    | .find_misfit => He.fAd K ("find_misfit", none)
    | .law_digits => He.fAd K ("_law_digits", none)
    | .law_spoilt => He.fAd K ("_law_spoilt", none)
    | .law_told => He.fAd K ("_law_told", none)
    | .law_misfit => He.fAd K ("_law_misfit", none)
    | .law_ascending => He.fAd K ("_law_ascending", none)
    | .law_spot => He.fAd K ("_law_spot", none)
    | .law_take_viv => He.fAd K ("_law_take", none)
    | .law_formula_vivv => He.fAd K ("_law_formula", none)
    | .law_keeps => He.fAd K ("_law_keeps", none)
    | .at_least => He.fAd K ("at_least", none)
    | .law_whole => He.fAd K ("_law_whole", none)
    | .law_count => He.fAd K ("_law_count", none)
    | .leaf_worlds => He.fAd K ("leaf_worlds", none)
    | .others => He.fAd K ("others", none)
    | .law_q => He.fAd K ("_law_q", none)
    | .law_on => He.fAd K ("_law_on", none)
    | .leaves_of => He.fAd K ("leaves_of", none)
    | .law_over_vivv => He.fAd K ("_law_over", none)
    | .law_size => He.fAd K ("_law_size", none)
    | .worlds_of => He.fAd K ("worlds_of", none)
    | .levels_of => He.fAd K ("levels_of", none)
    | .picture_of => He.fAd K ("picture_of", none)
    | .signature_of => He.fAd K ("signature_of", none)
    | .stands_on => He.fAd K ("stands_on", none)
    | .misfit_in => He.fAd K ("misfit_in", none)
    | .law_picture => He.fAd K ("_law_picture", none)
    | .law_below => He.fAd K ("_law_below", none)
    | .all_worlds => He.fAd K ("all_worlds", none)
    | .keeps => He.fAd K ("keeps", none)
    | .levels_on => He.fAd K ("levels_on", none)
    | .is_on => He.fAd K ("is_on", none)
    | .is_below => He.fAd K ("is_below", none)
  let fT : Fn → FuncData := fun f => match f with
    | .law => fd0
    | .law_named => fd1
    | .law_cell => fd2
    | .law_spots => fd3
    | .law_book => fd4
    | .law_worlds => fd5
    | .count_ladder => fd6
    | .law_same => fd7
    | .law_p => fd8
    | .law_levels => fd9
    | .law_bent => fd10
    | .find_misfit => fd11
    | .law_digits => fd12
    | .law_spoilt => fd13
    | .law_told => fd14
    | .law_misfit => fd15
    | .law_ascending => fd16
    | .law_spot => fd17
    | .law_take_viv => fd18
    | .law_formula_vivv => fd19
    | .law_keeps => fd20
    | .at_least => fd21
    | .law_whole => fd22
    | .law_count => fd23
    | .leaf_worlds => fd24
    | .others => fd25
    | .law_q => fd26
    | .law_on => fd27
    | .leaves_of => fd28
    | .law_over_vivv => fd29
    | .law_size => fd30
    | .worlds_of => fd31
    | .levels_of => fd32
    | .picture_of => fd33
    | .signature_of => fd34
    | .stands_on => fd35
    | .misfit_in => fd36
    | .law_picture => fd37
    | .law_below => fd38
    | .all_worlds => fd39
    | .keeps => fd40
    | .levels_on => fd41
    | .is_on => fd42
    | .is_below => fd43
  refine ⟨fd0, tfL.map (He.cT K), liftSp ⟨K, tfL.map fun p => (He.cT K p).2⟩ 1 (sem m .law), fun p hp => ?_, fun p hp => ?_, fun p hp => ?_, fun s u => FunD.bindsA (ps := ["script"]) F0 (fun _ _ _ _ _ _ us hl => match us, hl with | [_], _ => rfl) s [u] rfl, fun H a ns hl _ hH hS => ?_, fun base _ _ hB => ?_⟩
  · obtain ⟨q, hq, rfl⟩ := List.mem_map.mp hp
    exact c.empty q hq
  · obtain ⟨q, hq, rfl⟩ := List.mem_map.mp hp
    exact c.out q hq
  · obtain ⟨q, hq, rfl⟩ := List.mem_map.mp hp
    exact PySem.W.codeHd_of_K X (c.hd q hq)
  · refine law_okT (fun P hP => ?_) hS (ht ns hl)
    obtain ⟨q, hq, rfl⟩ := List.mem_map.mp hP
    exact ⟨#[], hH _ (List.mem_map_of_mem hq), True.intro⟩
  · have mk : ∀ q ∈ tfL, GxR.TabB base mg (He.cT K q).1 (He.cT K q).2 ∧ (He.cT K q).2 ∈ tfL.map fun p => (He.cT K p).2 := fun q hq => ⟨tabB_gx (hB _ (List.mem_map_of_mem hq)), List.mem_map_of_mem (f := fun p => (He.cT K p).2) hq⟩
    have t : Top K (tfL.map fun p => (He.cT K p).2) mg base fA fT := ⟨⟨F0, He.glo_ok X G (c.t.d.fact 0 (f := .glo "law") rfl), b0⟩, ⟨F1, He.glo_ok X G (c.t.d.fact 1 (f := .glo "_law_named") rfl), b1⟩, ⟨F2, He.glo_ok X G (c.t.d.fact 2 (f := .glo "_law_cell") rfl), b2⟩, ⟨F3, He.glo_ok X G (c.t.d.fact 3 (f := .glo "_law_spots") rfl), b3⟩, ⟨F4, He.glo_ok X G (c.t.d.fact 4 (f := .glo "_law_book") rfl), b4⟩, ⟨F5, He.glo_ok X G (c.t.d.fact 5 (f := .glo "_law_worlds") rfl), b5⟩, ⟨F6, He.glo_ok X G (c.t.d.fact 6 (f := .glo "count_ladder") rfl), b6⟩, ⟨F7, He.glo_ok X G (c.t.d.fact 7 (f := .glo "_law_same") rfl), b7⟩, ⟨F8, He.glo_ok X G (c.t.d.fact 8 (f := .glo "_law_p") rfl), b8⟩, ⟨F9, He.glo_ok X G (c.t.d.fact 9 (f := .glo "_law_levels") rfl), b9⟩, ⟨F10, He.glo_ok X G (c.t.d.fact 10 (f := .glo "_law_bent") rfl), b10⟩, ⟨F11, He.glo_ok X G (c.t.d.fact 11 (f := .glo "find_misfit") rfl)⟩, ⟨F12, He.glo_ok X G (c.t.d.fact 12 (f := .glo "_law_digits") rfl), b12⟩, ⟨F13, He.glo_ok X G (c.t.d.fact 13 (f := .glo "_law_spoilt") rfl), b13⟩, ⟨F14, He.glo_ok X G (c.t.d.fact 14 (f := .glo "_law_told") rfl), b14⟩, ⟨F15, He.glo_ok X G (c.t.d.fact 15 (f := .glo "_law_misfit") rfl), b15⟩, ⟨F16, He.glo_ok X G (c.t.d.fact 16 (f := .glo "_law_ascending") rfl), b16⟩, ⟨F17, He.glo_ok X G (c.t.d.fact 17 (f := .glo "_law_spot") rfl), b17⟩, ⟨F18, He.glo_ok X G (c.t.d.fact 18 (f := .glo "_law_take") rfl), b18⟩, ⟨F19, He.glo_ok X G (c.t.d.fact 19 (f := .glo "_law_formula") rfl), b19⟩, ⟨F20, He.glo_ok X G (c.t.d.fact 20 (f := .glo "_law_keeps") rfl), b20⟩, ⟨F21, He.glo_ok X G (c.t.d.fact 21 (f := .glo "at_least") rfl), b21⟩, ⟨F22, He.glo_ok X G (c.t.d.fact 22 (f := .glo "_law_whole") rfl), b22⟩, ⟨F23, He.glo_ok X G (c.t.d.fact 23 (f := .glo "_law_count") rfl), b23⟩, ⟨F24, He.glo_ok X G (c.t.d.fact 24 (f := .glo "leaf_worlds") rfl), b24⟩, ⟨F25, He.glo_ok X G (c.t.d.fact 25 (f := .glo "others") rfl), b25⟩, ⟨F26, He.glo_ok X G (c.t.d.fact 26 (f := .glo "_law_q") rfl), b26⟩, ⟨F27, He.glo_ok X G (c.t.d.fact 27 (f := .glo "_law_on") rfl), b27⟩, ⟨F28, He.glo_ok X G (c.t.d.fact 28 (f := .glo "leaves_of") rfl), b28⟩, ⟨F29, He.glo_ok X G (c.t.d.fact 29 (f := .glo "_law_over") rfl), b29⟩, ⟨F30, He.glo_ok X G (c.t.d.fact 30 (f := .glo "_law_size") rfl), b30⟩, ⟨F31, He.glo_ok X G (c.t.d.fact 31 (f := .glo "worlds_of") rfl), b31⟩, ⟨F32, He.glo_ok X G (c.t.d.fact 32 (f := .glo "levels_of") rfl), b32⟩, ⟨F33, He.glo_ok X G (c.t.d.fact 33 (f := .glo "picture_of") rfl), b33⟩, ⟨F34, He.glo_ok X G (c.t.d.fact 34 (f := .glo "signature_of") rfl), b34⟩, ⟨F35, He.glo_ok X G (c.t.d.fact 35 (f := .glo "stands_on") rfl), b35⟩, ⟨F36, He.glo_ok X G (c.t.d.fact 36 (f := .glo "misfit_in") rfl), b36⟩, ⟨F37, He.glo_ok X G (c.t.d.fact 37 (f := .glo "_law_picture") rfl), b37⟩, ⟨F38, He.glo_ok X G (c.t.d.fact 38 (f := .glo "_law_below") rfl), b38⟩, ⟨F39, He.glo_ok X G (c.t.d.fact 39 (f := .glo "all_worlds") rfl), b39⟩, ⟨F40, He.glo_ok X G (c.t.d.fact 40 (f := .glo "keeps") rfl), b40⟩, ⟨F41, He.glo_ok X G (c.t.d.fact 41 (f := .glo "levels_on") rfl), b41⟩, ⟨F42, He.glo_ok X G (c.t.d.fact 42 (f := .glo "is_on") rfl), b42⟩, ⟨F43, He.glo_ok X G (c.t.d.fact 43 (f := .glo "is_below") rfl), b43⟩, bindsD F11 (List.cons_ne_nil _ _) (mD ("find_misfit", [(.tup [])]) (by simp [dfL])) 4 0 rfl (fun _ _ _ _ _ _ _ us its h1 h2 => match us, its, h1, h2 with | [_, _, _, _], [_], _, _ => ⟨_, rfl, rfl⟩), He.free_ok X G (c.t.d.fact 44 (f := .free "all") rfl), He.free_ok X G (c.t.d.fact 45 (f := .free "any") rfl), He.free_ok X G (c.t.d.fact 46 (f := .free "bool") rfl), He.free_ok X G (c.t.d.fact 47 (f := .free "int") rfl), He.free_ok X G (c.t.d.fact 48 (f := .free "isinstance") rfl), He.free_ok X G (c.t.d.fact 49 (f := .free "len") rfl), He.free_ok X G (c.t.d.fact 50 (f := .free "list") rfl), He.free_ok X G (c.t.d.fact 51 (f := .free "max") rfl), He.free_ok X G (c.t.d.fact 52 (f := .free "min") rfl), He.free_ok X G (c.t.d.fact 53 (f := .free "range") rfl), He.free_ok X G (c.t.d.fact 54 (f := .free "sorted") rfl), He.free_ok X G (c.t.d.fact 55 (f := .free "str") rfl), He.free_ok X G (c.t.d.fact 56 (f := .free "sum") rfl), He.free_ok X G (c.t.d.fact 57 (f := .free "tuple") rfl), He.free_ok X G (c.t.d.fact 58 (f := .free "zip") rfl), glob_of X G mG (by simp [glL]), glob_of X G mG (by simp [glL]), ⟨_, _, code_at F31, (mk ("worlds_of", none) (by decide)).1, (mk ("worlds_of", none) (by decide)).2⟩, ⟨_, _, code_at F40, (mk ("keeps", none) (by decide)).1, (mk ("keeps", none) (by decide)).2⟩, ⟨_, _, code_at F42, (mk ("is_on", none) (by decide)).1, (mk ("is_on", none) (by decide)).2⟩, ⟨_, _, code_at F43, (mk ("is_below", none) (by decide)).1, (mk ("is_below", none) (by decide)).2⟩⟩
    exact all_ok t m .law
end K45
namespace K45
open PySem PySem.Spec PyProof.Rows L2 N1
abbrev R : PySem.W.OpenRow := PySem.W.OpenLaw.row PySem.Challenge.rw_nevernot_k45_count_ladder_serves
abbrev hk : PySem.W.Hook := He.hookX 4 faL fnL [] tfL moreL
def ob (s : PySem.W.SharedT) : He.AlX := He.obsX 4 faL fnL [] tfL moreL (HandSHeadRun.getT s)
theorem ob_eq (s : PySem.W.SharedT) : ob s = hk.obs s.abs := He.obsX_eq (HandSHeadRun.getT_eq s)
theorem run (w : World) : HandSHeadRun.RunEq R (PySem.W.view R.prog [51]) hk ob 4000 ("SURE" :: "NEVER" :: "at_least" :: "others" :: "count_ladder" :: "is_on" :: "keeps" :: "is_below" :: "all_worlds" :: "worlds_of" :: "signature_of" :: "picture_of" :: "leaves_of" :: "levels_on" :: "levels_of" :: "stands_on" :: "leaf_worlds" :: "misfit_in" :: "find_misfit" :: "_law_whole" :: "_law_cell" :: "_law_digits" :: "_law_take" :: "_law_ascending" :: "_law_named" :: "_law_formula" :: "_law_spot" :: "_law_spots" :: "_law_book" :: "_law_on" :: "_law_keeps" :: "_law_worlds" :: "_law_below" :: "_law_picture" :: "_law_p" :: "_law_q" :: "_law_same" :: "_law_size" :: "_law_over" :: "_law_bent" :: "_law_count" :: "_law_misfit" :: "_law_spoilt" :: "_law_told" :: "_law_levels" :: []) w := by
  intro os
  kernel_rfl
end K45
open PySem PySem.W PySem.Calls PyProof.Rows
set_option maxHeartbeats 0 in
theorem PySem.Challenge.cw_nevernot_k45_count_ladder_serves_holds : PySem.Challenge.rw_nevernot_k45_count_ladder_serves.Holds := by
  w_on; o_law
  refine HandSHeadRun.head_any (r := OpenLaw.row PySem.Challenge.rw_nevernot_k45_count_ladder_serves) (q := view (OpenLaw.row PySem.Challenge.rw_nevernot_k45_count_ladder_serves).prog [51]) (H := K45.hk) (ob := K45.ob) (M := 4000) (loose := ("SURE" :: "NEVER" :: "at_least" :: "others" :: "count_ladder" :: "is_on" :: "keeps" :: "is_below" :: "all_worlds" :: "worlds_of" :: "signature_of" :: "picture_of" :: "leaves_of" :: "levels_on" :: "levels_of" :: "stands_on" :: "leaf_worlds" :: "misfit_in" :: "find_misfit" :: "_law_whole" :: "_law_cell" :: "_law_digits" :: "_law_take" :: "_law_ascending" :: "_law_named" :: "_law_formula" :: "_law_spot" :: "_law_spots" :: "_law_book" :: "_law_on" :: "_law_keeps" :: "_law_worlds" :: "_law_below" :: "_law_picture" :: "_law_p" :: "_law_q" :: "_law_same" :: "_law_size" :: "_law_over" :: "_law_bent" :: "_law_count" :: "_law_misfit" :: "_law_spoilt" :: "_law_told" :: "_law_levels" :: [])) (d := HandSHeadRun.topDef (OpenLaw.row PySem.Challenge.rw_nevernot_k45_count_ladder_serves).prog 51) (kwd := []) K45.ob_eq
    (by kernel_rfl) (fun s => by kernel_rfl) K45.run (by kernel_rfl) (by kernel_rfl) (by kernel_rfl) (by rfl) (by first | assumption | decide +kernel) (by decide +kernel) ⟨rfl, rfl, rfl, rfl, rfl, by decide +kernel⟩ ?hw ?hc
  case hw => w_witness2
  case hc =>
    refine LamX.walk_ofTsE (l := PySem.Challenge.rw_nevernot_k45_count_ladder_serves) (n := 63) (k := 2 * K45.depth) (x := "script") (CX := fun _ => L2.CX0) rfl (by decide) (by kernel_rfl) ⟨rfl, by decide, by decide⟩ ?F (fun _ _ _ _ _ z => z)
    intro w mg fa h Y G hmg0
    obtain ⟨K, KX, c⟩ := Y
    have hmg : mg ("law" : PySem.Str) = some (.ref fa) := by
      have e : (HandSHeadRun.topDef (OpenLaw.row PySem.Challenge.rw_nevernot_k45_count_ladder_serves).prog 51).name = ("law" : PySem.Str) := by kernel_rfl
      rw [← e]
      exact hmg0
    exact ⟨K, KX, K45.law_at (m := K45.depth) KX G hmg c K45.law_all⟩
