import PyProof.Rows.All
import Wide.All
import OpenK.AllK
import Wide.FinOn
import HandS.ForMost
import HandS.Wide
import HandS.WideBits
import HandS.IsInst
import HandS.Flow
import HandS.More
import KE.OsArith
import KE.KExcSuper
import KE.KSuper
import HandS.ExcInit
import HandS.Nested
import HandS.TryOnly
import HandS.TryMany
import HandS.WordsExc
import HandS.SuiteRaise
import HandS.ExcIs
import HandS.ExcField
import HandS.ExcOwn
import HandS.CallSlots
import KE.KExcIs
import HandS.Defaults
import HandS.Replace
import HandS.Walk
import HandS.Dict
import HandS.Small
import HandS.TupLe
import HandS.ListItems
import HandS.Text
import PySem.Challenge.RW_formstripes_k01_texts_as_octets
set_option Elab.async false
set_option linter.all false
set_option maxRecDepth 100000
set_option maxHeartbeats 4000000
/-! R: rules joined by kinds of values, with the equations of their readings. -/
namespace R
open PySem PySem.Spec PyProof.Rows L2

section
variable {X : Cx}
theorem opImp {f : Value → Value → Sem Value} {r r' : R2} (h : OpR X f r) (i : ∀ x y H Q, r' x y H Q → r x y H Q) : OpR X f r' :=
  fun pins s σ H x y u v Q I rx ry q => h pins s σ H x y u v Q I rx ry (i _ _ _ _ q)
theorem unImp {f : Value → Sem Value} {r r' : V → Hp → VK → Prop} (h : UnR X f r) (i : ∀ x H Q, r' x H Q → r x H Q) : UnR X f r' :=
  fun pins s σ H x v Q I rx q => h pins s σ H x v Q I rx (i _ _ _ q)
theorem callImp {f : Value} {r r' : List V → Hp → VK → Prop} (h : CallR X f r) (i : ∀ xs H Q, r' xs H Q → r xs H Q) : CallR X f r' :=
  fun pins s σ H xs us Q I rx q => h pins s σ H xs us Q I rx (i _ _ _ q)
theorem ixImp {r r' : R2} (h : IxR X r) (i : ∀ x y H Q, r' x y H Q → r x y H Q) : IxR X r' :=
  fun a b pins s σ H x y u v Q I rx ry q e => h a b pins s σ H x y u v Q I rx ry (i _ _ _ _ q) e
theorem mtImp {id : String} {r r' : V → List V → Hp → VK → Prop} (h : MtR X id r) (i : ∀ x xs H Q, r' x xs H Q → r x xs H Q) : MtR X id r' :=
  fun pins s σ H x xs u us Q I rx ry q => h pins s σ H x xs u us Q I rx ry (i _ _ _ _ q)
end

/-! ### ints -/
def mI (C : Int → Int → Prop) (g : Int → Int → V) : R2 := fun x y H Q => match x, y with
  | .int i, .int j => C i j ∧ Q (g i j) H
  | _, _ => False
def mI0 (g : Int → Int → V) : R2 := fun x y H Q => match x, y with
  | .int i, .int j => Q (g i j) H
  | _, _ => False
theorem mI_e {C g i j H Q} : mI C g (.int i) (.int j) H Q = (C i j ∧ Q (g i j) H) := rfl
theorem mI0_e {g i j H Q} : mI0 g (.int i) (.int j) H Q = Q (g i j) H := rfl
theorem mI_of {X : Cx} {f : Value → Value → Sem Value} {C g} (h : OpR X f (rI C g)) : OpR X f (mI C g) := opImp h fun x y H Q q => by
  cases x <;> cases y <;> first | exact q.elim | exact ⟨_, _, rfl, rfl, q.1, q.2⟩
theorem mI0_of {X : Cx} {f : Value → Value → Sem Value} {g} (h : OpR X f (rI0 g)) : OpR X f (mI0 g) := opImp h fun x y H Q q => by
  cases x <;> cases y <;> first | exact q.elim | exact ⟨_, _, rfl, rfl, q⟩
/-- a product's sizes -/
def CM (i j : Int) : Prop := CMul i j ∨ CMulW i j
/-- a divisor's size -/
def CD (i j : Int) : Prop := 0 < j ∧ (j < 1073741824 ∨ j.natAbs.log2 < 9000)
/-- a shift's sizes -/
def CS (i j : Int) : Prop := 0 ≤ j ∧ ((j ≤ 1000000 ∧ i.natAbs < 2 ^ 64) ∨ (Builtin.Int.intBits i : Int) + j ≤ 2 ^ 27)
section
variable {X : Cx}
theorem orI {f : Value → Value → Sem Value} {C C' g} (h : OpR X f (rI C g)) (h' : OpR X f (rI C' g)) : OpR X f (rI (fun i j => C i j ∨ C' i j) g) :=
  opImp (h.or h') fun x y H Q ⟨i, j, e1, e2, c, q⟩ => c.elim (fun c => .inl ⟨i, j, e1, e2, c, q⟩) fun c => .inr ⟨i, j, e1, e2, c, q⟩
theorem cI {f : Value → Value → Sem Value} {C C' : Int → Int → Prop} {g} (h : OpR X f (rI C g)) (i : ∀ i j, C' i j → C i j) : OpR X f (rI C' g) :=
  opImp h fun x y H Q ⟨a, b, e1, e2, c, q⟩ => ⟨a, b, e1, e2, i _ _ c, q⟩
def rSubI : R2 := mI0 fun i j => .int (i - j)
def rMulI : R2 := mI CM fun i j => .int (i * j)
def rFdiv : R2 := mI CD fun i j => .int (i / j)
def rMod : R2 := mI (fun _ j => 0 < j) fun i j => .int (i % j)
def rShl : R2 := mI CS fun i j => .int (i * 2 ^ j.toNat)
def rShr : R2 := mI (fun _ j => 0 ≤ j) fun i j => .int (i / 2 ^ j.toNat)
def rXor : R2 := mI0 fun i j => .int (Builtin.bitXor i j)
def rAndB : R2 := mI0 fun i j => .int (Builtin.bitAnd i j)
def rOrB : R2 := mI0 fun i j => .int (Builtin.bitOr i j)
def rPow : R2 := mI CPow fun i j => .int (i ^ j.toNat)
theorem u_sub : OpR X (binaryOp .Sub) rSubI := mI0_of op_sub
theorem u_mulI : OpR X (binaryOp .Mult) rMulI := mI_of (orI op_mul op_mulW)
theorem u_fdiv : OpR X (binaryOp .FloorDiv) rFdiv := mI_of (cI (orI op_fdiv op_fdivW) fun i j c => c.2.elim (fun h => .inl ⟨c.1, h⟩) fun h => .inr ⟨c.1, h⟩)
theorem u_mod : OpR X (binaryOp .Mod) rMod := mI_of op_mod
theorem u_shl : OpR X (binaryOp .LShift) rShl := mI_of (cI (orI op_shl op_shlW) fun i j c => c.2.elim (fun h => .inl ⟨c.1, h.1, h.2⟩) fun h => .inr ⟨c.1, h⟩)
theorem u_shr : OpR X (binaryOp .RShift) rShr := mI_of op_shr
theorem u_xor : OpR X (binaryOp .BitXor) rXor := mI0_of op_xor
theorem u_and : OpR X (binaryOp .BitAnd) rAndB := mI0_of op_and
theorem u_or : OpR X (binaryOp .BitOr) rOrB := mI0_of op_or
theorem u_pow : OpR X (binaryOp .Pow) rPow := mI_of op_pow
theorem i_sub : OpR X (inplaceOp .Sub) rSubI := mI0_of iop_sub
theorem i_mod : OpR X (inplaceOp .Mod) rMod := mI_of iop_mod
theorem i_shl : OpR X (inplaceOp .LShift) rShl := mI_of (cI (orI iop_shl iop_shlW) fun i j c => c.2.elim (fun h => .inl ⟨c.1, h.1, h.2⟩) fun h => .inr ⟨c.1, h⟩)
theorem i_shr : OpR X (inplaceOp .RShift) rShr := mI_of iop_shr
theorem i_xor : OpR X (inplaceOp .BitXor) rXor := mI0_of iop_xor
theorem i_and : OpR X (inplaceOp .BitAnd) rAndB := mI0_of iop_and
theorem i_or : OpR X (inplaceOp .BitOr) rOrB := mI0_of iop_or
end
/-! ### new objects -/
def Nw (H : Hp) (o : HO) (Q : VK) : Prop := ∀ p, H p = none → Q (.ref p) (upd H p o)
/-- all that was tracked is as it was -/
theorem Same.new {H : Hp} {p : Addr} {o : HO} (h : H p = none) : Same H (upd H p o) := fun a u e => by
  rw [upd_ne (ne_of_none e h)]
  exact e
theorem nw {H : Hp} {o : HO} {Q : VK} (h : ∀ p H', H p = none → Same H H' → H' p = some o → Q (.ref p) H') : Nw H o Q := fun p hp => h p _ hp (Same.new hp) upd_same

/-! ### lists and tuples that are read -/
open Classical in
noncomputable def klst (K : PySem.W.Frag) (p : Addr) : Option (List V) := if h : ∃ xs, SqL K (fun _ => none) p xs then some (Classical.choose h) else none
open Classical in
noncomputable def ktup (K : PySem.W.Frag) (p : Addr) : Option (List V) := if h : ∃ xs, SqT K (fun _ => none) p xs then some (Classical.choose h) else none
noncomputable def lstv (K : PySem.W.Frag) (H : Hp) (p : Addr) : Option (List V) := match H p with
  | some (.lst xs) => some xs
  | some (.frz _ (.lst xs)) => some xs
  | none => klst K p
  | _ => none
noncomputable def tupv (K : PySem.W.Frag) (H : Hp) (p : Addr) : Option (List V) := match H p with
  | some (.tup xs) => some xs
  | some (.frz _ (.tup xs)) => some xs
  | none => ktup K p
  | _ => none
section
variable {K : PySem.W.Frag} {H H' : Hp} {p : Addr} {xs : List V}
theorem lstv_of (h : H p = some (.lst xs)) : lstv K H p = some xs := by unfold lstv; rw [h]
theorem lstv_frz {o} (h : H p = some (.frz o (.lst xs))) : lstv K H p = some xs := by unfold lstv; rw [h]
theorem tupv_of (h : H p = some (.tup xs)) : tupv K H p = some xs := by unfold tupv; rw [h]
theorem lstv_tup (h : H p = some (.tup xs)) : lstv K H p = none := by unfold lstv; rw [h]
theorem tupv_lst (h : H p = some (.lst xs)) : tupv K H p = none := by unfold tupv; rw [h]
theorem tupv_frz {o} (h : H p = some (.frz o (.lst xs))) : tupv K H p = none := by unfold tupv; rw [h]
theorem lstv_sq (h : lstv K H p = some xs) : SqL K H p xs := by
  unfold lstv at h
  split at h
  · cases h; exact .inl (.inl ‹_›)
  · cases h; exact .inl (.inr ⟨_, ‹_›⟩)
  · unfold klst at h
    split at h
    · rename_i hn he
      have q := Classical.choose_spec he
      cases h
      rcases q with (q | ⟨_, q⟩) | q
      · cases q
      · cases q
      · exact .inr q
    · cases h
  · cases h
theorem tupv_sq (h : tupv K H p = some xs) : SqT K H p xs := by
  unfold tupv at h
  split at h
  · cases h; exact .inl (.inl ‹_›)
  · cases h; exact .inl (.inr ⟨_, ‹_›⟩)
  · unfold ktup at h
    split at h
    · rename_i hn he
      have q := Classical.choose_spec he
      cases h
      rcases q with (q | ⟨_, q⟩) | q
      · cases q
      · cases q
      · exact .inr q
    · cases h
  · cases h
end
/-- a list or a tuple -/
noncomputable def sqv (K : PySem.W.Frag) (H : Hp) (p : Addr) : Option (List V) := match lstv K H p with
  | some xs => some xs
  | none => tupv K H p
theorem sqv_sq {K : PySem.W.Frag} {H : Hp} {p : Addr} {xs : List V} (h : sqv K H p = some xs) : SqL K H p xs ∨ SqT K H p xs := by
  unfold sqv at h
  split at h
  · cases h; exact .inl (lstv_sq ‹_›)
  · exact .inr (tupv_sq h)
theorem sqv_l {K : PySem.W.Frag} {H : Hp} {p : Addr} {xs : List V} (h : lstv K H p = some xs) : sqv K H p = some xs := by unfold sqv; rw [h]
theorem sqv_t {K : PySem.W.Frag} {H : Hp} {p : Addr} {xs : List V} (h : H p = some (.tup xs)) : sqv K H p = some xs := by unfold sqv; rw [lstv_tup h]; exact tupv_of h

/-! ### + -/
def rAddU : R2 := fun x y H Q => match x, y with
  | .int i, .int j => Q (.int (i + j)) H
  | .str a, .str b => a.length + b.length ≤ sizeLine ∧ Q (.str (a ++ b)) H
  | .byt a, .byt b => a.size + b.size ≤ 16777216 ∧ Q (.byt (a ++ b)) H
  | .ref a, .ref b => match H a, H b with
    | some (.lst xs), some (.lst ys) => xs.length + ys.length ≤ sizeLine ∧ Nw H (.lst (xs ++ ys)) Q
    | some (.tup xs), some (.tup ys) => xs ≠ [] ∧ xs.length + ys.length ≤ sizeLine ∧ (ys = [] → Q (.ref a) H) ∧ (ys ≠ [] → Nw H (.tup (xs ++ ys)) Q)
    | _, _ => False
  | _, _ => False
theorem rAddU_int {i j H Q} : rAddU (.int i) (.int j) H Q = Q (.int (i + j)) H := rfl
theorem rAddU_str {i j H Q} : rAddU (.str i) (.str j) H Q = (i.length + j.length ≤ sizeLine ∧ Q (.str (i ++ j)) H) := rfl
theorem rAddU_lst {a b : Addr} {xs ys : List V} {H : Hp} {Q} (ha : H a = some (.lst xs)) (hb : H b = some (.lst ys)) : rAddU (.ref a) (.ref b) H Q = (xs.length + ys.length ≤ sizeLine ∧ Nw H (.lst (xs ++ ys)) Q) := by
  unfold rAddU; simp only [ha, hb]
section
variable {X : Cx}
theorem u_add : OpR X (binaryOp .Add) rAddU := opImp (((op_add.or op_add_str).or op_add_byt).or (op_cat.or op_catT)) fun x y H Q q => by
  unfold rAddU at q
  split at q
  · exact .inl (.inl (.inl ⟨_, _, rfl, rfl, q⟩))
  · exact .inl (.inl (.inr ⟨_, _, rfl, rfl, q⟩))
  · exact .inl (.inr ⟨_, _, rfl, rfl, q⟩)
  · split at q
    · exact .inr (.inl ⟨_, _, _, _, rfl, rfl, ‹_›, ‹_›, q⟩)
    · exact .inr (.inr ⟨_, _, _, _, rfl, rfl, SqT.of ‹_›, SqT.of ‹_›, q⟩)
    · exact q.elim
  · exact q.elim
def rIaddU : R2 := fun x y H Q => match x, y with
  | .int i, .int j => Q (.int (i + j)) H
  | .str a, .str b => a.length + b.length ≤ sizeLine ∧ Q (.str (a ++ b)) H
  | _, _ => False
theorem i_add : OpR X (inplaceOp .Add) rIaddU := opImp (iop_add.or iop_add_str) fun x y H Q q => by
  unfold rIaddU at q
  split at q
  · exact .inl ⟨_, _, rfl, rfl, q⟩
  · exact .inr ⟨_, _, rfl, rfl, q⟩
  · exact q.elim
def rMulU : R2 := fun x y H Q => match x, y with
  | .int i, .int j => CM i j ∧ Q (.int (i * j)) H
  | .ref a, .int k => match H a with
    | some (.lst xs) => -(2 ^ 63) ≤ k ∧ k < 2 ^ 63 ∧ xs.length * k.toNat ≤ sizeLine ∧ Nw H (.lst (List.replicate k.toNat xs).flatten) Q
    | _ => False
  | _, _ => False
theorem u_mul : OpR X (binaryOp .Mult) rMulU := opImp (u_mulI.or op_rep) fun x y H Q q => by
  unfold rMulU at q
  split at q
  · exact .inl q
  · split at q
    · exact .inr ⟨_, _, _, rfl, rfl, ‹_›, q⟩
    · exact q.elim
  · exact q.elim

/-! ### comparisons -/
def rLtU : R2 := fun x y H Q => match x, y with
  | .int i, .int j => Q (.bl (decide (i < j))) H
  | .str a, .str b => Q (.bl (decide (a.cps.toList < b.cps.toList))) H
  | _, _ => False
def rLeU : R2 := fun x y H Q => match x, y with
  | .int i, .int j => Q (.bl (decide (i ≤ j))) H
  | .str a, .str b => Q (.bl (!decide (b.cps.toList < a.cps.toList))) H
  | _, _ => False
def rGtU : R2 := fun x y H Q => match x, y with
  | .int i, .int j => Q (.bl (decide (j < i))) H
  | .str a, .str b => Q (.bl (decide (b.cps.toList < a.cps.toList))) H
  | _, _ => False
def rGeU : R2 := fun x y H Q => match x, y with
  | .int i, .int j => Q (.bl (decide (j ≤ i))) H
  | .str a, .str b => Q (.bl (!decide (a.cps.toList < b.cps.toList))) H
  | _, _ => False
theorem u_lt : OpR X (compareOp .Lt) rLtU := opImp (op_lt.or op_lt_str) fun x y H Q q => by
  cases x <;> cases y <;> first | exact q.elim | exact .inl ⟨_, _, rfl, rfl, q⟩ | exact .inr ⟨_, _, rfl, rfl, q⟩
theorem u_le : OpR X (compareOp .LtE) rLeU := opImp (op_le.or op_le_str) fun x y H Q q => by
  cases x <;> cases y <;> first | exact q.elim | exact .inl ⟨_, _, rfl, rfl, q⟩ | exact .inr ⟨_, _, rfl, rfl, q⟩
theorem u_gt : OpR X (compareOp .Gt) rGtU := opImp (op_gt.or op_gt_str) fun x y H Q q => by
  cases x <;> cases y <;> first | exact q.elim | exact .inl ⟨_, _, rfl, rfl, q⟩ | exact .inr ⟨_, _, rfl, rfl, q⟩
theorem u_ge : OpR X (compareOp .GtE) rGeU := opImp (op_ge.or op_ge_str) fun x y H Q q => by
  cases x <;> cases y <;> first | exact q.elim | exact .inl ⟨_, _, rfl, rfl, q⟩ | exact .inr ⟨_, _, rfl, rfl, q⟩
def isRef : V → Bool
  | .ref _ => true
  | _ => false
def rEqU (K : PySem.W.Frag) : R2 := fun x y H Q => if (isRef x || isRef y) = true then rEqD K x y H Q else scal x y = true ∧ Q (.bl (decide (x = y))) H
def rNeU (K : PySem.W.Frag) : R2 := fun x y H Q => if (isRef x || isRef y) = true then rNeD K x y H Q else scal x y = true ∧ Q (.bl (!decide (x = y))) H
theorem u_eq (hu : X.A.units + 64 < cLine) : OpR X (compareOp .Eq) (rEqU X.K) := opImp (op_eq.or (op_eqD hu)) fun x y H Q q => by
  unfold rEqU at q
  split at q
  · exact .inr q
  · exact .inl q
theorem u_ne (hu : X.A.units + 64 < cLine) : OpR X (compareOp .NotEq) (rNeU X.K) := opImp (op_ne.or (op_neD hu)) fun x y H Q q => by
  unfold rNeU at q
  split at q
  · exact .inr q
  · exact .inl q
theorem rEqU_int {K i j H Q} : rEqU K (.int i) (.int j) H Q = Q (.bl (decide (i = j))) H := by unfold rEqU; simp [isRef, scal]
theorem rNeU_int {K i j H Q} : rNeU K (.int i) (.int j) H Q = Q (.bl (!decide (i = j))) H := by unfold rNeU; simp [isRef, scal]
theorem rEqU_str {K i j H Q} : rEqU K (.str i) (.str j) H Q = Q (.bl (decide (i = j))) H := by unfold rEqU; simp [isRef, scal]
theorem rNeU_str {K i j H Q} : rNeU K (.str i) (.str j) H Q = Q (.bl (!decide (i = j))) H := by unfold rNeU; simp [isRef, scal]
theorem rEqU_bl {K i j H Q} : rEqU K (.bl i) (.bl j) H Q = Q (.bl (decide (i = j))) H := by unfold rEqU; simp [isRef, scal]
theorem rNeU_bl {K i j H Q} : rNeU K (.bl i) (.bl j) H Q = Q (.bl (!decide (i = j))) H := by unfold rNeU; simp [isRef, scal]
theorem rEqU_ref {K a y H Q} : rEqU K (.ref a) y H Q = rEqD K (.ref a) y H Q := rfl
theorem rNeU_ref {K a y H Q} : rNeU K (.ref a) y H Q = rNeD K (.ref a) y H Q := rfl
/-- is -/
def rIsU : R2 := fun x y H Q => match x, y with
  | x, .non => Q (.bl (decide (x = .non))) H
  | _, _ => False
def rIsNU : R2 := fun x y H Q => match x, y with
  | x, .non => Q (.bl (!decide (x = .non))) H
  | _, _ => False
theorem u_is : OpR X (compareOp .Is) rIsU := opImp op_isN fun x y H Q q => by
  cases y <;> first | exact q.elim | exact ⟨rfl, q⟩
theorem u_isN : OpR X (compareOp .IsNot) rIsNU := opImp op_notN fun x y H Q q => by
  cases y <;> first | exact q.elim | exact ⟨rfl, q⟩
/-- in -/
def inS (a b : Str) : Bool := !(Builtin.Str.occurrences b a 0 b.length 1).isEmpty
theorem inS_one (c : Nat) (z : Str) : inS ⟨#[c]⟩ z = decide (c ∈ z.cps.toList) := PySem.StrLaws.found_one z c
noncomputable def rInU (K : PySem.W.Frag) (neg : Bool) : R2 := fun x y H Q => match y with
  | .str b => (match x with
    | .str a => Q (.bl (if neg then !inS a b else inS a b)) H
    | _ => False)
  | .ref p => (match sqv K H p with
    | some xs => flatV x = true ∧ xs.all flatV = true ∧ Q (.bl (if neg then !inV x xs else inV x xs)) H
    | none => False)
  | _ => False
theorem u_in : OpR X (compareOp .In) (rInU X.K false) := opImp (op_in_str.or op_in_seq) fun x y H Q q => by
  unfold rInU at q
  split at q
  · split at q
    · exact .inl ⟨_, _, rfl, rfl, q⟩
    · exact q.elim
  · split at q
    · exact .inr ⟨_, _, rfl, sqv_sq ‹_›, q⟩
    · exact q.elim
  · exact q.elim
theorem u_nin : OpR X (compareOp .NotIn) (rInU X.K true) := opImp (op_notin_str.or op_notIn_seq) fun x y H Q q => by
  unfold rInU at q
  split at q
  · split at q
    · exact .inl ⟨_, _, rfl, rfl, q⟩
    · exact q.elim
  · split at q
    · exact .inr ⟨_, _, rfl, sqv_sq ‹_›, q⟩
    · exact q.elim
  · exact q.elim
theorem rInU_str {K neg a b H Q} : rInU K neg (.str a) (.str b) H Q = Q (.bl (if neg then !inS a b else inS a b)) H := rfl

/-! ### - and not -/
def mU (g : Int → V) : V → Hp → VK → Prop := fun x H Q => match x with
  | .int i => Q (g i) H
  | _ => False
theorem u_neg : UnR X (unaryOp .USub) (mU fun i => .int (-i)) := unImp un_neg fun x H Q q => by
  cases x <;> first | exact q.elim | exact ⟨_, rfl, q⟩

/-! ### items, slices -/
noncomputable def rIxU (K : PySem.W.Frag) : R2 := fun x y H Q => match x, y with
  | .str z, .int i => z.length ≤ sizeLine ∧ (match atI z.cps.toList i with
    | some c => Q (.str ⟨#[c]⟩) H
    | none => False)
  | .ref p, .int i => (match sqv K H p with
    | some xs => (match atI xs i with
      | some v => Q v H
      | none => False)
    | none => False)
  | _, _ => False
theorem u_ix : IxR X (rIxU X.K) := ixImp ix_seq fun x y H Q q => by
  unfold rIxU at q
  split at q
  · split at q
    · exact .inr (.inr ⟨_, _, _, rfl, rfl, q.1, ‹_›, q.2⟩)
    · exact q.2.elim
  · split at q
    · rename_i h
      split at q
      · rcases sqv_sq h with h | h
        · exact .inl ⟨_, _, _, _, rfl, rfl, h, ‹_›, q⟩
        · exact .inr (.inl ⟨_, _, _, _, rfl, rfl, h, ‹_›, q⟩)
      · exact q.elim
    · exact q.elim
  · exact q.elim
noncomputable def rSlU (K : PySem.W.Frag) : V → Option Int → Option Int → Hp → VK → Prop := fun x lo hi H Q => match x with
  | .str z => z.length ≤ sizeLine ∧ Q (.str (cutS z lo hi)) H
  | .ref p => (match lstv K H p with
    | some xs => Nw H (.lst (cutV xs lo hi)) Q
    | none => False)
  | _ => False
theorem slImp {r r' : V → Option Int → Option Int → Hp → VK → Prop} (h : SlR X r) (i : ∀ x lo hi H Q, r' x lo hi H Q → r x lo hi H Q) : SlR X r' := by
  intro pins s σ H x v lo hi
  intros
  apply h <;> first | assumption | (apply i; assumption)
theorem u_sl : SlR X (rSlU X.K) := slImp (sl_str.or sl_list) fun x lo hi H Q q => by
  unfold rSlU at q
  split at q
  · exact .inl ⟨_, rfl, q⟩
  · split at q
    · exact .inr ⟨_, _, rfl, lstv_sq ‹_›, q⟩
    · exact q.elim
  · exact q.elim
end

/-! ### built-in calls -/
section
variable {X : Cx}
noncomputable def rLenU (K : PySem.W.Frag) : List V → Hp → VK → Prop := fun xs H Q => match xs with
  | [.str z] => z.length ≤ sizeLine ∧ Q (.int z.length) H
  | [.byt z] => z.size ≤ sizeLine ∧ Q (.int z.size) H
  | [.ref p] => (match sqv K H p with
    | some xs => Q (.int xs.length) H
    | none => (match H p with
      | some (.dK kvs) => Q (.int kvs.length) H
      | _ => False))
  | _ => False
theorem c_len : CallR X (.builtin "len") (rLenU X.K) := callImp (call_len.or call_lenD) fun xs H Q q => by
  unfold rLenU at q
  split at q
  · exact .inl ⟨_, _, rfl, ⟨q.1, rfl⟩, q.2⟩
  · exact .inl ⟨_, _, rfl, ⟨q.1, rfl⟩, q.2⟩
  · split at q
    · rename_i h
      refine .inl ⟨_, _, rfl, ?_, q⟩
      rcases sqv_sq h with h | h
      · exact .inl ⟨_, h, rfl⟩
      · exact .inr ⟨_, h, rfl⟩
    · split at q
      · exact .inr ⟨_, _, rfl, ‹_›, q⟩
      · exact q.elim
  · exact q.elim
def rInt : List V → Hp → VK → Prop := fun xs H Q => match xs with
  | [.int i] => Q (.int i) H
  | [.bl k] => Q (.int (if k then 1 else 0)) H
  | [.str a] => (match PySem.intText? a with
    | some n => a.length ≤ 640 ∧ Q (.int n) H
    | none => False)
  | _ => False
theorem c_int : CallR X (.type "int") rInt := callImp (call_int1.or call_int_str) fun xs H Q q => by
  unfold rInt at q
  split at q
  · exact .inl (.inl ⟨_, rfl, q⟩)
  · exact .inl (.inr ⟨_, rfl, q⟩)
  · split at q
    · exact .inr ⟨_, _, rfl, ‹_›, q.1, q.2⟩
    · exact q.elim
  · exact q.elim
def rAbs : List V → Hp → VK → Prop := fun xs H Q => match xs with
  | [.int i] => Q (.int (if i < 0 then -i else i)) H
  | _ => False
theorem c_abs : CallR X (.builtin "abs") rAbs := callImp call_abs fun xs H Q q => by
  unfold rAbs at q
  split at q
  · exact ⟨_, rfl, q⟩
  · exact q.elim
def rMax2 : List V → Hp → VK → Prop := fun xs H Q => match xs with
  | [.int i, .int j] => Q (.int (if j > i then j else i)) H
  | _ => False
def rMin2 : List V → Hp → VK → Prop := fun xs H Q => match xs with
  | [.int i, .int j] => Q (.int (if j < i then j else i)) H
  | _ => False
theorem c_max2 (hc : X.calm = true) : CallR X (.builtin "max") rMax2 := callImp (call_max2 hc) fun xs H Q q => by
  unfold rMax2 at q
  split at q
  · exact ⟨_, _, rfl, q⟩
  · exact q.elim
theorem c_min2 (hc : X.calm = true) : CallR X (.builtin "min") rMin2 := callImp (call_min2 hc) fun xs H Q q => by
  unfold rMin2 at q
  split at q
  · exact ⟨_, _, rfl, q⟩
  · exact q.elim
noncomputable def rListOf (K : PySem.W.Frag) : List V → Hp → VK → Prop := fun xs H Q => match xs with
  | [.ref p] => (match sqv K H p with
    | some ys => Nw H (.lst ys) Q
    | none => (match H p with
      | some (.dK kvs) => Nw H (.lst (kvs.map fun kv => kV kv.1)) Q
      | _ => False))
  | _ => False
theorem c_list (hc : X.calm = true) : CallR X (.type "list") (rListOf X.K) := callImp (call_list_of.or (call_listD hc)) fun xs H Q q => by
  unfold rListOf at q
  split at q
  · split at q
    · exact .inl ⟨_, _, rfl, sqv_sq ‹_›, q⟩
    · split at q
      · exact .inr ⟨_, _, rfl, .inl ‹_›, q⟩
      · exact q.elim
  · exact q.elim
/-- a value's type by name -/
def tyN (H : Hp) : V → Option String
  | .non => some "NoneType"
  | .bl _ => some "bool"
  | .int _ => some "int"
  | .str _ => some "str"
  | .byt _ => some "bytes"
  | .ref p => (match H p with
    | some (.lst _) => some "list"
    | some (.frz _ (.lst _)) => some "list"
    | some (.tup _) => some "tuple"
    | some (.dK _) => some "dict"
    | some (.dT _) => some "dict"
    | _ => none)
  | _ => none
theorem tyN_x {K : PySem.W.Frag} {H : Hp} {x : V} {t : String} (h : tyN H x = some t) : TyX K H x (.type t) := by
  cases x with
  | non => cases h; exact .base .non
  | bl b => cases h; exact .base (.bl b)
  | int b => cases h; exact .base (.int b)
  | str b => cases h; exact .base (.str b)
  | byt b => cases h; exact .byt b
  | flt b => cases h
  | ty b => cases h
  | ref p =>
    unfold tyN at h
    simp only at h
    split at h
    · cases h; exact .base (.lst ‹_›)
    · cases h; exact .base (.frz ‹_›)
    · cases h; exact .base (.tup ‹_›)
    · cases h; exact .base (.dK ‹_›)
    · cases h; exact .base (.dT ‹_›)
    · cases h
def rIsiB : List V → Hp → VK → Prop := fun xs H Q => match xs with
  | [x, .ty T] => (match tyN H x with
    | some t => (match kitB t T with
      | some b => Q (.bl b) H
      | none => False)
    | none => False)
  | _ => False
theorem c_isi : CallR X (.builtin "isinstance") rIsiB := callImp call_isi fun xs H Q q => by
  unfold rIsiB at q
  split at q
  · split at q
    · split at q
      · exact ⟨_, _, _, _, _, rfl, .ty _, tyN_x ‹_›, kit_ty ‹_›, q⟩
      · exact q.elim
    · exact q.elim
  · exact q.elim
theorem kit_NoneType_bool : kitB "NoneType" "bool" = some false := by decide +kernel
theorem kit_NoneType_int : kitB "NoneType" "int" = some false := by decide +kernel
theorem kit_NoneType_str : kitB "NoneType" "str" = some false := by decide +kernel
theorem kit_NoneType_bytes : kitB "NoneType" "bytes" = some false := by decide +kernel
theorem kit_NoneType_list : kitB "NoneType" "list" = some false := by decide +kernel
theorem kit_NoneType_tuple : kitB "NoneType" "tuple" = some false := by decide +kernel
theorem kit_NoneType_dict : kitB "NoneType" "dict" = some false := by decide +kernel
theorem kit_bool_bool : kitB "bool" "bool" = some true := by decide +kernel
theorem kit_bool_int : kitB "bool" "int" = some true := by decide +kernel
theorem kit_bool_str : kitB "bool" "str" = some false := by decide +kernel
theorem kit_bool_bytes : kitB "bool" "bytes" = some false := by decide +kernel
theorem kit_bool_list : kitB "bool" "list" = some false := by decide +kernel
theorem kit_bool_tuple : kitB "bool" "tuple" = some false := by decide +kernel
theorem kit_bool_dict : kitB "bool" "dict" = some false := by decide +kernel
theorem kit_int_bool : kitB "int" "bool" = some false := by decide +kernel
theorem kit_int_int : kitB "int" "int" = some true := by decide +kernel
theorem kit_int_str : kitB "int" "str" = some false := by decide +kernel
theorem kit_int_bytes : kitB "int" "bytes" = some false := by decide +kernel
theorem kit_int_list : kitB "int" "list" = some false := by decide +kernel
theorem kit_int_tuple : kitB "int" "tuple" = some false := by decide +kernel
theorem kit_int_dict : kitB "int" "dict" = some false := by decide +kernel
theorem kit_str_bool : kitB "str" "bool" = some false := by decide +kernel
theorem kit_str_int : kitB "str" "int" = some false := by decide +kernel
theorem kit_str_str : kitB "str" "str" = some true := by decide +kernel
theorem kit_str_bytes : kitB "str" "bytes" = some false := by decide +kernel
theorem kit_str_list : kitB "str" "list" = some false := by decide +kernel
theorem kit_str_tuple : kitB "str" "tuple" = some false := by decide +kernel
theorem kit_str_dict : kitB "str" "dict" = some false := by decide +kernel
theorem kit_bytes_bool : kitB "bytes" "bool" = some false := by decide +kernel
theorem kit_bytes_int : kitB "bytes" "int" = some false := by decide +kernel
theorem kit_bytes_str : kitB "bytes" "str" = some false := by decide +kernel
theorem kit_bytes_bytes : kitB "bytes" "bytes" = some true := by decide +kernel
theorem kit_bytes_list : kitB "bytes" "list" = some false := by decide +kernel
theorem kit_bytes_tuple : kitB "bytes" "tuple" = some false := by decide +kernel
theorem kit_bytes_dict : kitB "bytes" "dict" = some false := by decide +kernel
theorem kit_list_bool : kitB "list" "bool" = some false := by decide +kernel
theorem kit_list_int : kitB "list" "int" = some false := by decide +kernel
theorem kit_list_str : kitB "list" "str" = some false := by decide +kernel
theorem kit_list_bytes : kitB "list" "bytes" = some false := by decide +kernel
theorem kit_list_list : kitB "list" "list" = some true := by decide +kernel
theorem kit_list_tuple : kitB "list" "tuple" = some false := by decide +kernel
theorem kit_list_dict : kitB "list" "dict" = some false := by decide +kernel
theorem kit_tuple_bool : kitB "tuple" "bool" = some false := by decide +kernel
theorem kit_tuple_int : kitB "tuple" "int" = some false := by decide +kernel
theorem kit_tuple_str : kitB "tuple" "str" = some false := by decide +kernel
theorem kit_tuple_bytes : kitB "tuple" "bytes" = some false := by decide +kernel
theorem kit_tuple_list : kitB "tuple" "list" = some false := by decide +kernel
theorem kit_tuple_tuple : kitB "tuple" "tuple" = some true := by decide +kernel
theorem kit_tuple_dict : kitB "tuple" "dict" = some false := by decide +kernel
theorem kit_dict_bool : kitB "dict" "bool" = some false := by decide +kernel
theorem kit_dict_int : kitB "dict" "int" = some false := by decide +kernel
theorem kit_dict_str : kitB "dict" "str" = some false := by decide +kernel
theorem kit_dict_bytes : kitB "dict" "bytes" = some false := by decide +kernel
theorem kit_dict_list : kitB "dict" "list" = some false := by decide +kernel
theorem kit_dict_tuple : kitB "dict" "tuple" = some false := by decide +kernel
theorem kit_dict_dict : kitB "dict" "dict" = some true := by decide +kernel
end

/-! ### tests -/
noncomputable def truV (K : PySem.W.Frag) (x : V) (H : Hp) (Q : Bool → Hp → Prop) : Prop := match x with
  | .non => Q false H
  | .bl b => Q b H
  | .int i => Q (i != 0) H
  | .str y => y.length ≤ sizeLine ∧ Q ((y.length : Int) != 0) H
  | .ref p => (match sqv K H p with
    | some xs => Q (!xs.isEmpty) H
    | none => (match H p with
      | some (.dK kvs) => Q (!kvs.isEmpty) H
      | _ => False))
  | _ => False
theorem truV_k {K : PySem.W.Frag} {x : V} {H : Hp} {Q : Bool → Hp → Prop} (q : truV K x H Q) : ∃ k, TruV K x H k ∧ Q k H := by
  unfold truV at q
  split at q
  · exact ⟨_, rfl, q⟩
  · exact ⟨_, rfl, q⟩
  · exact ⟨_, rfl, q⟩
  · exact ⟨_, ⟨q.1, rfl⟩, q.2⟩
  · split at q
    · rename_i h
      refine ⟨_, ?_, q⟩
      rcases sqv_sq h with h | h
      · exact .inl ⟨_, h, rfl⟩
      · exact .inr (.inl ⟨_, h, rfl⟩)
    · split at q
      · exact ⟨_, .inr (.inr ⟨_, ‹_›, rfl⟩), q⟩
      · exact q.elim
  · exact q.elim
def tTr (K : PySem.W.Frag) (ta : TE) : TT := fun σ H Q => ta σ H fun x H' => truV K x H' Q
section
variable {X : Cx} {a b : Expr} {ta tb : TE} {pos : Pos} {rest : List Expr}
theorem pt_tr (ha : PE X a ta) (he : ∀ whole, isTrue a X.env whole = (do let v ← whole; standAt a.pos; holding [v] (truthy v)) := by intro _; rfl) : PT X a (tTr X.K ta) := by
  refine ⟨fun pins s σ H Q I h => ?_⟩
  exact isTrue_plain (thn (ha.run pins s σ H _ I h) fun v s1 ⟨x, H1, I1, r1, q1⟩ => tru_ok pins s1 σ H1 x v Q I1 r1 (truV_k q1)) (he _)
/-- not, as a value -/
def tNotU (K : PySem.W.Frag) (ta : TE) : TE := fun σ H Q => ta σ H fun x H1 => truV K x H1 fun k H2 => Q (.bl (!k)) H2
/-- a comparison as a test -/
def tTe (t : TE) : TT := fun σ H Q => t σ H fun x H' => match x with
  | .bl k => Q k H'
  | _ => False
end

/-! ### readings closed upward -/
def clE (t : TE) : TE := fun σ H Q => ∃ Q0 : VK, t σ H Q0 ∧ ∀ v H', Q0 v H' → Q v H'
def clA (t : TA) : TA := fun σ H Q => ∃ Q0 : List V → Hp → Prop, t σ H Q0 ∧ ∀ v H', Q0 v H' → Q v H'
section
variable {X : Cx} {e : Expr} {es : List Expr} {t : TE} {ta : TA}
theorem peCl (h : PE X e t) : PE X e (clE t) := ⟨fun pins s σ H Q I ⟨Q0, q, m⟩ =>
  thn (h.run pins s σ H Q0 I q) fun _ _ ⟨v, H', I', r, q'⟩ => ⟨v, H', I', r, m _ _ q'⟩⟩
theorem paCl (h : PA X es ta) : PA X es (clA ta) := ⟨fun pos pins s σ H Q I ⟨Q0, q, m⟩ =>
  thn (h.run pos pins s σ H Q0 I q) fun _ _ ⟨v, H', I', r, q'⟩ => ⟨v, H', I', r, m _ _ q'⟩⟩
theorem peImp {t' : TE} (h : PE X e t) (i : ∀ σ H Q, t' σ H Q → t σ H Q) : PE X e t' := ⟨fun pins s σ H Q I q => h.run pins s σ H Q I (i _ _ _ q)⟩
end

/-! ### what is walked -/
noncomputable def iLst (K : PySem.W.Frag) (tl : TE) : TI := fun σ H R => tl σ H fun x H1 => match x with
  | .ref a => (match lstv K H1 a with
    | some _ => R (Itl K a) H1
    | none => False)
  | _ => False
noncomputable def iTp (K : PySem.W.Frag) (tl : TE) : TI := fun σ H R => tl σ H fun x H1 => match x with
  | .ref a => (match tupv K H1 a with
    | some _ => R (Itt K a) H1
    | none => False)
  | _ => False
def iSt (tl : TE) : TI := fun σ H R => tl σ H fun x H1 => match x with
  | .str z => R (Its z) H1
  | _ => False
section
variable {X : Cx} {tg l : Expr} {tl : TE}
theorem pi_lst (hl : PE X l tl) : PI X tg l (iLst X.K tl) := ⟨fun pins s σ H R I h => (pi_list (peCl hl)).run pins s σ H R I ⟨_, h, fun x H1 q => by
  cases x <;> first | exact q.elim | skip
  simp only at q
  split at q
  · exact ⟨_, rfl, ⟨_, lstv_sq ‹_›⟩, q⟩
  · exact q.elim⟩⟩
theorem pi_tp (hl : PE X l tl) : PI X tg l (iTp X.K tl) := ⟨fun pins s σ H R I h => (pi_tup (peCl hl)).run pins s σ H R I ⟨_, h, fun x H1 q => by
  cases x <;> first | exact q.elim | skip
  simp only at q
  split at q
  · exact ⟨_, rfl, ⟨_, tupv_sq ‹_›⟩, q⟩
  · exact q.elim⟩⟩
theorem pi_st (hl : PE X l tl) : PI X tg l (iSt tl) := ⟨fun pins s σ H R I h => (pi_str (peCl hl)).run pins s σ H R I ⟨_, h, fun x H1 q => by
  cases x <;> first | exact q.elim | skip
  exact ⟨_, rfl, q⟩⟩⟩
end

/-! ### methods of lists and texts -/
noncomputable def tML (K : PySem.W.Frag) (r : V → List V → Hp → VK → Prop) (to : TE) (t : TA) : TE := fun σ H Q => to σ H fun x H1 => match x with
  | .ref p => (match lstv K H1 p with
    | some _ => t σ H1 fun vs H2 => r (.ref p) vs H2 Q
    | none => False)
  | _ => False
def tMS (r : V → List V → Hp → VK → Prop) (to : TE) (t : TA) : TE := fun σ H Q => to σ H fun x H1 => match x with
  | .str z => t σ H1 fun vs H2 => r (.str z) vs H2 Q
  | _ => False
theorem tml_of {K : PySem.W.Frag} {r : V → List V → Hp → VK → Prop} {to : TE} {t : TA} (σ : L2.St) (H : Hp) (Q : VK) (h : tML K r to t σ H Q) : tBM K "list" r (clE to) (clA t) σ H Q := ⟨_, h, fun x H1 q => by
  cases x <;> first | exact q.elim | skip
  simp only at q
  split at q
  · exact ⟨.inl ⟨rfl, _, lstv_sq ‹_›⟩, _, q, fun _ _ z => z⟩
  · exact q.elim⟩
theorem tml0_of {K : PySem.W.Frag} {r : V → List V → Hp → VK → Prop} {to : TE} (σ : L2.St) (H : Hp) (Q : VK) (h : tML K r to tNil σ H Q) : tBM0 K "list" r (clE to) σ H Q := ⟨_, h, fun x H1 q => by
  cases x <;> first | exact q.elim | skip
  simp only at q
  split at q
  · exact ⟨.inl ⟨rfl, _, lstv_sq ‹_›⟩, q⟩
  · exact q.elim⟩
theorem tms_of {K : PySem.W.Frag} {r : V → List V → Hp → VK → Prop} {to : TE} {t : TA} (σ : L2.St) (H : Hp) (Q : VK) (h : tMS r to t σ H Q) : tBM K "str" r (clE to) (clA t) σ H Q := ⟨_, h, fun x H1 q => by
  cases x <;> first | exact q.elim | skip
  exact ⟨rfl, _, q, fun _ _ z => z⟩⟩
theorem tms0_of {K : PySem.W.Frag} {r : V → List V → Hp → VK → Prop} {to : TE} (σ : L2.St) (H : Hp) (Q : VK) (h : tMS r to tNil σ H Q) : tBM0 K "str" r (clE to) σ H Q := ⟨_, h, fun x H1 q => by
  cases x <;> first | exact q.elim | skip
  exact ⟨rfl, q⟩⟩
def rApp : V → List V → Hp → VK → Prop := fun x vs H Q => match x, vs with
  | .ref l, [y] => (match H l with
    | some (.lst xs) => xs.length < sizeLine ∧ Q .non (upd H l (.lst (xs ++ [y])))
    | _ => False)
  | _, _ => False
theorem m_append {X : Cx} : MtM X "list.append" rApp := fun pins s σ H x xs v us Q I rx rs h => mt_append pins s σ H x xs v us Q I rx rs (by
  unfold rApp at h
  split at h
  · split at h
    · exact ⟨_, _, _, rfl, rfl, ‹_›, h⟩
    · exact h.elim
  · exact h.elim)
section
variable {X : Cx} {o e : Expr} {es : List Expr} {to : TE} {t : TA} {apos pos : Pos}
theorem pe_bitlen (ho : PE X o to) (hbase : attributeBase o "bit_length" X.env (eval o X.env) = eval o X.env := by rfl) (hline : (apos.endLine == pos.line) = true := by rfl) :
    PE X (.Call (.Attribute o "bit_length" apos) [] [] pos) (tUn (mU fun i => .int (Builtin.Int.intBits i : Nat)) to) :=
  peImp (pe_bits (peCl ho) hbase hline) fun σ H Q q => ⟨_, q, fun x H1 q => by cases x <;> first | exact q.elim | exact ⟨_, rfl, q⟩⟩
variable {T id : String} {r : V → List V → Hp → VK → Prop} {name : Str}
theorem pe_ml (slot : Slot "list" name id) (hty : typeOf (.builtin id) = pure (.type "method_descriptor")) (hm : MtR X id r) (ho : PE X o to) (ha : PA X (e :: es) t)
    (hb : attributeBase o name X.env (eval o X.env) = eval o X.env := by rfl)
    (hf : ((backTo pos (starEach (e :: es) X.env)).all (fun x => !x.1) && (backToKw pos (keywordEach [] X.env)).all (fun x => x.1.isSome) && decide ((e :: es).length + ([] : List Keyword).length + (if ([] : List Keyword).isEmpty then 0 else 1) < 30)) = true := by rfl)
    (hl : (apos.endLine == pos.line) = true := by rfl) (hs : starEach (e :: es) X.env = (false, eval e X.env) :: starEach es X.env := by rfl) (hp : (backTo pos (starEach es X.env)).any (·.1) = false := by rfl) :
    PE X (.Call (.Attribute o name apos) (e :: es) [] pos) (tML X.K r to t) := peImp (pe_bm PySem.F.plainAttrs_list slot hty hm (peCl ho) (paCl ha) hb hf hl hs hp) tml_of
theorem pe_ml0 (slot : Slot "list" name id) (hty : typeOf (.builtin id) = pure (.type "method_descriptor")) (hm : MtR X id r) (ho : PE X o to)
    (hb : attributeBase o name X.env (eval o X.env) = eval o X.env := by rfl) (hl : (apos.endLine == pos.line) = true := by rfl) :
    PE X (.Call (.Attribute o name apos) [] [] pos) (tML X.K r to tNil) := peImp (pe_bm0 PySem.F.plainAttrs_list slot hty hm (peCl ho) hb hl) tml0_of
theorem pe_ms (pa : PlainAttrs "str") (slot : Slot "str" name id) (hty : typeOf (.builtin id) = pure (.type "method_descriptor")) (hm : MtR X id r) (ho : PE X o to) (ha : PA X (e :: es) t)
    (hb : attributeBase o name X.env (eval o X.env) = eval o X.env := by rfl)
    (hf : ((backTo pos (starEach (e :: es) X.env)).all (fun x => !x.1) && (backToKw pos (keywordEach [] X.env)).all (fun x => x.1.isSome) && decide ((e :: es).length + ([] : List Keyword).length + (if ([] : List Keyword).isEmpty then 0 else 1) < 30)) = true := by rfl)
    (hl : (apos.endLine == pos.line) = true := by rfl) (hs : starEach (e :: es) X.env = (false, eval e X.env) :: starEach es X.env := by rfl) (hp : (backTo pos (starEach es X.env)).any (·.1) = false := by rfl) :
    PE X (.Call (.Attribute o name apos) (e :: es) [] pos) (tMS r to t) := peImp (pe_bm pa slot hty hm (peCl ho) (paCl ha) hb hf hl hs hp) (tms_of (K := X.K))
theorem pe_ms0 (pa : PlainAttrs "str") (slot : Slot "str" name id) (hty : typeOf (.builtin id) = pure (.type "method_descriptor")) (hm : MtR X id r) (ho : PE X o to)
    (hb : attributeBase o name X.env (eval o X.env) = eval o X.env := by rfl) (hl : (apos.endLine == pos.line) = true := by rfl) :
    PE X (.Call (.Attribute o name apos) [] [] pos) (tMS r to tNil) := peImp (pe_bm0 pa slot hty hm (peCl ho) hb hl) (tms0_of (K := X.K))
theorem pe_append (ho : PE X o to) (ha : PA X (e :: es) t)
    (hb : attributeBase o "append" X.env (eval o X.env) = eval o X.env := by rfl)
    (hf : ((backTo pos (starEach (e :: es) X.env)).all (fun x => !x.1) && (backToKw pos (keywordEach [] X.env)).all (fun x => x.1.isSome) && decide ((e :: es).length + ([] : List Keyword).length + (if ([] : List Keyword).isEmpty then 0 else 1) < 30)) = true := by rfl)
    (hl : (apos.endLine == pos.line) = true := by rfl) (hs : starEach (e :: es) X.env = (false, eval e X.env) :: starEach es X.env := by rfl) (hp : (backTo pos (starEach es X.env)).any (·.1) = false := by rfl) :
    PE X (.Call (.Attribute o "append" apos) (e :: es) [] pos) (tML X.K rApp to t) := pe_ml PySem.F.slot_list_append PySem.F.type_list_append m_append ho ha hb hf hl hs hp
end

/-! ### defs of the text -/
/-- the def x keeps its promise -/
structure FnE (P : Program) (w : World) (K : PySem.W.Frag) (mg : Str → Option Value) (base : Heap) (CX : CXT) (x : Str) (k : Nat) (ps : List Str) (sp : Sp) : Prop where
  ex : ∃ f fd, mg x = some (.ref f) ∧ PySem.W.keepIn K (.ref f) = true ∧ Binds K fd ps [] ∧ FnOk P w K mg base CX k f fd ps sp
/-- a module's constant -/
def Cst (mg : Str → Option Value) (x : Str) (v : V) : Prop := ∃ u, mg x = some u ∧ RelV v u
section
variable {X : Cx} {CX : CXT} {k : Nat} {x : Str} {ps : List Str} {sp : Sp} {E : XK} {p pos : Pos} {e : Expr} {es : List Expr} {t : TA}
theorem pe_fn (F : FnE X.prog X.w X.K X.mg X.base CX x k ps sp) (hr : Room k X.A) (hg : Gl X x) (hx : Passes CX X E) (ha : PA X (e :: es) t)
    (hdb : (x == ("__debug__" : Str)) = false := by decide) (he : starEach (e :: es) X.env = (false, eval e X.env) :: starEach es X.env := by rfl) (hp : (backTo pos (starEach es X.env)).any (·.1) = false := by rfl) :
    PE X (.Call (.Name x p) (e :: es) [] pos) (tCall sp [] E t) := by
  obtain ⟨f, fd, h1, h2, h3, h4⟩ := F.ex
  exact pe_call h4 hr hg h1 h2 h3 .nil hx ha hdb he hp
theorem pe_fn0 (F : FnE X.prog X.w X.K X.mg X.base CX x k ps sp) (hr : Room k X.A) (hg : Gl X x) (hx : Passes CX X E) (hdb : (x == ("__debug__" : Str)) = false := by decide) :
    PE X (.Call (.Name x p) [] [] pos) (tCall sp [] E tNil) := by
  obtain ⟨f, fd, h1, h2, h3, h4⟩ := F.ex
  exact pe_call0 h4 hr hg h1 h2 h3 .nil hx hdb
theorem pe_cst {v : V} (h : Cst X.mg x v) (hg : Gl X x) (hd : (x == ("__debug__" : Str)) = false := by decide) : PE X (.Name x p) (tC v) := by
  obtain ⟨u, h1, h2⟩ := h
  exact pe_glob hg h1 h2 hd
end

/-! ### loops -/
section
variable {K : PySem.W.Frag} {a : Addr} {xs : List V} {g : TG} {tb : TS} {D : Ends} {σ : L2.St} {H : Hp}
/-- what a turn over a known row is to do -/
def Goes (J : It) (g : TG) (tb : TS) (D : Ends) (σ : L2.St) (H : Hp) : Prop := ∃ W : Nat → Nat → L2.St → Hp → Prop, (∃ m, W 0 m σ H) ∧ ∀ i m σ H, W i m σ H →
  (J.stop i H ∧ D.nx σ H) ∨ (J.go i H ∧ ∃ N : L2.St → Hp → Prop, (∀ σ' H', N σ' H' → ∃ m', m' < m ∧ W (i + 1) m' σ' H') ∧ ∀ x H', J.yld i H x H' → g x σ H' fun σ2 H2 => tb { D with nx := N, ct := N, bk := D.nx } σ2 H2)
def tForU (wi : TI) (g : TG) (tb : TS) : TS := fun D σ H => wi σ H fun J H1 => Goes J g tb D σ H1
theorem goesL (Pv : Nat → L2.St → Hp → Prop) (h0 : Pv 0 σ H) (hl : ∀ i σ H, i ≤ xs.length → Pv i σ H → lstv K H a = some xs)
    (hs : ∀ i x σ H, xs[i]? = some x → Pv i σ H → g x σ H fun σ2 H2 => tb { D with nx := Pv (i + 1), ct := Pv (i + 1), bk := D.nx } σ2 H2) (hd : ∀ σ H, Pv xs.length σ H → D.nx σ H) : Goes (Itl K a) g tb D σ H :=
  for_list (K := K) (a := a) (xs := xs) Pv h0 (fun i σ H hi p => lstv_sq (hl i σ H hi p)) hs hd
theorem goesT (Pv : Nat → L2.St → Hp → Prop) (h0 : Pv 0 σ H) (hl : ∀ i σ H, i ≤ xs.length → Pv i σ H → tupv K H a = some xs)
    (hs : ∀ i x σ H, xs[i]? = some x → Pv i σ H → g x σ H fun σ2 H2 => tb { D with nx := Pv (i + 1), ct := Pv (i + 1), bk := D.nx } σ2 H2) (hd : ∀ σ H, Pv xs.length σ H → D.nx σ H) : Goes (Itt K a) g tb D σ H :=
  for_tup (K := K) (a := a) (xs := xs) Pv h0 (fun i σ H hi p => tupv_sq (hl i σ H hi p)) hs hd
theorem goesR {lo : Int} {n : Nat} (Pv : Nat → L2.St → Hp → Prop) (h0 : Pv 0 σ H)
    (hs : ∀ i σ H, i < n → Pv i σ H → g (.int (lo + i)) σ H fun σ2 H2 => tb { D with nx := Pv (i + 1), ct := Pv (i + 1), bk := D.nx } σ2 H2) (hd : ∀ σ H, Pv n σ H → D.nx σ H) : Goes (Itr lo n) g tb D σ H :=
  for_range (lo := lo) (n := n) Pv h0 hs hd
end

/-! ### built-in names -/
theorem bt_len : bootBuiltins "len" = some (.builtin "len") := by decide +kernel
theorem bt_abs : bootBuiltins "abs" = some (.builtin "abs") := by decide +kernel
theorem bt_max : bootBuiltins "max" = some (.builtin "max") := by decide +kernel
theorem bt_min : bootBuiltins "min" = some (.builtin "min") := by decide +kernel
theorem bt_isinstance : bootBuiltins "isinstance" = some (.builtin "isinstance") := by decide +kernel
theorem bt_all : bootBuiltins "all" = some (.builtin "all") := by decide +kernel
theorem bt_any : bootBuiltins "any" = some (.builtin "any") := by decide +kernel
theorem bt_sorted : bootBuiltins "sorted" = some (.builtin "sorted") := by decide +kernel
theorem bt_sum : bootBuiltins "sum" = some (.builtin "sum") := by decide +kernel
theorem bt_ord : bootBuiltins "ord" = some (.builtin "ord") := by decide +kernel
theorem bt_chr : bootBuiltins "chr" = some (.builtin "chr") := by decide +kernel
theorem bt_repr : bootBuiltins "repr" = some (.builtin "repr") := by decide +kernel
theorem bt_divmod : bootBuiltins "divmod" = some (.builtin "divmod") := by decide +kernel
theorem bt_int : bootBuiltins "int" = some (.type "int") := by decide +kernel
theorem bt_bool : bootBuiltins "bool" = some (.type "bool") := by decide +kernel
theorem bt_str : bootBuiltins "str" = some (.type "str") := by decide +kernel
theorem bt_list : bootBuiltins "list" = some (.type "list") := by decide +kernel
theorem bt_tuple : bootBuiltins "tuple" = some (.type "tuple") := by decide +kernel
theorem bt_dict : bootBuiltins "dict" = some (.type "dict") := by decide +kernel
theorem bt_bytes : bootBuiltins "bytes" = some (.type "bytes") := by decide +kernel
theorem bt_set : bootBuiltins "set" = some (.type "set") := by decide +kernel
theorem bt_range : bootBuiltins "range" = some (.type "range") := by decide +kernel
theorem bt_enumerate : bootBuiltins "enumerate" = some (.type "enumerate") := by decide +kernel
theorem bt_zip : bootBuiltins "zip" = some (.type "zip") := by decide +kernel
theorem bt_reversed : bootBuiltins "reversed" = some (.type "reversed") := by decide +kernel
theorem bt_type : bootBuiltins "type" = some (.type "type") := by decide +kernel

/-! ### list comprehensions -/
section
/-- the block over a known row -/
def LcGo (J : It) (g : TG) (tt : TT) (te : TE) (vs : List Nat) (σ : L2.St) (H1 : Hp) (Q : VK) : Prop := ∀ D, H1 D = none → ∃ W : Nat → Nat → Hp → Prop, (∃ m, W 0 m (upd H1 D (.lst []))) ∧ ∀ i m H, W i m H →
  (J.stop i H ∧ Q (.ref D) H) ∨ (J.go i H ∧ ∃ Nx : Hp → Prop, (∀ H', Nx H' → ∃ m', m' < m ∧ W (i + 1) m' H') ∧ ∀ x H', J.yld i H x H' → g x (wipe σ vs) H' fun σ2 H2 => wipe σ2 vs = wipe σ vs ∧ tt σ2 H2 fun b H3 =>
    if b = true then te σ2 H3 fun y H4 => ∃ acc, H4 D = some (.lst acc) ∧ acc.length < sizeLine ∧ Nx (upd H4 D (.lst (acc ++ [y]))) else Nx H3)
def tLcU (wi : TI) (g : TG) (tt : TT) (te : TE) (vs : List Nat) : TE := fun σ H Q => wi σ H fun J H1 => LcGo J g tt te vs σ H1 Q
/-- a turn's shape -/
abbrev LTurn (g : TG) (tt : TT) (te : TE) (vs : List Nat) (σ : L2.St) (x : V) (H : Hp) (Qy : VK) (Qn : Hp → Prop) : Prop :=
  g x (wipe σ vs) H fun σ2 H2 => wipe σ2 vs = wipe σ vs ∧ tt σ2 H2 fun b H3 => if b = true then te σ2 H3 Qy else Qn H3
theorem filterMap_snoc {α β : Type} (f : α → Option β) (l : List α) (x : α) : (l ++ [x]).filterMap f = l.filterMap f ++ (match f x with | some y => [y] | none => []) := by
  rw [List.filterMap_append]
  cases h : f x <;> simp [h]
theorem take_snoc {α : Type} {l : List α} {i : Nat} {x : α} (h : l[i]? = some x) : l.take (i + 1) = l.take i ++ [x] := by
  rw [List.take_add_one, h]; rfl
theorem filterMap_len {α β : Type} (f : α → Option β) (l : List α) (i : Nat) (h : i < l.length) : ((l.take i).filterMap f).length < l.length := by
  refine Nat.lt_of_le_of_lt (List.length_filterMap_le _ _) ?_
  rw [List.length_take]; omega
variable {K : PySem.W.Frag} {a : Addr} {xs : List V} {g : TG} {tt : TT} {te : TE} {vs : List Nat} {σ : L2.St} {H1 : Hp} {Q : VK}
/-- each item gives a value of its own, or is passed over -/
theorem lcL (F : V → Option V) (hx : ∀ H', Same H1 H' → lstv K H' a = some xs) (hz : xs.length ≤ sizeLine)
    (step : ∀ x ∈ xs, ∀ H', Same H1 H' → ∀ (Qy : VK) (Qn : Hp → Prop), (∀ y, F x = some y → ∀ H'', Same H' H'' → Qy y H'') → (F x = none → ∀ H'', Same H' H'' → Qn H'') → LTurn g tt te vs σ x H' Qy Qn)
    (hq : ∀ p H', H1 p = none → Same H1 H' → H' p = some (.lst (xs.filterMap F)) → Q (.ref p) H') : LcGo (Itl K a) g tt te vs σ H1 Q := by
  intro D hD
  refine lc_list (K := K) (a := a) (xs := xs) (fun i H => Same H1 H ∧ H D = some (.lst ((xs.take i).filterMap F))) ⟨Same.new hD, by rw [upd_same]; rfl⟩ (fun i H _ h => lstv_sq (hx H h.1)) ?_ (fun H h => ?_)
  · rintro i x H hi ⟨h1, h2⟩
    have hlt : i < xs.length := (List.getElem?_eq_some_iff.mp hi).1
    refine step x (List.mem_of_getElem? hi) H h1 _ _ (fun y hy H2 s2 => ?_) (fun hy H2 s2 => ?_)
    · refine ⟨_, s2 _ _ h2, Nat.lt_of_lt_of_le (filterMap_len F xs i hlt) hz, fun b o hb => ?_, ?_⟩
      · rw [upd_ne (ne_of_none hb hD)]
        exact s2 _ _ (h1 _ _ hb)
      · rw [upd_same, take_snoc hi, filterMap_snoc, hy]
    · refine ⟨h1.trans s2, ?_⟩
      rw [take_snoc hi, filterMap_snoc, hy, s2 _ _ h2]
      simp
  · rw [List.take_length] at h
    exact hq D H hD h.1 h.2
/-- over a range -/
theorem lcR {lo : Int} {n : Nat} (F : Int → Option V) (hz : n ≤ sizeLine)
    (step : ∀ j : Nat, j < n → ∀ H', Same H1 H' → ∀ (Qy : VK) (Qn : Hp → Prop), (∀ y, F (lo + j) = some y → ∀ H'', Same H' H'' → Qy y H'') → (F (lo + j) = none → ∀ H'', Same H' H'' → Qn H'') → LTurn g tt te vs σ (.int (lo + j)) H' Qy Qn)
    (hq : ∀ p H', H1 p = none → Same H1 H' → H' p = some (.lst ((List.range n).filterMap fun j => F (lo + (j : Nat)))) → Q (.ref p) H') : LcGo (Itr lo n) g tt te vs σ H1 Q := by
  intro D hD
  refine lc_range (lo := lo) (n := n) (fun i H => Same H1 H ∧ H D = some (.lst ((List.range i).filterMap fun j => F (lo + (j : Nat))))) ⟨Same.new hD, by rw [upd_same]; rfl⟩ ?_ (fun H h => hq D H hD h.1 h.2)
  rintro i H hi ⟨h1, h2⟩
  have hl : ((List.range i).filterMap fun j => F (lo + (j : Nat))).length < sizeLine := by
    refine Nat.lt_of_le_of_lt (List.length_filterMap_le _ _) ?_
    rw [List.length_range]; omega
  refine step i hi H h1 _ _ (fun y hy H2 s2 => ?_) (fun hy H2 s2 => ?_)
  · refine ⟨_, s2 _ _ h2, hl, fun b o hb => ?_, ?_⟩
    · rw [upd_ne (ne_of_none hb hD)]
      exact s2 _ _ (h1 _ _ hb)
    · rw [upd_same, List.range_succ, filterMap_snoc, hy]
  · refine ⟨h1.trans s2, ?_⟩
    rw [List.range_succ, filterMap_snoc, hy, s2 _ _ h2]
    simp
end
section
variable {X : Cx} {a : Expr} {ta : TE} {pos : Pos}
theorem pe_notU (ha : PE X a ta) : PE X (.UnaryOp .Not a pos) (tNotU X.K ta) := peImp (pe_notT (peCl ha)) fun σ H Q q => by
  exact ⟨_, q, fun v H' q => truV_k q⟩
end

/-! ### equations -/
section
variable {i : Nat} {v : V} {o : Option V} {l : List (Option V)} {H : Hp} {Q : VK} {K : PySem.W.Frag}
theorem tv0 : tVar 0 (some v :: l) H Q = Q v H := by simp [tVar]
theorem tvs : tVar (i + 1) (o :: l) H Q = tVar i l H Q := by simp [tVar]
theorem tAug_e {te : TE} {ti : TIp} {D : Ends} {σ : L2.St} : tAug i te ti D σ H = tVar i σ H (fun x H1 => te σ H1 fun y H2 => ti x y H2 fun z H3 => D.nx (σ.set i (some z)) H3) := rfl
theorem tBool {b : Bool} {Q : Bool → Hp → Prop} : (∃ k, V.bl b = V.bl k ∧ Q k H) = Q b H := by simp
theorem exBl {b : Bool} {P : Bool → Prop} : (∃ k, V.bl b = V.bl k ∧ P k) = P b := by simp
theorem truV_bl {b : Bool} {Q : Bool → Hp → Prop} : truV K (.bl b) H Q = Q b H := rfl
theorem truV_int {b : Int} {Q : Bool → Hp → Prop} : truV K (.int b) H Q = Q (b != 0) H := rfl
theorem truV_non {Q : Bool → Hp → Prop} : truV K .non H Q = Q false H := rfl
theorem truV_lst {p : Addr} {xs : List V} {Q : Bool → Hp → Prop} (h : lstv K H p = some xs) : truV K (.ref p) H Q = Q (!xs.isEmpty) H := by
  unfold truV; simp only [sqv_l h]
theorem rInt_int {j : Int} : rInt [.int j] H Q = Q (.int j) H := rfl
theorem rAbs_int {j : Int} : rAbs [.int j] H Q = Q (.int (if j < 0 then -j else j)) H := rfl
theorem rLt_int {i j : Int} : rLtU (.int i) (.int j) H Q = Q (.bl (decide (i < j))) H := rfl
theorem rLe_int {i j : Int} : rLeU (.int i) (.int j) H Q = Q (.bl (decide (i ≤ j))) H := rfl
theorem rGt_int {i j : Int} : rGtU (.int i) (.int j) H Q = Q (.bl (decide (j < i))) H := rfl
theorem rGe_int {i j : Int} : rGeU (.int i) (.int j) H Q = Q (.bl (decide (j ≤ i))) H := rfl
theorem rMul_int {i j : Int} : rMulU (.int i) (.int j) H Q = (CM i j ∧ Q (.int (i * j)) H) := rfl
theorem rIadd_int {i j : Int} : rIaddU (.int i) (.int j) H Q = Q (.int (i + j)) H := rfl
theorem rIadd_str {i j : Str} : rIaddU (.str i) (.str j) H Q = (i.length + j.length ≤ sizeLine ∧ Q (.str (i ++ j)) H) := rfl
theorem mU_int {g : Int → V} {j : Int} : mU g (.int j) H Q = Q (g j) H := rfl
theorem rMax2_int {i j : Int} : rMax2 [.int i, .int j] H Q = Q (.int (if j > i then j else i)) H := rfl
theorem rMin2_int {i j : Int} : rMin2 [.int i, .int j] H Q = Q (.int (if j < i then j else i)) H := rfl
theorem rIsi_int {T : String} {b : Bool} {j : Int} (h : kitB "int" T = some b) : rIsiB [.int j, .ty T] H Q = Q (.bl b) H := by unfold rIsiB; simp only [tyN, h]
theorem rIsi_bl {T : String} {b : Bool} {j : Bool} (h : kitB "bool" T = some b) : rIsiB [.bl j, .ty T] H Q = Q (.bl b) H := by unfold rIsiB; simp only [tyN, h]
theorem rIsi_str {T : String} {b : Bool} {j : Str} (h : kitB "str" T = some b) : rIsiB [.str j, .ty T] H Q = Q (.bl b) H := by unfold rIsiB; simp only [tyN, h]
theorem rIsi_non {T : String} {b : Bool} (h : kitB "NoneType" T = some b) : rIsiB [.non, .ty T] H Q = Q (.bl b) H := by unfold rIsiB; simp only [tyN, h]
theorem rIsi_lst {T : String} {b : Bool} {p : Addr} {xs : List V} (hp : H p = some (.lst xs)) (h : kitB "list" T = some b) : rIsiB [.ref p, .ty T] H Q = Q (.bl b) H := by unfold rIsiB; simp only [tyN, hp, h]
theorem rIsi_tup {T : String} {b : Bool} {p : Addr} {xs : List V} (hp : H p = some (.tup xs)) (h : kitB "tuple" T = some b) : rIsiB [.ref p, .ty T] H Q = Q (.bl b) H := by unfold rIsiB; simp only [tyN, hp, h]
theorem rLen_lst {p : Addr} {xs : List V} (h : lstv K H p = some xs) : rLenU K [.ref p] H Q = Q (.int xs.length) H := by unfold rLenU; simp only [sqv_l h]
theorem rLen_tup {p : Addr} {xs : List V} (h : H p = some (.tup xs)) : rLenU K [.ref p] H Q = Q (.int xs.length) H := by unfold rLenU; simp only [sqv_t h]
theorem rLen_str {z : Str} : rLenU K [.str z] H Q = (z.length ≤ sizeLine ∧ Q (.int z.length) H) := rfl
theorem rListOf_lst {p : Addr} {xs : List V} (h : lstv K H p = some xs) : rListOf K [.ref p] H Q = Nw H (.lst xs) Q := by unfold rListOf; simp only [sqv_l h]
theorem rIx_lst {p : Addr} {xs : List V} {j : Int} (h : lstv K H p = some xs) : rIxU K (.ref p) (.int j) H Q = (match atI xs j with | some v => Q v H | none => False) := by unfold rIxU; simp only [sqv_l h]
theorem rIx_tup {p : Addr} {xs : List V} {j : Int} (h : H p = some (.tup xs)) : rIxU K (.ref p) (.int j) H Q = (match atI xs j with | some v => Q v H | none => False) := by unfold rIxU; simp only [sqv_t h]
theorem rIx_str {z : Str} {j : Int} : rIxU K (.str z) (.int j) H Q = (z.length ≤ sizeLine ∧ (match atI z.cps.toList j with | some c => Q (.str ⟨#[c]⟩) H | none => False)) := rfl
theorem rSl_lst {p : Addr} {xs : List V} {lo hi : Option Int} (h : lstv K H p = some xs) : rSlU K (.ref p) lo hi H Q = Nw H (.lst (cutV xs lo hi)) Q := by unfold rSlU; simp only [h]
theorem rSl_str {z : Str} {lo hi : Option Int} : rSlU K (.str z) lo hi H Q = (z.length ≤ sizeLine ∧ Q (.str (cutS z lo hi)) H) := rfl
theorem rApp_lst {p : Addr} {xs : List V} {y : V} (h : H p = some (.lst xs)) : rApp (.ref p) [y] H Q = (xs.length < sizeLine ∧ Q .non (upd H p (.lst (xs ++ [y])))) := by unfold rApp; simp only [h]
theorem exInt {n : Int} {P : Int → Prop} : (∃ j, [V.int n] = [V.int j] ∧ P j) = P n := by simp
theorem exInt2 {m n : Int} {P : Int → Int → Prop} : (∃ i j, [V.int m, V.int n] = [V.int i, V.int j] ∧ P i j) = P m n := propext ⟨fun ⟨_, _, h, p⟩ => by cases h; exact p, fun p => ⟨_, _, rfl, p⟩⟩
theorem tPart_e {t : TE} {σ : L2.St} {Q : Option Int → Hp → Prop} : tPart t σ H Q = t σ H fun x H1 => ∃ i, x = .int i ∧ Q (some i) H1 := rfl
theorem exIntV {n : Int} {P : Int → Prop} : (∃ j, V.int n = V.int j ∧ P j) = P n := by simp
theorem lst_nil {H : Hp} {Q : VK} : tLst tNil ([] : L2.St) H Q = (0 ≤ sizeLine ∧ Nw H (.lst []) Q) := rfl
theorem tLst_e {t : TA} {σ : L2.St} : tLst t σ H Q = t σ H fun xs H1 => xs.length ≤ sizeLine ∧ Nw H1 (.lst xs) Q := rfl
theorem tTup_e {t : TA} {σ : L2.St} : tTup t σ H Q = t σ H fun xs H1 => xs.length ≤ sizeLine ∧ Nw H1 (.tup xs) Q := rfl
end
section
variable {K : PySem.W.Frag} {H : Hp} {Q : VK} {p : Addr}
theorem rSub_int {i j : Int} : rSubI (.int i) (.int j) H Q = Q (.int (i - j)) H := rfl
theorem rFdiv_int {i j : Int} : rFdiv (.int i) (.int j) H Q = (CD i j ∧ Q (.int (i / j)) H) := rfl
theorem rMod_int {i j : Int} : rMod (.int i) (.int j) H Q = (0 < j ∧ Q (.int (i % j)) H) := rfl
theorem rShl_int {i j : Int} : rShl (.int i) (.int j) H Q = (CS i j ∧ Q (.int (i * 2 ^ j.toNat)) H) := rfl
theorem rShr_int {i j : Int} : rShr (.int i) (.int j) H Q = (0 ≤ j ∧ Q (.int (i / 2 ^ j.toNat)) H) := rfl
theorem rXor_int {i j : Int} : rXor (.int i) (.int j) H Q = Q (.int (Builtin.bitXor i j)) H := rfl
theorem rAndB_int {i j : Int} : rAndB (.int i) (.int j) H Q = Q (.int (Builtin.bitAnd i j)) H := rfl
theorem rOrB_int {i j : Int} : rOrB (.int i) (.int j) H Q = Q (.int (Builtin.bitOr i j)) H := rfl
theorem rPow_int {i j : Int} : rPow (.int i) (.int j) H Q = (CPow i j ∧ Q (.int (i ^ j.toNat)) H) := rfl
theorem sqv_e : sqv K H p = (match lstv K H p with | some xs => some xs | none => tupv K H p) := rfl
theorem rLenU_ref : rLenU K [.ref p] H Q = (match sqv K H p with | some xs => Q (.int xs.length) H | none => (match H p with | some (.dK kvs) => Q (.int kvs.length) H | _ => False)) := rfl
theorem rListOf_ref : rListOf K [.ref p] H Q = (match sqv K H p with | some ys => Nw H (.lst ys) Q | none => (match H p with | some (.dK kvs) => Nw H (.lst (kvs.map fun kv => kV kv.1)) Q | _ => False)) := rfl
theorem rIxU_ref {j : Int} : rIxU K (.ref p) (.int j) H Q = (match sqv K H p with | some xs => (match atI xs j with | some v => Q v H | none => False) | none => False) := rfl
theorem rSlU_ref {lo hi : Option Int} : rSlU K (.ref p) lo hi H Q = (match lstv K H p with | some xs => Nw H (.lst (cutV xs lo hi)) Q | none => False) := rfl
theorem rApp_ref {y : V} : rApp (.ref p) [y] H Q = (match H p with | some (.lst xs) => xs.length < sizeLine ∧ Q .non (upd H p (.lst (xs ++ [y]))) | _ => False) := rfl
theorem rAddU_ref {b : Addr} : rAddU (.ref p) (.ref b) H Q = (match H p, H b with
    | some (.lst xs), some (.lst ys) => xs.length + ys.length ≤ sizeLine ∧ Nw H (.lst (xs ++ ys)) Q
    | some (.tup xs), some (.tup ys) => xs ≠ [] ∧ xs.length + ys.length ≤ sizeLine ∧ (ys = [] → Q (.ref p) H) ∧ (ys ≠ [] → Nw H (.tup (xs ++ ys)) Q)
    | _, _ => False) := rfl
theorem truV_ref {Q : Bool → Hp → Prop} : truV K (.ref p) H Q = (match sqv K H p with | some xs => Q (!xs.isEmpty) H | none => (match H p with | some (.dK kvs) => Q (!kvs.isEmpty) H | _ => False)) := rfl
theorem rInU_ref {neg : Bool} {x : V} : rInU K neg x (.ref p) H Q = (match sqv K H p with | some xs => flatV x = true ∧ xs.all flatV = true ∧ Q (.bl (if neg then !inV x xs else inV x xs)) H | none => False) := by cases x <;> rfl
theorem rMulU_ref {k : Int} : rMulU (.ref p) (.int k) H Q = (match H p with
    | some (.lst xs) => -(2 ^ 63) ≤ k ∧ k < 2 ^ 63 ∧ xs.length * k.toNat ≤ sizeLine ∧ Nw H (.lst (List.replicate k.toNat xs).flatten) Q
    | _ => False) := rfl
theorem rIsi_ref {T : String} : rIsiB [.ref p, .ty T] H Q = (match tyN H (.ref p) with | some t => (match kitB t T with | some b => Q (.bl b) H | none => False) | none => False) := rfl
end
theorem lstv_same {K : PySem.W.Frag} {H H' : Hp} {p : Addr} {xs : List V} (s : Same H H') (h : H p = some (.lst xs)) : lstv K H' p = some xs := lstv_of (s _ _ h)
theorem sz (n : Nat) (h : n ≤ 10000000) : n ≤ sizeLine := by rw [sizeLine_eq]; omega
theorem szl (n : Nat) (h : n ≤ 10000000) : n < sizeLine := by rw [sizeLine_eq]; omega
/-- lists to be read stay where H' grows; K's own are apart from what is tracked -/
def Apart (K : PySem.W.Frag) (H : Hp) : Prop := ∀ b o, K.lookup b = some o → H b = none
theorem klst_uniq {K : PySem.W.Frag} {p : Addr} {xs : List V} (h : SqL K (fun _ => none) p xs) : klst K p = some xs := by
  unfold klst
  have he : ∃ ys, SqL K (fun _ => none) p ys := ⟨xs, h⟩
  rw [dif_pos he]
  have q := Classical.choose_spec he
  generalize Classical.choose he = ys at q
  rcases h with (h | ⟨_, h⟩) | ⟨o, its, n, h1, _, _, h4, _, h6⟩
  · cases h
  · cases h
  · rcases q with (q | ⟨_, q⟩) | ⟨o', its', n', q1, _, _, q4, _, q6⟩
    · cases q
    · cases q
    · rw [h1] at q1; cases q1
      rw [h4] at q4; cases q4
      rw [Vals.inj q6 h6]
theorem lstv_of_sq {K : PySem.W.Frag} {H : Hp} {p : Addr} {xs : List V} (ap : Apart K H) (h : SqL K H p xs) : lstv K H p = some xs := by
  rcases h with (h | ⟨_, h⟩) | ⟨o, its, n, h1, h2⟩
  · exact lstv_of h
  · exact lstv_frz h
  · unfold lstv
    rw [ap _ _ h1]
    exact klst_uniq (.inr ⟨o, its, n, h1, h2⟩)
theorem fnApart {P : Program} {w : World} {K : PySem.W.Frag} {mg : Str → Option Value} {base : Heap} {CX : CXT} {k : Nat} {f : Addr} {fd : FuncData} {ps : List Str} {sp sp' : Sp} (F : FnOk P w K mg base CX k f fd ps sp)
    (hl : ∀ vs H Q E, sp' vs H Q E → vs.length = ps.length) (h : ∀ vs H Q E, Apart K H → sp' vs H Q E → sp vs H Q E) : FnOk P w K mg base CX k f fd ps sp' :=
  ⟨hl, fun A outer s H args us vs Q E hr he hb hv hs => F.run A outer s H args us vs Q E hr he hb hv (h _ _ _ _ (fun b o e => (he.bs b o (he.mod.kin b o e)).2) hs)⟩

/-! ### lists of ints compared -/
theorem dp_ints {K : PySem.W.Frag} {H : Hp} : ∀ ns : List Int, DpAll K H (ns.map V.int) (ns.map PyData.int)
  | [] => .nil
  | n :: ns => .cons (.int n) (dp_ints ns)
theorem eqv_ints : ∀ ns ms : List Int, PyData.eqvAll (ns.map PyData.int) (ms.map PyData.int) = decide (ns = ms)
  | [], [] => rfl
  | [], _ :: _ => rfl
  | _ :: _, [] => rfl
  | n :: ns, m :: ms => by
    show ((n == m) && PyData.eqvAll (ns.map PyData.int) (ms.map PyData.int)) = _
    rw [eqv_ints ns ms]
    by_cases h : n = m <;> by_cases h2 : ns = ms <;> simp [h, h2]
theorem rEq_ints {K : PySem.W.Frag} {a b : Addr} {H : Hp} {Q : VK} {ns ms : List Int} (ha : lstv K H a = some (ns.map V.int)) (hb : lstv K H b = some (ms.map V.int)) (q : Q (.bl (decide (ns = ms))) H) : rEqU K (.ref a) (.ref b) H Q := by
  rw [rEqU_ref]
  refine ⟨.list (ns.map PyData.int), .list (ms.map PyData.int), .lst (lstv_sq ha) (dp_ints ns), .lst (lstv_sq hb) (dp_ints ms), PySem.W.ke_shaped_ints _, PySem.W.ke_shaped_ints _, ?_⟩
  show Q (.bl (PyData.eqvAll (ns.map PyData.int) (ms.map PyData.int))) H
  rw [eqv_ints]
  exact q
theorem rNe_ints {K : PySem.W.Frag} {a b : Addr} {H : Hp} {Q : VK} {ns ms : List Int} (ha : lstv K H a = some (ns.map V.int)) (hb : lstv K H b = some (ms.map V.int)) (q : Q (.bl (!decide (ns = ms))) H) : rNeU K (.ref a) (.ref b) H Q := by
  rw [rNeU_ref]
  refine ⟨.list (ns.map PyData.int), .list (ms.map PyData.int), .lst (lstv_sq ha) (dp_ints ns), .lst (lstv_sq hb) (dp_ints ms), PySem.W.ke_shaped_ints _, PySem.W.ke_shaped_ints _, ?_⟩
  show Q (.bl (!PyData.eqvAll (ns.map PyData.int) (ms.map PyData.int))) H
  rw [eqv_ints]
  exact q
/-! ### octets -/
def octs (ns : List Nat) : List V := ns.map fun (n : Nat) => V.int n
theorem octs_int (ns : List Nat) : octs ns = (ns.map fun (n : Nat) => (n : Int)).map V.int := by unfold octs; rw [List.map_map]; rfl
theorem octs_inj {ns ms : List Nat} : (ns.map fun (n : Nat) => (n : Int)) = (ms.map fun (n : Nat) => (n : Int)) ↔ ns = ms := by
  constructor
  · intro h
    exact List.map_inj_right (fun a b e => Int.ofNat.inj e) |>.mp h
  · intro h; rw [h]
theorem rEq_octs {K : PySem.W.Frag} {a b : Addr} {H : Hp} {Q : VK} {ns ms : List Nat} (ha : lstv K H a = some (octs ns)) (hb : lstv K H b = some (octs ms)) (q : Q (.bl (decide (ns = ms))) H) : rEqU K (.ref a) (.ref b) H Q := by
  rw [octs_int] at ha hb
  refine rEq_ints ha hb ?_
  rw [decide_eq_decide.mpr octs_inj]
  exact q
theorem rNe_octs {K : PySem.W.Frag} {a b : Addr} {H : Hp} {Q : VK} {ns ms : List Nat} (ha : lstv K H a = some (octs ns)) (hb : lstv K H b = some (octs ms)) (q : Q (.bl (!decide (ns = ms))) H) : rNeU K (.ref a) (.ref b) H Q := by
  rw [octs_int] at ha hb
  refine rNe_ints ha hb ?_
  rw [decide_eq_decide.mpr octs_inj]
  exact q
theorem octs_at {ns : List Nat} {i : Nat} {x : V} (h : (octs ns)[i]? = some x) : ∃ n : Nat, ns[i]? = some n ∧ x = .int n := by
  unfold octs at h
  rw [List.getElem?_map] at h
  cases e : ns[i]? with
  | none => rw [e] at h; cases h
  | some n => rw [e] at h; cases h; exact ⟨n, rfl, rfl⟩
theorem octs_len (ns : List Nat) : (octs ns).length = ns.length := by simp [octs]
theorem octs_snoc {ns : List Nat} {n : Nat} {i : Int} (h : i = n) : octs ns ++ [V.int i] = octs (ns ++ [n]) := by
  subst h; simp [octs]
theorem cs_small {i j : Int} (h1 : 0 ≤ j) (h2 : j ≤ 1000000) (h3 : i.natAbs < 2 ^ 64) : CS i j := ⟨h1, .inl ⟨h2, h3⟩⟩
theorem cm_l {i j : Int} (h1 : -(2 ^ 64) < i) (h2 : i < 2 ^ 64) : CM i j := .inl (.inl ⟨h1, h2⟩)
theorem cm_r {i j : Int} (h1 : -(2 ^ 64) < j) (h2 : j < 2 ^ 64) : CM i j := .inl (.inr ⟨h1, h2⟩)
theorem cd_small {i j : Int} (h1 : 0 < j) (h2 : j < 1073741824) : CD i j := ⟨h1, .inl h2⟩
theorem cd_wide {i j : Int} {b : Nat} (h : 0 < j) (hb : j.natAbs < 2 ^ b) (h0 : 0 < b) (h9 : b ≤ 9000) : CD i j := ⟨h, .inr (wide_div (i := i) h hb h0 h9).2⟩
theorem Same.upd {H H' : Hp} {l : Addr} {o : HO} (s : Same H H') (h : H l = none) : Same H (upd H' l o) := fun b u e => by
  rw [upd_ne (ne_of_none e h)]
  exact s _ _ e
/-! ### bits -/
theorem xor_nat (a b : Nat) : Builtin.bitXor (a : Int) (b : Int) = ((a ^^^ b : Nat) : Int) := by
  rw [PyProof.Rows.bitXor_and, PySem.W.os_band]
  have h : ∀ n : Nat, ∀ a b : Nat, a ≤ n → a + b = (a ^^^ b) + 2 * (a &&& b) := by
    intro n
    induction n with
    | zero =>
      intro a b h
      have : a = 0 := by omega
      subst this
      simp
    | succ n ih =>
      intro a b h
      by_cases ha : a = 0
      · subst ha; simp
      · have e := ih (a / 2) (b / 2) (by omega)
        have x1 : (a ^^^ b) % 2 = (a % 2 + b % 2) % 2 := by
          have := Nat.xor_mod_two_pow (a := a) (b := b) (n := 1)
          simp at this
          rw [this]
          rcases Nat.mod_two_eq_zero_or_one a with h1 | h1 <;> rcases Nat.mod_two_eq_zero_or_one b with h2 | h2 <;> rw [h1, h2] <;> decide
        have x2 : (a ^^^ b) / 2 = (a / 2) ^^^ (b / 2) := by
          have := Nat.xor_div_two_pow (a := a) (b := b) (n := 1); simpa using this
        have y1 : (a &&& b) % 2 = (a % 2) * (b % 2) := by
          have := Nat.and_mod_two_pow (a := a) (b := b) (n := 1)
          simp at this
          rw [this]
          rcases Nat.mod_two_eq_zero_or_one a with h1 | h1 <;> rcases Nat.mod_two_eq_zero_or_one b with h2 | h2 <;> rw [h1, h2] <;> decide
        have y2 : (a &&& b) / 2 = (a / 2) &&& (b / 2) := by
          have := Nat.and_div_two_pow (a := a) (b := b) (n := 1); simpa using this
        rw [← x2, ← y2] at e
        rcases Nat.mod_two_eq_zero_or_one a with h1 | h1 <;> rcases Nat.mod_two_eq_zero_or_one b with h2 | h2 <;> rw [h1, h2] at x1 y1 <;> omega
  have := h a a b (Nat.le_refl _)
  omega

/-! ### what K holds is not tracked: told at the head of each named block -/
def tAp (K : PySem.W.Frag) (t : TS) : TS := fun D σ H => Apart K H → t D σ H
theorem pssAp {X : Cx} {sts : List Stmt} {t : TS} (h : PSs X sts t) : PSs X sts (tAp X.K t) :=
  ⟨fun pins s σ H D I q => h.run pins s σ H D I (q fun b o e => (I.bs b o (I.ok.mod.kin b o e)).2)⟩
theorem tAp_e {K : PySem.W.Frag} {t : TS} {D : Ends} {σ : L2.St} {H : Hp} : tAp K t D σ H = (Apart K H → t D σ H) := rfl
theorem klst_in {K : PySem.W.Frag} {p : Addr} {xs : List V} (h : klst K p = some xs) : ∃ o, K.lookup p = some o := by
  unfold klst at h
  split at h
  · rename_i he
    rcases Classical.choose_spec he with (q | ⟨_, q⟩) | ⟨o, _, _, q, _⟩
    · cases q
    · cases q
    · exact ⟨o, q⟩
  · cases h
theorem ktup_in {K : PySem.W.Frag} {p : Addr} {xs : List V} (h : ktup K p = some xs) : ∃ o, K.lookup p = some o := by
  unfold ktup at h
  split at h
  · rename_i he
    rcases Classical.choose_spec he with (q | ⟨_, q⟩) | ⟨o, _, _, q, _⟩
    · cases q
    · cases q
    · exact ⟨o, q⟩
  · cases h
theorem lstv_mono {K : PySem.W.Frag} {H H' : Hp} {p : Addr} {xs : List V} (s : Same H H') (ap : Apart K H') (h : lstv K H p = some xs) : lstv K H' p = some xs := by
  unfold lstv at h
  split at h
  · cases h; exact lstv_of (s _ _ ‹_›)
  · cases h; exact lstv_frz (s _ _ ‹_›)
  · obtain ⟨o, q⟩ := klst_in h
    unfold lstv
    rw [ap _ _ q]
    exact h
  · cases h
theorem tupv_mono {K : PySem.W.Frag} {H H' : Hp} {p : Addr} {xs : List V} (s : Same H H') (ap : Apart K H') (h : tupv K H p = some xs) : tupv K H' p = some xs := by
  unfold tupv at h
  split at h
  · cases h; exact tupv_of (s _ _ ‹_›)
  · cases h
    unfold tupv
    rw [s _ _ ‹_›]
  · obtain ⟨o, q⟩ := ktup_in h
    unfold tupv
    rw [ap _ _ q]
    exact h
  · cases h

/-! ### the law's own promise -/
noncomputable def spLaw (K : PySem.W.Frag) : Sp := fun vs H Q _ => ∃ (a : Addr) (ns : List Int), vs = [.ref a] ∧ lstv K H a = some (ns.map V.int) ∧ ns.length ≤ 63 ∧ ∀ H', Q (.bl true) H'
def spLawS (K : PySem.W.Frag) : Sp := fun vs H Q _ => ∃ (a : Addr) (ns : List Int), vs = [.ref a] ∧ SqL K H a (ns.map V.int) ∧ ns.length ≤ 63 ∧ ∀ H', Q (.bl true) H'
theorem lawS {P : Program} {w : World} {K : PySem.W.Frag} {mg : Str → Option Value} {base : Heap} {CX : CXT} {k : Nat} {f : Addr} {fd : FuncData} {x : Str} (F : FnOk P w K mg base CX k f fd [x] (spLaw K)) : FnOk P w K mg base CX k f fd [x] (spLawS K) :=
  fnApart F (fun vs H Q E ⟨a, ns, e, _⟩ => by rw [e]; rfl) fun vs H Q E ap ⟨a, ns, e, h, z, q⟩ => ⟨a, ns, e, lstv_of_sq ap h, z, q⟩
end R

/-! E: own exceptions over ValueError whose __init__ says super().__init__(..), two classes deep. -/
namespace R
open PySem PySem.Spec PyProof.Rows L2 NdefX
/-- what the written part says of a method that closes over its class -/
structure SupF (P : Program) (K : PySem.W.Frag) (mg : Str → Option Value) (name qual : Str) (st : Stmt) (f : Addr) (D : Addr) (fd : FuncData) (cda cc : Addr) : Prop where
  ex : ∃ (oc : Value) (od : Option Addr) (dV kV doc pm : Value) (an : Option Addr) (ct : Value) (osl : Array (Option Value)),
    fd = PySem.W.ksFn name qual (defArgs st) (defBody st) (defScope st) dV kV doc pm an (.ref cda) ct cc ∧ K.lookup f = some ⟨oc, od, .func fd, osl⟩
  cd : PySem.W.codeIn K (.ref cda) qual = true
  fl : ∃ (ccl : Value) (cdd : Option Addr) (vs : Array Value) (ccs : Array (Option Value)) (file : Str) (tf : Tok), K.lookup cda = some ⟨ccl, cdd, .fields vs, ccs⟩ ∧ vs[2]? = some (.str file tf) ∧ ((P.main.file : Str) == file) = true
  ce : ∃ (cl : Value) (cld : Option Addr) (csl : Array (Option Value)), K.lookup cc = some ⟨cl, cld, .cell (some (.ref D)), csl⟩
  dc : ∃ cdD, PySem.W.clsIn K D = some cdD
  sg : mg "super" = none
  tp : (P.main.scope.names.lookup ("super" : Str)).isSome = false
  tst : PySem.W.nsIn K cStatics "thirdparty.any" = some none
abbrev supNF (qual : Str) (st : Stmt) (cda cc : Addr) : NF := ⟨"__init__", qual, defArgs st, defBody st, defScope st, [("__class__", cc)], cda⟩
/-- .. of a class of such exceptions, below D -/
structure SupC (K : PySem.W.Frag) (C D : Addr) : Prop where
  ox : OexC K C
  sub : PySem.W.mroIn K C (.ref D) = some true
section
variable {P : Program} {w : World} {K : PySem.W.Frag} {mg : Str → Option Value} {base : Heap}
theorem ncx_env {CX : CXT} {N : List Str} {F : NF} {f : Addr} {A : Around} {outer : List Env} {s : Shared} {H : Hp} {E : XK} : (ncx CX P w K mg base N F f A outer s H E).env = envF F f s.heap.objs.size := rfl
variable {X : Cx} {σ : L2.St} {H : Hp} {s : Shared} {pins : List (Addr × Obj)}
theorem exo_obj (I : Inv X pins σ H s) {a C : Addr} {d : Option Addr} (e : H a = some (exo a C d)) : ∃ t1 : Addr, s.heap.get? a = some ({ cls := .ref C, dict := d, data := .fields #[.ref t1, .none, .none, .none, .bool false, .none] } : Obj) := exo_at I.hok e
/-- super() in such a method: the object that looks behind D -/
theorem sup_node {name qual : Str} {st : Stmt} {f D : Addr} {fd : FuncData} {cda cc a C L : Addr} {body : List Stmt} {p0 p1 : Pos} {attr : Str} {whole : Sem Value} {ar : Arg} {Q : Value → Shared → Prop} {E : Value → Shared → Prop}
    (S : SupF X.prog X.K X.mg name qual st f D fd cda cc) (hX : X.env = envF (supNF qual st cda cc) f L) (I : Inv X pins σ H s)
    (hp : (fd.params.posonlyargs ++ fd.params.args).head? = some ar) (h0 : X.N[0]? = some ar.arg) (hs : σ[0]? = some (some (.ref a))) (e : H a = some (exo a C none)) (hsub : PySem.W.mroIn X.K C (.ref D) = some true)
    (hat : (attr == ("__class__" : Str)) = false) (hks : (defScope st).names.lookup ("super" : Str) = some .globalImplicit) (hkc : (defScope st).names.lookup ("__class__" : Str) = some .free) (hka : (defScope st).names.lookup ar.arg = some .local)
    (hk : (defScope st).kind = .function)
    (h : ∀ so h', (∀ b o, s.heap.get? b = some o → h'.get? b = some o) → h'.get? so = some (PySem.W.ks_superObj D a C) → Q (.ref so) { s with heap := h' }) :
    _root_.PySem.wpAt (model X.prog X.w) X.A (.func body X.env) (attributeBase (.Call (.Name "super" p0) [] [] p1) attr X.env whole) Q E s := by
  obtain ⟨oc, od, dV, kV, doc, pm, an, ct, osl, hfd, lk⟩ := S.ex
  obtain ⟨ccl, cdd, vs, ccs, file, tf, hcode, hvs, hfile⟩ := S.fl
  obtain ⟨cl, cld, csl, hcell⟩ := S.ce
  obtain ⟨cdD, hD⟩ := S.dc
  have KX := I.kIn
  obtain ⟨t1, ho⟩ := exo_obj I e
  obtain ⟨mb, hb1, hb2⟩ := I.mod.blt
  obtain ⟨m, hns, hloc⟩ := id I.loc
  have hv : m ar.arg = some (.ref a) := by
    obtain ⟨u, ru, lu⟩ := hloc 0 ar.arg (.ref a) h0 hs (.inl (by rw [hX]; exact hka))
    obtain rfl : u = Value.ref a := ru
    rcases lu with ⟨_, z⟩ | ⟨z, _⟩
    · exact z
    · have z' : (defScope st).names.lookup ar.arg = some .cell ∨ (defScope st).names.lookup ar.arg = some .free := by rw [hX] at z; exact z
      rw [hka] at z'; rcases z' with z' | z' <;> cases z'
  obtain ⟨oD, hD1, hD2⟩ : ∃ oD, s.heap.get? D = some oD ∧ oD.data = .cls cdD := by
    unfold PySem.W.clsIn at hD
    split at hD
    · rename_i q
      cases hD
      exact ⟨_, KX _ _ q, rfl⟩
    · cases hD
  have gl : s.heap.Ns X.env.globals X.mg := by rw [I.ok.glob]; exact I.mod.glob.keeps I.bk
  have bl : s.heap.Ns X.env.builtins mb := by rw [I.ok.blt]; exact hb1.keeps I.bk
  obtain ⟨hh, g, d, t, os⟩ := s
  rw [hX] at hns gl bl ⊢
  refine PySem.ks_wpAt_super_base (env := envF (supNF qual st cda cc) f L) hks hkc hat rfl (KX _ _ lk) rfl hp rfl (KX _ _ hcode) rfl hvs hfile S.tp ?_
  refine PySem.W.ks_loadName_global hk hks (Calls.loadGlobal_builtin gl S.sg bl ((hb2 "super" (by decide)).trans (by decide +kernel : bootBuiltins "super" = some (.type "super"))) ⟨rfl, ?_⟩)
  refine wpAny_loadName_free hk hkc rfl ⟨_, KX _ _ hcell, rfl⟩ ?_
  refine wpAny_loadName_local hk hka hns hv ?_
  refine PySem.ks_wpAny_isType_cls hD1 hD2 ⟨rfl, ?_⟩
  refine PySem.ks_wpAny_call_super hD1 hD2 ho rfl (fun c z => ?_) (PySem.W.looks_mroIn KX hsub) (fun h' e k => ?_)
  · cases z
  · exact h _ h' k e

/-- a new object that nobody tracks, pinned -/
theorem pin_new {q : Addr} {o : Obj} {h' : Heap} {t' : Nat} (I : Inv X pins σ H s) (k : ∀ b u, s.heap.get? b = some u → h'.get? b = some u) (hq : s.heap.objs.size ≤ q) (ho : h'.get? q = some o) (hc : ∀ v, o.data ≠ .cell v) :
    Inv X ((q, o) :: pins) σ H { s with heap := h', toks := t' } := by
  have J := I.kept (t' := t') k
  have fp := I.fpOk hq (I.hok.fresh hq)
  refine J.pins_of fun p hp => ?_
  rcases List.mem_cons.mp hp with rfl | hp
  · exact ⟨ho, fp.1, fp.2.1, fp.2.2.1, hc⟩
  · exact J.pin p (List.mem_append_right _ hp)
theorem unpin {q : Addr × Obj} (I : Inv X (q :: pins) σ H s) : Inv X pins σ H s := I.pins_of fun p hp => I.pin p (List.mem_append_right _ (List.mem_cons_of_mem _ hp))
/-- the bound built-in __init__ is called -/
theorem call_mw {u a C t0 : Addr} {rest : List Value} {Q : Value → Shared → Prop} {E : Value → Shared → Prop} {A : Around} (T : OexC X.K C) (I : Inv X pins σ H s) (hu : s.heap.get? u = some (PySem.W.kxs_mw "ValueError.__init__" a)) (he : H a = some (exo a C none)) (hz : rest.length ≤ sizeLine)
    (h : ∀ s', Inv X pins σ H s' → Q .none s') : wpAny (model X.prog X.w) A (call (.ref u) rest) Q E s := by
  obtain ⟨nm, q, N, bs, bm, sn, sub, ab, col, dd, k0, k1, k2, k3, k5, hC, hbm⟩ := T.cls
  obtain ⟨t1, ho⟩ := exo_obj I he
  have KX := I.kIn
  obtain ⟨hh, g, d, tk, os⟩ := s
  refine wpAny_call (codeAny_of_tree ?_)
  show wpAny (model X.prog X.w) A.in1 (callAny (.ref u) ⟨rest, []⟩) _ _ _
  simp only [callAny]
  refine wpAny_bind (wpAny_load hu ?_)
  simp only [PySem.W.kxs_mw, show (Value.type "method-wrapper" == Value.type "method" || Value.type "method-wrapper" == Value.type "builtin_function_or_method" || Value.type "method-wrapper" == Value.type "method-wrapper") = true by decide, if_true]
  refine PySem.W.KFB.if_so (by decide) ?_
  refine wpAny_bind (PySem.W.check_bound_init PySem.F.excBase_ValueError.toExcCallFacts (KX _ _ hC) ho rfl ?_)
  refine wpAny_bind (wpAny_pure (wpAny_pure ⟨plainId_quiet PySem.F.excBase_ValueError.init.plain _, codeAny_builtin PySem.F.excBase_ValueError.initEntry ?_⟩))
  refine PySem.W.exc_init_tree (cls := .ref C) (t0 := t1) (dv := none) (c2 := .none) (c3 := .none) (b4 := .bool false) ho hz fun h' k hx _ => ?_
  have J := I.write (t' := tk) (x := a) (e := a) (o := exo a C none) (by rw [he]; exact True.intro) (.inl rfl) k ⟨_, hx⟩ (exo_ok hx)
  have eu : upd H a (exo a C none) = H := by
    funext b
    by_cases hb : b = a
    · rw [hb, upd_same, he]
    · rw [upd_ne hb]
  rw [eu] at J
  exact h _ J
section
variable {name qual : Str} {st : Stmt} {f D : Addr} {fd : FuncData} {cda cc a C L : Addr} {body : List Stmt} {p0 p1 ap cp ep : Pos} {ar : Arg} {e0 : Expr} {es : List Expr} {ta : TA} {Dn : Ends} {pl : Sem Bool}
/-- super().__init__(..) that comes to ValueError's -/
theorem sup_base (S : SupF X.prog X.K X.mg name qual st f D fd cda cc) (hX : X.env = envF (supNF qual st cda cc) f L) (I : Inv X pins σ H s)
    (hp : (fd.params.posonlyargs ++ fd.params.args).head? = some ar) (h0 : X.N[0]? = some ar.arg) (hs : σ[0]? = some (some (.ref a))) (T : SupC X.K C D) (e : H a = some (exo a C none))
    (hsu : PySem.W.ks_superIn X.K C D "__init__" = some (some (.builtin "ValueError.__init__"))) (hB : PySem.W.subIn X.K (.ref C) (.type "ValueError") = some true)
    (ha : PA X (e0 :: es) ta) (hks : (defScope st).names.lookup ("super" : Str) = some .globalImplicit) (hkc : (defScope st).names.lookup ("__class__" : Str) = some .free) (hka : (defScope st).names.lookup ar.arg = some .local)
    (hk : (defScope st).kind = .function) (he : starEach (e0 :: es) X.env = (false, eval e0 X.env) :: starEach es X.env) (hpl : (backTo cp (starEach es X.env)).any (·.1) = false)
    (hq : ta σ H fun vs H1 => vs.length ≤ 1000 ∧ H1 a = some (exo a C none) ∧ Dn.nx σ H1)
    (hev : eval (.Call (.Attribute (.Call (.Name "super" p0) [] [] p1) "__init__" ap) (e0 :: es) [] cp) X.env = (do
      let ov ← attributeBase (.Call (.Name "super" p0) [] [] p1) "__init__" X.env (eval (.Call (.Name "super" p0) [] [] p1) X.env)
      standAt ap.atName
      let (f, first) ← holding [ov] (getMethod ov "__init__" pl)
      callWith cp f first (backTo cp (starEach (e0 :: es) X.env)) [])) :
    _root_.PySem.wpAt (model X.prog X.w) X.A (.func body X.env) (exec (.Expr (.Call (.Attribute (.Call (.Name "super" p0) [] [] p1) "__init__" ap) (e0 :: es) [] cp) ep) X.env) (SP X pins Dn) X.xe s := by
  refine PySem.ks_wpAt_Expr_any (PySem.ks_wpAt_MethodCall (sup_node S hX I hp h0 hs e T.sub (by decide) hks hkc hka hk fun so h' k hso => ?_) hev) I.quiet rfl
  have I1 := I.kept (t' := s.toks) k
  obtain ⟨t1, ho⟩ := exo_obj I1 e
  have KX := I1.kIn
  have hxC : a ≠ C := by
    obtain ⟨nm, q, N, bs, bm, sn, sub, ab, col, dd, k0, k1, k2, k3, k5, hC, _⟩ := T.ox.cls
    intro z
    rw [z] at ho
    have := KX _ _ hC
    rw [ho] at this
    cases this
  cases hcl : PySem.W.clsIn X.K C with
  | none => unfold PySem.W.ks_superIn at hsu; rw [hcl] at hsu; cases hsu
  | some cd =>
    unfold PySem.W.ks_superIn at hsu
    rw [hcl] at hsu
    have hI : PySem.W.Looks (model X.prog X.w) h' (isInstance (.ref a) (.type "ValueError")) true := by
      have LT : PySem.W.Looks (model X.prog X.w) h' (typeOf (.ref a)) (.ref C) := fun A Q E s k q => wpAny_typeOf_ref (k _ _ ho) q
      exact LT.andThen (PySem.W.looks_subIn KX hB)
    refine PySem.W.kxs_getMethod (h := h') (g := s.gens) (d := s.drawn) (t := s.toks) (os := s.os) PySem.W.kxs_ValueError hso (PySem.W.looks_opaque KX S.tst) (l₀ := cd.mro) (fun A Q E s k q => wpAny_bind ((PySem.W.looks_clsIn KX hcl) A _ E s k (wpAny_pure q))) rfl KX hsu hI hxC (by decide) ?_
    have I2 := pin_new (o := PySem.W.kxs_mw "ValueError.__init__" a) (h' := h'.push (PySem.W.kxs_mw "ValueError.__init__" a)) (t' := s.toks + 1) I1 (fun b u z => Heap.get?_push_of_some _ z) (Nat.le_refl _) (Heap.get?_push_at rfl rfl) (fun v z => by cases z)
    refine PySem.W.kxs_callWith1 (i := "ValueError.__init__") (x := a) (h₀ := X.base) (L := X.env.locals) (news := [(h'.objs.size, PySem.W.kxs_mw "ValueError.__init__" a)]) (fun p hp => ?_) (by simp) ?_ he hpl
    · simp at hp
      subst hp
      obtain ⟨g1, g2, g3, _⟩ := I2.pin (h'.objs.size, PySem.W.kxs_mw "ValueError.__init__" a) (by simp)
      refine ⟨g1, g3, ?_⟩
      cases z : X.base.get? h'.objs.size with
      | none => rfl
      | some o => exact absurd (Heap.lt_size (I1.bk _ _ z)) (Nat.lt_irrefl _)
    · refine thn (ha.run cp _ _ σ H _ I2 hq) fun us s3 ⟨vs, H3, I3, r3, q3⟩ => ?_
      obtain ⟨hl, e3, q3⟩ := q3
      have hu := (I3.pin (h'.objs.size, PySem.W.kxs_mw "ValueError.__init__" a) (by simp)).1
      refine ⟨hu, call_mw (t0 := t1) T.ox I3 hu e3 (by rw [← Paired.length r3, sizeLine_eq]; omega) fun s4 I4 => ?_⟩
      exact ⟨σ, H3, unpin I4, q3⟩
/-- super().__init__(..) that comes to an own class's -/
theorem sup_own {CX : CXT} {k2 : Nat} {f2 : Addr} {fd2 : FuncData} {ps2 : List Str} {sp2 : Sp} {Ex : XK} (S : SupF X.prog X.K X.mg name qual st f D fd cda cc) (hX : X.env = envF (supNF qual st cda cc) f L) (I : Inv X pins σ H s)
    (hp : (fd.params.posonlyargs ++ fd.params.args).head? = some ar) (h0 : X.N[0]? = some ar.arg) (hs : σ[0]? = some (some (.ref a))) (T : SupC X.K C D) (e : H a = some (exo a C none))
    (hsu : PySem.W.ks_superIn X.K C D "__init__" = some (some (.ref f2))) (ht : PySem.W.typeIn X.K (.ref f2) = some (.type "function")) (hfn : PySem.W.fnIn X.K f2 = true)
    (F2 : FnOk X.prog X.w X.K X.mg X.base CX k2 f2 fd2 ps2 sp2) (hr : Room k2 X.A) (hb : Binds X.K fd2 ps2 []) (hx : Passes CX X Ex)
    (ha : PA X (e0 :: es) ta) (hks : (defScope st).names.lookup ("super" : Str) = some .globalImplicit) (hkc : (defScope st).names.lookup ("__class__" : Str) = some .free) (hka : (defScope st).names.lookup ar.arg = some .local)
    (hk : (defScope st).kind = .function) (he : starEach (e0 :: es) X.env = (false, eval e0 X.env) :: starEach es X.env) (hpl : (backTo cp (starEach es X.env)).any (·.1) = false)
    (hq : ta σ H fun vs H1 => sp2 (.ref a :: vs) H1 (fun _ H2 => Dn.nx σ H2) Ex)
    (hev : eval (.Call (.Attribute (.Call (.Name "super" p0) [] [] p1) "__init__" ap) (e0 :: es) [] cp) X.env = (do
      let ov ← attributeBase (.Call (.Name "super" p0) [] [] p1) "__init__" X.env (eval (.Call (.Name "super" p0) [] [] p1) X.env)
      standAt ap.atName
      let (f, first) ← holding [ov] (getMethod ov "__init__" pl)
      callWith cp f first (backTo cp (starEach (e0 :: es) X.env)) [])) :
    _root_.PySem.wpAt (model X.prog X.w) X.A (.func body X.env) (exec (.Expr (.Call (.Attribute (.Call (.Name "super" p0) [] [] p1) "__init__" ap) (e0 :: es) [] cp) ep) X.env) (SP X pins Dn) X.xe s := by
  refine PySem.ks_wpAt_Expr_any (PySem.ks_wpAt_MethodCall (sup_node S hX I hp h0 hs e T.sub (by decide) hks hkc hka hk fun so h' k hso => ?_) hev) I.quiet rfl
  have I1 := I.kept (t' := s.toks) k
  obtain ⟨t1, ho⟩ := exo_obj I1 e
  have KX := I1.kIn
  have hxC : a ≠ C := by
    obtain ⟨nm, q, N, bs, bm, sn, sub, ab, col, dd, k0, k1, k2, k3, k5, hC, _⟩ := T.ox.cls
    intro z
    rw [z] at ho
    have := KX _ _ hC
    rw [ho] at this
    cases this
  cases hcl : PySem.W.clsIn X.K C with
  | none => unfold PySem.W.ks_superIn at hsu; rw [hcl] at hsu; cases hsu
  | some cd =>
    unfold PySem.W.ks_superIn at hsu
    rw [hcl] at hsu
    obtain ⟨of, hof, hofc⟩ : ∃ of, h'.get? f2 = some of ∧ of.cls = .type "function" := by
      have ht' : (X.K.lookup f2).map (·.cls) = some (.type "function") := ht
      cases z : X.K.lookup f2 with
      | none => rw [z] at ht'; cases ht'
      | some of => rw [z] at ht'; exact ⟨of, KX _ _ z, Option.some.inj ht'⟩
    refine PySem.ks_wpAny_getMethod_super (h := h') (g := s.gens) (d := s.drawn) (t := s.toks) (os := s.os) hso (PySem.W.looks_opaque KX S.tst) (l₀ := cd.mro) (fun A Q E s k q => wpAny_bind ((PySem.W.looks_clsIn KX hcl) A _ E s k (wpAny_pure q))) rfl KX hsu hof hofc hxC (by decide) ?_
    have I2 := pin_new (o := PySem.W.methodObj (.ref f2) (.ref a)) (h' := h'.push (PySem.W.methodObj (.ref f2) (.ref a))) (t' := s.toks + 1) I1 (fun b u z => Heap.get?_push_of_some _ z) (Nat.le_refl _) (Heap.get?_push_at rfl rfl) (fun v z => by cases z)
    refine PySem.W.callWith_M (K := X.K) (g := f2) (self := .ref a) (h₀ := X.base) (L := X.env.locals) (news := [(h'.objs.size, PySem.W.methodObj (.ref f2) (.ref a))]) I.ok.mod.kin (fun p hp => ?_) (by simp) hfn ?_ he hpl
    · simp at hp
      subst hp
      obtain ⟨g1, g2, g3, _⟩ := I2.pin (h'.objs.size, PySem.W.methodObj (.ref f2) (.ref a)) (by simp)
      refine ⟨g1, g3, ?_⟩
      cases z : X.base.get? h'.objs.size with
      | none => rfl
      | some o => exact absurd (Heap.lt_size (I1.bk _ _ z)) (Nat.lt_irrefl _)
    · refine thn (ha.run cp _ _ σ H _ I2 hq) fun us s3 ⟨vs, H3, I3, r3, q3⟩ => ?_
      have hu := (I3.pin (h'.objs.size, PySem.W.methodObj (.ref f2) (.ref a)) (by simp)).1
      refine ⟨⟨hu, I3.kIn⟩, ?_⟩
      have rr : Vals (V.ref a :: vs) (Value.ref a :: us) := .cons rfl r3
      have hl : (Value.ref a :: us ++ []).length = ps2.length := by
        rw [List.append_nil, ← rr.length]; exact F2.len _ _ _ _ q3
      have hbd := hb s3 (Value.ref a :: us) I3.kIn hl
      rw [List.append_nil] at hbd
      refine wpAny_call (PySem.ks_codeAny_call_bound hu (codeAny_mono (F2.run X.A X.stack s3 H3 ⟨Value.ref a :: us, []⟩ (Value.ref a :: us) (V.ref a :: vs) _ Ex hr I3.env0 hbd rr q3) fun r s' hq' => ?_))
      cases r with
      | error er => exact hx _ σ H3 s3 er s' I3 hq'
      | ok fl =>
        cases fl with
        | ret u =>
          obtain ⟨v, H4, I4, _, q4⟩ := I3.after hq'
          exact ⟨σ, H4, unpin I4, q4⟩
        | next => exact False.elim hq'
        | brk => exact False.elim hq'
        | cont => exact False.elim hq'
end
end

/-! ### such an __init__ keeps its promise -/
/-- the call node's tree: by rfl where the places are written -/
def SupEv (p0 p1 ap cp : Pos) (args : List Expr) (pl : Sem Bool) : Prop := ∀ env : Env, eval (.Call (.Attribute (.Call (.Name "super" p0) [] [] p1) "__init__" ap) args [] cp) env = (do
  let ov ← attributeBase (.Call (.Name "super" p0) [] [] p1) "__init__" env (eval (.Call (.Name "super" p0) [] [] p1) env)
  standAt ap.atName
  let (f, first) ← holding [ov] (getMethod ov "__init__" pl)
  callWith cp f first (backTo cp (starEach args env)) [])
section
variable {P : Program} {w : World} {K : PySem.W.Frag} {mg : Str → Option Value} {base : Heap} {CX : CXT} {name qual : Str} {st : Stmt} {f D : Addr} {fd : FuncData} {cda cc : Addr} {N ps : List Str} {k : Nat} {sp : Sp}
theorem fn_sup (S : SupF P K mg name qual st f D fd cda cc) (NS : NScope N ps ["__class__"] (defScope st)) (len : ∀ vs H Q E, sp vs H Q E → vs.length = ps.length)
    (hbody : ∀ (A : Around) (outer : List Env) (s : Shared) (H : Hp) (vs : List V) (Q : VK) (E : XK), Room k (A.deeper (envF (supNF qual st cda cc) f s.heap.objs.size)) → sp vs H Q E →
      ∀ s1, Inv (ncx CX P w K mg base N (supNF qual st cda cc) f A outer s H E) [] (startF N vs [some (.ref D)]) H s1 →
        _root_.PySem.wpAt (model P w) (A.deeper (envF (supNF qual st cda cc) f s.heap.objs.size)) (.func (defBody st) (envF (supNF qual st cda cc) f s.heap.objs.size)) (execs (defBody st) (envF (supNF qual st cda cc) f s.heap.objs.size))
          (SP (ncx CX P w K mg base N (supNF qual st cda cc) f A outer s H E) [] { nx := fun _ H' => Q .non H', rt := Q }) (ncx CX P w K mg base N (supNF qual st cda cc) f A outer s H E).xe s1) :
    FnOk P w K mg base CX (k + 1) f fd ps sp := by
  refine ⟨len, fun A outer s H args us vs Q E hr e0 hb r hsp => ?_⟩
  obtain ⟨oc, od, dV, kV, doc, pm, an, ct, osl, rfl, lk⟩ := S.ex
  obtain ⟨cl, cld, csl, hcell⟩ := S.ce
  have hl := len _ _ _ _ hsp
  have KX : K.In s.heap := e0.mod.kin.keeps fun b o z => (e0.bs b o z).1
  have lim : s.heap.NoLimit := e0.mod.nolimit.keeps fun b o z => (e0.bs b o z).1
  refine codeAny_call_function hr.depth (KX _ _ lk) rfl NS.co NS.gen rfl (PySem.W.codeRec_of KX S.cd) (hb _ _ _ _ ?_)
  refine wpAny_newFunctionEnv NS.nocell (fun ⟨n, _⟩ hy => NS.par n (List.of_mem_zip hy).1) (fun h₁ hns hsb => ⟨lim.fresh _ hsb, ?_⟩) NS.kind
  refine PySem.ks_codeAny_funcAt (env := envF (supNF qual st cda cc) f s.heap.objs.size) ?_
  have kp : ∀ b o, s.heap.get? b = some o → h₁.get? b = some o := fun b o z => hsb.extBut b o (Nat.ne_of_lt (Heap.lt_size z)) (Heap.get?_push_of_some _ z)
  have C : CellsAt (supNF qual st cda cc).cl ["__class__"] [some (.ref D)] s.heap H := by
    refine ⟨rfl, fun y c z => ?_, fun x y c z1 z2 => ?_, fun i y hi => ?_⟩
    · have z' : List.lookup y [(("__class__" : Str), cc)] = some c := z
      have hc : c = cc := by
        rw [List.lookup_cons] at z'
        split at z'
        · cases z'; rfl
        · cases z'
      subst hc
      exact ⟨(e0.bs _ _ (e0.mod.kin _ _ hcell)).2, _, _, KX _ _ hcell, rfl⟩
    · have one : ∀ {u : Str}, List.lookup u [(("__class__" : Str), cc)] = some c → u = "__class__" := fun {u} q => by
        rw [List.lookup_cons] at q
        split at q
        · rename_i q2; simpa using q2
        · cases q
      rw [one z1, one z2]
    · cases i with
      | zero =>
        cases hi
        refine ⟨cc, rfl, fun v hv => ?_⟩
        cases hv
        exact ⟨_, rfl, _, KX _ _ hcell, rfl⟩
      | succ i => simp at hi
  have I : Inv (ncx CX P w K mg base N (supNF qual st cda cc) f A outer s H E) [] (startF N vs [some (.ref D)]) H { s with heap := h₁, toks := s.toks + (ps.zip us).length } := inv_startN NS hr.hd e0 hl r C hns kp
  refine PySem.ks_wpAt_mono (hbody A outer s H vs Q E (hr.deeper _) hsp _ I) (fun fl s' hs => ?_) fun e s' hs => hs
  have fin : ∀ {σ' : L2.St} {H' : Hp} {v : V} {u : Value}, Inv (ncx CX P w K mg base N (supNF qual st cda cc) f A outer s H E) [] σ' H' s' → L2.RelV v u → Q v H' → CE outer P w H s Q u s' :=
    fun {σ' H' v u} J rv q => ⟨v, H', J.os, J.bare, J.base, J.hok, rv, q⟩
  cases fl with
  | ret u => obtain ⟨v, σ', H', J, rv, q⟩ := hs; exact fin J rv q
  | next => obtain ⟨σ', H', J, q⟩ := hs; exact fin (v := V.non) (u := Value.none) J rfl q
  | brk => obtain ⟨_, _, _, q⟩ := hs; exact False.elim q
  | cont => obtain ⟨_, _, _, q⟩ := hs; exact False.elim q
end

/-! ### FormstripesError and its kin -/
/-- what is known of the class C below the class D whose __init__ is a def of one's own over ValueError -/
structure FormC (K : PySem.W.Frag) (C D : Addr) : Prop extends SupC K C D where
  nP : PySem.W.findIn K (.ref C) "place" = some none
  nN : PySem.W.findIn K (.ref C) "name" = some none
  su : PySem.W.ks_superIn K C D "__init__" = some (some (.builtin "ValueError.__init__"))
  vE : PySem.W.subIn K (.ref C) (.type "ValueError") = some true
/-- the promise of FormstripesError.__init__ -/
def spForm (K : PySem.W.Frag) (D : Addr) : Sp := fun vs H Q _ => ∃ (a C : Addr) (y z : V), vs = [.ref a, y, z] ∧ FormC K C D ∧ H a = some (exo a C none) ∧
  ∀ dx H', H dx = none → dx ≠ a → H' a = some (exo a C (some dx)) → H' dx = some (exd dx [("name", z), ("place", y)]) → (∀ b, b ≠ a → b ≠ dx → H' b = H b) → Q .non H'
/-- .. of a kin's -/
def spKin (K : PySem.W.Frag) (D D0 : Addr) (nm : Str) : Sp := fun vs H Q _ => ∃ (a : Addr) (y : V), vs = [.ref a, y] ∧ H a = some (exo a D none) ∧
  ∀ dx H', H dx = none → dx ≠ a → H' a = some (exo a D (some dx)) → H' dx = some (exd dx [("name", .str nm), ("place", y)]) → (∀ b, b ≠ a → b ≠ dx → H' b = H b) → Q .non H'
section
variable {P : Program} {w : World} {K : PySem.W.Frag} {mg : Str → Option Value} {base : Heap} {CX : CXT} {name qual : Str} {st : Stmt} {f D : Addr} {fd : FuncData} {cda cc : Addr} {ar : Arg} {p0 p1 ap cp ep p2 p3 p4 p5 p6 p7 p8 p9 p10 : Pos}
/-- def __init__(self, place, name): super().__init__(place); self.place = place; self.name = name -/
theorem ok_form (S : SupF P K mg name qual st f D fd cda cc) (NS : NScope ["self", "place", "name", "__class__"] ["self", "place", "name"] ["__class__"] (defScope st))
    (hb : defBody st = [.Expr (.Call (.Attribute (.Call (.Name "super" p0) [] [] p1) "__init__" ap) [.Name "place" p2] [] cp) ep,
      .Assign [.Attribute (.Name "self" p3) "place" p4] (.Name "place" p5) p6, .Assign [.Attribute (.Name "self" p7) "name" p8] (.Name "name" p9) p10]) {pl : Sem Bool} (hev : SupEv p0 p1 ap cp [.Name "place" p2] pl)
    (hp : (fd.params.posonlyargs ++ fd.params.args).head? = some ar) (har : ar.arg = "self") (hks : (defScope st).names.lookup ("super" : Str) = some .globalImplicit) (hkc : (defScope st).names.lookup ("__class__" : Str) = some .free) :
    FnOk P w K mg base CX 1 f fd ["self", "place", "name"] (spForm K D) := by
  refine fn_sup S NS (fun vs H Q E ⟨_, _, _, _, e, _⟩ => by rw [e]; rfl) fun A outer s H vs Q E hr h s1 I => ?_
  obtain ⟨a, C, y, z, rfl, T, e, hq⟩ := h
  rw [hb]
  have hka : (defScope st).names.lookup ("self" : Str) = some .local := NS.par "self" (by simp)
  have hkp : (defScope st).names.lookup ("place" : Str) = some .local := NS.par "place" (by simp)
  have hkn : (defScope st).names.lookup ("name" : Str) = some .local := NS.par "name" (by simp)
  refine PySem.ks_wpAt_execs_cons (PySem.ks_wpAt_mono (sup_base (Dn := ⟨fun σ' H' => σ' = [some (.ref a), some y, some z, some (.ref D)] ∧ H' = H, fun _ _ => False, fun _ _ => False, fun _ _ => False⟩) (ta := tCons (tVar 1) tNil) S rfl I hp (by rw [har]; rfl) rfl T.toSupC e T.su T.vE (pa_cons (pv 1 rfl (.inl hkp)) pa_nil) hks hkc (by rw [har]; exact hka) NS.kind rfl rfl
    ⟨y, rfl, by simp, e, rfl, rfl⟩ (hev _)) (fun fl s' hs => ?_) fun _ _ q => q)
  cases fl with
  | ret u => obtain ⟨_, _, _, _, _, q⟩ := hs; exact False.elim q
  | brk => obtain ⟨_, _, _, q⟩ := hs; exact False.elim q
  | cont => obtain ⟨_, _, _, q⟩ := hs; exact False.elim q
  | next =>
    obtain ⟨σ', H', I', rfl, rfl⟩ := hs
    refine wpAt_of_wpAny ((pss_cons (ps_ost (pv 0 rfl (.inl hka)) (pv 1 rfl (.inl hkp))) (pss_one (ps_ost (pv 0 rfl (.inl hka)) (pv 2 rfl (.inl hkn))))).run [] s' _ _ _ I' ?_)
    refine ⟨y, rfl, .ref a, rfl, a, C, rfl, T.ox, T.nP, .inl ⟨e, fun dx nd ne => ?_⟩⟩
    refine ⟨z, rfl, .ref a, rfl, a, C, rfl, T.ox, T.nN, .inr ⟨dx, [("place", y)], upd_same, by rw [upd_ne ne, upd_same], by simp, ?_⟩⟩
    refine hq dx _ nd ne ?_ upd_same ?_
    · rw [upd_ne (Ne.symm ne), upd_same]
    · intro b h1 h2
      rw [upd_ne h2, upd_ne h1, upd_ne h2]
/-- def __init__(self, place): super().__init__(place, nm) -/
theorem ok_kin {f0 D0 : Addr} {fd0 : FuncData} {nm : Str} {kk : Nat} (S : SupF P K mg name qual st f D fd cda cc) (NS : NScope ["self", "place", "__class__"] ["self", "place"] ["__class__"] (defScope st))
    (hb : defBody st = [.Expr (.Call (.Attribute (.Call (.Name "super" p0) [] [] p1) "__init__" ap) [.Name "place" p2, .Constant (.str nm) kk p3] [] cp) ep]) {pl : Sem Bool} (hev : SupEv p0 p1 ap cp [.Name "place" p2, .Constant (.str nm) kk p3] pl)
    (hp : (fd.params.posonlyargs ++ fd.params.args).head? = some ar) (har : ar.arg = "self") (hks : (defScope st).names.lookup ("super" : Str) = some .globalImplicit) (hkc : (defScope st).names.lookup ("__class__" : Str) = some .free)
    (T : SupC K D D) (T0 : FormC K D D0) (hsu : PySem.W.ks_superIn K D D "__init__" = some (some (.ref f0))) (ht : PySem.W.typeIn K (.ref f0) = some (.type "function")) (hfn : PySem.W.fnIn K f0 = true)
    (F0 : FnOk P w K mg base CX0 1 f0 fd0 ["self", "place", "name"] (spForm K D0)) (hb0 : Binds K fd0 ["self", "place", "name"] []) :
    FnOk P w K mg base CX0 2 f fd ["self", "place"] (spKin K D D0 nm) := by
  refine fn_sup S NS (fun vs H Q E ⟨_, _, e, _⟩ => by rw [e]; rfl) fun A outer s H vs Q E hr h s1 I => ?_
  obtain ⟨a, y, rfl, e, hq⟩ := h
  rw [hb]
  have hka : (defScope st).names.lookup ("self" : Str) = some .local := NS.par "self" (by simp)
  have hkp : (defScope st).names.lookup ("place" : Str) = some .local := NS.par "place" (by simp)
  refine PySem.ks_wpAt_execs_cons (PySem.ks_wpAt_mono (sup_own (Dn := ⟨fun σ' H' => Q .non H', fun _ _ => False, fun _ _ => False, fun _ _ => False⟩) (Ex := E0) (ta := tCons (tVar 1) (tCons (tC (.str nm)) tNil)) S rfl I hp (by rw [har]; rfl) rfl T e hsu ht hfn F0 hr hb0 pass0 (pa_cons (pv 1 rfl (.inl hkp)) (pa_cons pe_str pa_nil)) hks hkc (by rw [har]; exact hka) NS.kind rfl rfl
    ⟨y, rfl, a, D, y, .str nm, rfl, T0, e, hq⟩ (hev _)) (fun fl s' hs => ?_) fun _ _ q => q)
  cases fl with
  | ret u => obtain ⟨_, _, _, _, _, q⟩ := hs; exact False.elim q
  | brk => obtain ⟨_, _, _, q⟩ := hs; exact False.elim q
  | cont => obtain ⟨_, _, _, q⟩ := hs; exact False.elim q
  | next =>
    obtain ⟨σ', H', I', q⟩ := hs
    exact wpAt_of_wpAny (pss_nil.run [] s' σ' H' _ I' q)
end
/-- every parameter is given, though defaults stand -/
theorem binds_dfl {K : PySem.W.Frag} {fd : FuncData} {T : Addr} {o : Obj} {its : Array Value} {n : Nat} {ps : List Str} (lT : K.lookup T = some o) (oT : o.data = .seq its n)
    (h : ∀ us : List Value, us.length = ps.length → ∃ k, bindArgs fd ⟨us, []⟩ = seqItems? (.ref T) >>= k ∧ k (some its) = pure (ps.zip us)) : Binds K fd ps [] := by
  intro s us X hl
  rw [List.append_nil] at hl ⊢
  obtain ⟨k, e1, e2⟩ := h us hl
  refine BindsTo.of_looks fun M => ?_
  rw [e1]
  exact looks_items X lT oT (.of_pure e2)
/-- D(e), a kin made to be raised -/
def tMkF (D : Addr) (nm : Str) (te : TE) : L2.St → Hp → XK → Prop := fun σ H Q => te σ H fun y H1 => ∀ d H', H1 d = none → Same H1 H' → H' d = some (.xd [("name", .str nm), ("place", y)]) → Q (.ref D) (some d) H'
/-- what is asked of X and the class D to make one -/
structure KinE (P : Program) (w : World) (K : PySem.W.Frag) (mg : Str → Option Value) (base : Heap) (x : Str) (D D0 : Addr) (nm : Str) : Prop where
  ex : ∃ (fI : Addr) (fd : FuncData), PySem.W.findIn K (.ref D) "__init__" = some (some (.ref fI)) ∧ PySem.W.typeIn K (.ref fI) = some (.type "function") ∧ FnOk P w K mg base CX0 2 fI fd ["self", "place"] (spKin K D D0 nm) ∧ Binds K fd ["self", "place"] []
  ox : OexC K D
  mg : mg x = some (.ref D)
theorem pmk_kin {X : Cx} {x : Str} {D D0 : Addr} {nm : Str} {p pos : Pos} {e : Expr} {te : TE} (N : KinE X.prog X.w X.K X.mg X.base x D D0 nm) (hr : Room 3 X.A) (hg : Gl X x) (he : PE X e te)
    (hdb : (x == ("__debug__" : Str)) = false := by decide) (hs : starEach (e :: []) X.env = (false, eval e X.env) :: starEach [] X.env := by rfl) (hpl : (backTo pos (starEach [] X.env)).any (·.1) = false := by rfl) :
    PMk X (.Call (.Name x p) [e] [] pos) (tMkF D nm te) := by
  obtain ⟨fI, fd, h1, h2, h3, h4⟩ := N.ex
  intro pins s σ H Q I h
  refine pmk_oex (dvs := []) N.ox h1 h2 h3 hr h4 .nil pass0 hg N.mg (pa_cons (peCl he) pa_nil hs) hdb hs hpl pins s σ H Q I ?_
  refine ⟨_, h, fun y H1 q => ⟨by simp, fun a na => ⟨a, y, rfl, upd_same, fun dx H' nd ne e1 e2 e3 => ⟨rfl, dx, _, e1, e2, ?_, ?_⟩⟩⟩⟩
  · rw [upd_ne ne] at nd
    exact nd
  · rw [upd_ne ne] at nd
    refine q dx _ nd (fun b o hb => ?_) upd_same
    have ba : b ≠ a := ne_of_none hb na
    have bd : b ≠ dx := ne_of_none hb nd
    rw [upd_ne bd, del_ne ba, e3 b ba bd, upd_ne ba]
    exact hb

/-! ### raise, calls that may raise, try -/
def tRs (W : WX) (t : L2.St → Hp → XK → Prop) : TS := fun _ σ H => t σ H fun cls d H' => W cls d σ H'
theorem ps_rs {X : Cx} {W : WX} {e : Expr} {t : L2.St → Hp → XK → Prop} {pos : Pos} (hc : X.calm = true) (tk : Takes X W) (he : PMk X e t) : PS X (.Raise (some e) none pos) (tRs W t) := ps_raise hc tk he
theorem tRs_e {W : WX} {D : Ends} {σ : L2.St} {H : Hp} {t : L2.St → Hp → XK → Prop} : tRs W t D σ H = t σ H fun cls d H' => W cls d σ H' := rfl
def tCallW (sp : Sp) (W : WX) (t : TA) : TE := fun σ H Q => t σ H fun vs H1 => sp vs H1 Q (fun cls d H' => W cls d σ H')
section
variable {X : Cx} {W : WX} {k : Nat} {x : Str} {ps : List Str} {sp : Sp} {p pos : Pos} {e : Expr} {es : List Expr} {t : TA}
theorem pe_fnW (F : FnE X.prog X.w X.K X.mg X.base (L2.CX X.prog X.w) x k ps sp) (hr : Room k X.A) (hg : Gl X x) (tk : Takes X W) (ha : PA X (e :: es) t)
    (hdb : (x == ("__debug__" : Str)) = false := by decide) (he : starEach (e :: es) X.env = (false, eval e X.env) :: starEach es X.env := by rfl) (hp : (backTo pos (starEach es X.env)).any (·.1) = false := by rfl) :
    PE X (.Call (.Name x p) (e :: es) [] pos) (tCallW sp W t) := by
  obtain ⟨f, fd, h1, h2, h3, h4⟩ := F.ex
  refine peImp (pe_callSD (dvs := []) (E := fun σ => WE W σ) h4 hr hg h1 h2 h3 .nil (fun σ => passAt tk σ) ha hdb he hp) fun σ H Q q => ?_
  show t σ H fun vs H1 => sp (vs ++ []) H1 Q (WE W σ)
  simp only [List.append_nil]
  exact q
theorem tCallW_e {σ : L2.St} {H : Hp} {Q : VK} : tCallW sp W t σ H Q = t σ H fun vs H1 => sp vs H1 Q (fun cls d H' => W cls d σ H') := rfl
end
/-- the slots' wish of a try .. except C as n -/
def tTryAs (K : PySem.W.Frag) (c : Value) (i : Nat) (ts : Addr → Value → Option Addr → TS) (Wout : WX) (tb : WX → TS) : TS := fun D σ H => tb (wAs K c i ts Wout D) D σ H
def tTryOnly (K : PySem.W.Frag) (c : Value) (ts : Addr → Value → Option Addr → TS) (Wout : WX) (tb : WX → TS) : TS := fun D σ H => tb (wOnly K c ts Wout D) D σ H
section
variable {X : Cx} {x n : Str} {c : Value} {i : Nat} {body suite : List Stmt} {b₀ : Stmt} {np pos pos' : Pos} {tb : WX → TS} {ts : Addr → Value → Option Addr → TS} {Wout : WX}
theorem ps_tryAs (hs : X.stack = X.env :: X.outer) (hf : X.env.frame = some X.env.locals) (hN : X.N.Nodup) (hi : X.N[i]? = some n) (hln : X.env.kindOf n = some .local) (hc : Names X x c) (tk : Takes X Wout)
    (hb : ∀ (W : WX) (pn : List (Addr × Obj)) (xe : Value → Shared → Prop), Takes (X.tr pn xe) W → PassesOwn (model X.prog X.w) X.A X.env xe → PSs (X.tr pn xe) body (tb W))
    (hsu : ∀ (a : Addr) (oe : Obj) (cls : Value) (d : Option Addr) (pn : List (Addr × Obj)), Zc cls d oe → (∃ vs, oe.data = .fields vs) → PSs (X.suite a ((a, oe) :: pn)) (b₀ :: suite) (ts a cls d)) :
    PS X (.Try body [.ExceptHandler (some (.Name x np)) (some n) (b₀ :: suite) pos'] [] [] pos) (tTryAs X.K c i ts Wout tb) := ps_try_as hs hf hN hi hln hc tk hb hsu
theorem ps_tryOnly (hs : X.stack = X.env :: X.outer) (hf : X.env.frame = some X.env.locals) (hc : Names X x c) (tk : Takes X Wout)
    (hb : ∀ (W : WX) (pn : List (Addr × Obj)) (xe : Value → Shared → Prop), Takes (X.tr pn xe) W → PassesOwn (model X.prog X.w) X.A X.env xe → PSs (X.tr pn xe) body (tb W))
    (hsu : ∀ (a : Addr) (oe : Obj) (cls : Value) (d : Option Addr) (pn : List (Addr × Obj)), Zc cls d oe → (∃ vs, oe.data = .fields vs) → PSs (X.suite a ((a, oe) :: pn)) (b₀ :: suite) (ts a cls d)) :
    PS X (.Try body [.ExceptHandler (some (.Name x np)) none (b₀ :: suite) pos'] [] [] pos) (tTryOnly X.K c ts Wout tb) := ps_try_only hs hf hc tk hb hsu
end
/-- err.f in the suite -/
def tXfU (K : PySem.W.Frag) (a : Addr) (cls : Value) (d : Option Addr) (f : Str) (te : TE) : TE := fun σ H Q => ∃ C, cls = .ref C ∧ XfC K C ∧ PySem.W.findIn K (.ref C) f = some none ∧ te σ H fun x H1 => x = .ref a ∧ ∃ (dd : Addr) (fs : List (Str × V)) (v : V), d = some dd ∧ H1 dd = some (.xd fs) ∧ fs.lookup f = some v ∧ Q v H1
theorem pe_xfU {X : Cx} {a : Addr} {oe : Obj} {cls : Value} {d : Option Addr} {pn : List (Addr × Obj)} {e : Expr} {te : TE} {pos : Pos} {n : Str} (hz : Zc cls d oe) (hf : ∃ vs, oe.data = .fields vs) (he : PE (X.suite a ((a, oe) :: pn)) e te)
    (hb : attributeBase e n X.env (eval e X.env) = eval e X.env := by rfl) : PE (X.suite a ((a, oe) :: pn)) (.Attribute e n pos) (tXfU X.K a cls d n te) := by
  refine ⟨fun pins s σ H Q I ⟨C, ec, T, hno, h⟩ => ?_⟩
  refine (pe_xf T hno hz hf (peCl he) hb).run pins s σ H Q I ⟨_, h, fun x H1 ⟨e1, dd, fs, v, e2, e3, e4, q⟩ => ⟨e1, ec, dd, fs, v, e2, e3, e4, q⟩⟩
/-- isinstance(err, C) in the suite -/
def rIsX (K : PySem.W.Frag) (a : Addr) (cls : Value) (d : Option Addr) : List V → Hp → VK → Prop := fun xs H Q => match xs with
  | [.ref a', .ref C'] => a' = a ∧ ∃ D dd fs, cls = .ref D ∧ d = some dd ∧ H dd = some (.xd fs) ∧ ExcC K D ∧ (match PySem.W.kitOne K (.ref D) (.ref C') with | some b => Q (.bl b) H | none => False)
  | [.ref a', .ty T] => a' = a ∧ ∃ D dd fs, cls = .ref D ∧ d = some dd ∧ H dd = some (.xd fs) ∧ ExcC K D ∧ (match PySem.W.kitOne K (.ref D) (.type T) with | some b => Q (.bl b) H | none => False)
  | _ => False
theorem c_isX {X : Cx} {a : Addr} {oe : Obj} {cls : Value} {d : Option Addr} {pn : List (Addr × Obj)} (hz : Zc cls d oe) (hf : ∃ vs, oe.data = .fields vs) : CallR (X.suite a ((a, oe) :: pn)) (.builtin "isinstance") (rIsX X.K a cls d) := by
  intro pins s σ H xs us Q I r h
  have key : ∀ (D dd : Addr) (fs : List (Str × V)) (cv : Value) (b : Bool), cls = .ref D → d = some dd → H dd = some (.xd fs) → ExcC X.K D → PySem.W.kitOne X.K (.ref D) cv = some b → Q (.bl b) H →
      wpAny (model X.prog X.w) (X.A.mark (some (.ref a))) (call (.builtin "isinstance") [.ref a, cv]) (EP (X.suite a ((a, oe) :: pn)) pins σ Q) (fun _ _ => False) s := by
    intro D dd fs cv b e1 e2 e3 C e4 q
    subst e1 e2
    obtain ⟨hget, _⟩ := I.pin (a, oe) (List.mem_append.mpr (.inl List.mem_cons_self))
    obtain ⟨vs, hv⟩ := hf
    have hx : ObjOk X.prog X.w H s.heap dd (.xd fs) := I.hok dd _ e3
    obtain ⟨mA, ⟨od, es, ep, hod, _⟩, _⟩ := hx
    have J : PySem.W.InstAt s.heap a oe D (some od) := by
      obtain ⟨oc, odd, oda, osl⟩ := oe
      obtain ⟨h1, h2⟩ := hz
      dsimp only at h1 h2 hv
      subst h1 h2 hv
      exact ⟨hget, rfl, rfl, hod⟩
    have hcl : (PySem.W.clsIn X.K D).isSome = true := by
      have z := C.hd
      unfold PySem.W.hasDictIn at z
      cases e : PySem.W.clsIn X.K D with
      | none => rw [e] at z; cases z
      | some cd => rfl
    exact PySem.W.kia_one (PySem.W.kitx_exc hcl C.hg C.hk C.hs C.ha C.hn C.ht C.hm) I.kIn J e4 (fun z => nomatch z) fun tk => ⟨.bl b, H, I.kept (t' := tk) fun _ _ z => z, rfl, q⟩
  unfold rIsX at h
  split at h
  · obtain ⟨rfl, D, dd, fs, e1, e2, e3, C, q⟩ := h
    split at q
    · obtain ⟨u1, u2, rfl, r1, r2⟩ := vals2 r
      cases r1
      cases r2
      exact key D dd fs _ _ e1 e2 e3 C ‹_› q
    · exact q.elim
  · obtain ⟨rfl, D, dd, fs, e1, e2, e3, C, q⟩ := h
    split at q
    · obtain ⟨u1, u2, rfl, r1, r2⟩ := vals2 r
      cases r1
      cases r2
      exact key D dd fs _ _ e1 e2 e3 C ‹_› q
    · exact q.elim
  · exact h.elim
/-- nothing is let out -/
abbrev W0 : WX := fun _ _ _ _ => False
/-! ### the same data -/
theorem rNe_same {K : PySem.W.Frag} {H : Hp} {Q : VK} {x y : V} (d : PyData) (hr : (isRef x || isRef y) = true) (hx : Dp K H x d) (hy : Dp K H y d) (sh : SeqAt.shaped d = true) (q : Q (.bl false) H) : rNeU K x y H Q := by
  unfold rNeU
  rw [if_pos hr]
  refine ⟨d, d, hx, hy, sh, sh, ?_⟩
  rw [SeqAt.eqv_refl d (SeqAt.canLay_of_shaped sh)]
  exact q
theorem rEq_same {K : PySem.W.Frag} {H : Hp} {Q : VK} {x y : V} (d : PyData) (hr : (isRef x || isRef y) = true) (hx : Dp K H x d) (hy : Dp K H y d) (sh : SeqAt.shaped d = true) (q : Q (.bl true) H) : rEqU K x y H Q := by
  unfold rEqU
  rw [if_pos hr]
  refine ⟨d, d, hx, hy, sh, sh, ?_⟩
  rw [SeqAt.eqv_refl d (SeqAt.canLay_of_shaped sh)]
  exact q
theorem rIsX_i {K : PySem.W.Frag} {a C C' d : Addr} {fs : List (Str × V)} {b : Bool} {H : Hp} {Q : VK} (hd : H d = some (.xd fs)) (hx : ExcC K C) (hk : PySem.W.kitOne K (.ref C) (.ref C') = some b) (q : Q (.bl b) H) : rIsX K a (.ref C) (some d) [.ref a, .ref C'] H Q := by
  refine ⟨rfl, C, d, fs, rfl, rfl, hd, hx, ?_⟩
  rw [hk]
  exact q
/-! ### rows of octets -/
theorem cutV_map {α : Type} (f : α → V) (xs : List α) (lo hi : Option Int) : ∃ ys : List α, cutV (xs.map f) lo hi = ys.map f ∧ ys.length ≤ xs.length ∧ ∀ y ∈ ys, y ∈ xs := by
  refine ⟨(xs.drop (HT.sIx xs.length 0 lo)).take (HT.sIx xs.length xs.length hi - HT.sIx xs.length 0 lo), ?_, ?_, ?_⟩
  · unfold cutV
    rw [List.map_take, List.map_drop, List.length_map]
  · rw [List.length_take, List.length_drop]; omega
  · intro y hy
    exact List.mem_of_mem_drop (List.mem_of_mem_take hy)
theorem cut_octs (ns : List Nat) (lo hi : Option Int) : ∃ ms : List Nat, cutV (octs ns) lo hi = octs ms ∧ ms.length ≤ ns.length ∧ ∀ m ∈ ms, m ∈ ns := cutV_map _ ns lo hi
theorem octs_get {ns : List Nat} {i : Nat} {n : Nat} (h : ns[i]? = some n) : atI (octs ns) (i : Int) = some (.int n) := by
  have hi : i < ns.length := (List.getElem?_eq_some_iff.mp h).1
  unfold atI ixN
  rw [if_pos (by omega), octs_len, if_pos (by omega)]
  unfold octs
  simp [h]
theorem oat {ns : List Nat} {j : Int} (h0 : 0 ≤ j) (h : j < ns.length) : ∃ n : Nat, ns[j.toNat]? = some n ∧ atI (octs ns) j = some (.int n) := by
  refine ⟨ns[j.toNat]'(by omega), by simp, ?_⟩
  have := octs_get (ns := ns) (i := j.toNat) (n := ns[j.toNat]'(by omega)) (by simp)
  rw [show ((j.toNat : Nat) : Int) = j by omega] at this
  exact this
section
variable {K : PySem.W.Frag} {a : Addr} {g : TG} {tt : TT} {te : TE} {vs : List Nat} {σ : L2.St} {H1 : Hp} {Q : VK}
theorem lcO {ns : List Nat} (f : Nat → Nat) (hx : ∀ H', Same H1 H' → lstv K H' a = some (octs ns)) (hz : ns.length ≤ 10000000)
    (step : ∀ n ∈ ns, ∀ H', Same H1 H' → ∀ (Qy : VK) (Qn : Hp → Prop), (∀ H'', Same H' H'' → Qy (.int (f n)) H'') → LTurn g tt te vs σ (.int n) H' Qy Qn)
    (hq : ∀ p H', H1 p = none → Same H1 H' → H' p = some (.lst (octs (ns.map f))) → Q (.ref p) H') : LcGo (Itl K a) g tt te vs σ H1 Q := by
  refine lcL (xs := octs ns) (fun v => match v with | .int i => some (.int (f i.toNat)) | _ => none) hx (by rw [octs_len]; exact sz _ hz) ?_ ?_
  · intro x hx H' s Qy Qn hy hn
    obtain ⟨n, hn2, rfl⟩ := List.mem_map.mp hx
    exact step n hn2 H' s Qy Qn fun H'' s2 => hy _ (by simp) H'' s2
  · intro p H' h0 s e
    refine hq p H' h0 s ?_
    rw [e]
    congr 2
    unfold octs
    rw [List.filterMap_map, List.map_map]
    rw [← List.filterMap_eq_map]
    congr 1
end
/-! ### more of texts and lists -/
def rOrd : List V → Hp → VK → Prop := fun xs H Q => match xs with
  | [.str x] => x.length = 1 ∧ Q (.int (x.cps.getD 0 0 : Nat)) H
  | _ => False
theorem c_ord {X : Cx} : CallR X (.builtin "ord") rOrd := callImp call_ord fun xs H Q q => by
  unfold rOrd at q
  split at q
  · exact ⟨_, rfl, q.1, q.2⟩
  · exact q.elim
def rSidx : V → List V → Hp → VK → Prop := fun x xs H Q => match x, xs with
  | .str a, [.str b] => (match Builtin.Str.occurrences a b 0 a.length 1 with
    | i :: _ => Q (.int (i : Nat)) H
    | [] => False)
  | _, _ => False
noncomputable def rJoin (K : PySem.W.Frag) : V → List V → Hp → VK → Prop := fun x xs H Q => match x, xs with
  | .str a, [.ref p] => (match sqv K H p with
    | some vs => ∃ ys : List Str, vs = ys.map V.str ∧ (ys.map (·.length)).sum + ys.length * a.length ≤ 16777216 ∧ Q (.str (Txt.join a ys)) H
    | none => False)
  | _, _ => False
section
variable {X : Cx} {o e : Expr} {es : List Expr} {to : TE} {t : TA} {apos pos : Pos}
theorem pe_sindex (ho : PE X o to) (ha : PA X (e :: es) t)
    (hb : attributeBase o "index" X.env (eval o X.env) = eval o X.env := by rfl)
    (hf : ((backTo pos (starEach (e :: es) X.env)).all (fun x => !x.1) && (backToKw pos (keywordEach [] X.env)).all (fun x => x.1.isSome) && decide ((e :: es).length + ([] : List Keyword).length + (if ([] : List Keyword).isEmpty then 0 else 1) < 30)) = true := by rfl)
    (hl : (apos.endLine == pos.line) = true := by rfl) (hs : starEach (e :: es) X.env = (false, eval e X.env) :: starEach es X.env := by rfl) (hp : (backTo pos (starEach es X.env)).any (·.1) = false := by rfl) :
    PE X (.Call (.Attribute o "index" apos) (e :: es) [] pos) (tMS rSidx to t) := pe_ms PySem.F.plainAttrs_str PySem.F.slot_str_index PySem.F.type_str_index (mtImp mt_sindex fun x xs H Q q => by
      unfold rSidx at q
      split at q
      · split at q
        · exact ⟨_, _, _, _, rfl, rfl, ‹_›, q⟩
        · exact q.elim
      · exact q.elim) ho ha hb hf hl hs hp
theorem pe_sjoin (ho : PE X o to) (ha : PA X (e :: es) t)
    (hb : attributeBase o "join" X.env (eval o X.env) = eval o X.env := by rfl)
    (hf : ((backTo pos (starEach (e :: es) X.env)).all (fun x => !x.1) && (backToKw pos (keywordEach [] X.env)).all (fun x => x.1.isSome) && decide ((e :: es).length + ([] : List Keyword).length + (if ([] : List Keyword).isEmpty then 0 else 1) < 30)) = true := by rfl)
    (hl : (apos.endLine == pos.line) = true := by rfl) (hs : starEach (e :: es) X.env = (false, eval e X.env) :: starEach es X.env := by rfl) (hp : (backTo pos (starEach es X.env)).any (·.1) = false := by rfl) :
    PE X (.Call (.Attribute o "join" apos) (e :: es) [] pos) (tMS (rJoin X.K) to t) := pe_ms PySem.F.plainAttrs_str PySem.F.slot_str_join PySem.F.type_str_join (mtImp mt_join fun x xs H Q q => by
      unfold rJoin at q
      split at q
      · split at q
        · rename_i hq
          obtain ⟨ys, rfl, z, q⟩ := q
          exact ⟨_, _, ys, rfl, rfl, sqv_sq hq, z, q⟩
        · exact q.elim
      · exact q.elim) ho ha hb hf hl hs hp
end
/-- l[i] = v -/
def rSetLU : TSet := fun o i v H Q => match o, i with
  | .ref p, .int k => (match H p with
    | some (.lst xs) => (match ixN xs.length k with
      | some j => Q (upd H p (.lst (xs.set j v)))
      | none => False)
    | _ => False)
  | _, _ => False
theorem set_lstU {X : Cx} : PSet X rSetLU := by
  intro pins s σ H o i v ov iv u Q I ro ri rv h
  refine set_list pins s σ H o i v ov iv u Q I ro ri rv ?_
  unfold rSetLU at h
  split at h
  · split at h
    · split at h
      · exact ⟨_, _, _, _, rfl, rfl, ‹_›, ‹_›, h⟩
      · exact h.elim
    · exact h.elim
  · exact h.elim
theorem gSub_e {to ti : TE} {t : TSet} {v : V} {σ : L2.St} {H : Hp} {Q : L2.St → Hp → Prop} : gSub to ti t v σ H Q = to σ H fun o H1 => ti σ H1 fun i H2 => t o i v H2 fun H3 => Q σ H3 := rfl
theorem rSetLU_ref {p : Addr} {k : Int} {v : V} {H : Hp} {Q : Hp → Prop} {xs : List V} (h : H p = some (.lst xs)) : rSetLU (.ref p) (.int k) v H Q = (match ixN xs.length k with
      | some j => Q (upd H p (.lst (xs.set j v)))
      | none => False) := by unfold rSetLU; simp only [h]
theorem rOrd_str {x : Str} {H : Hp} {Q : VK} : rOrd [.str x] H Q = (x.length = 1 ∧ Q (.int (x.cps.getD 0 0 : Nat)) H) := rfl
theorem rSidx_str {a b : Str} {H : Hp} {Q : VK} : rSidx (.str a) [.str b] H Q = (match Builtin.Str.occurrences a b 0 a.length 1 with
    | i :: _ => Q (.int (i : Nat)) H
    | [] => False) := rfl
theorem rJoin_lst {K : PySem.W.Frag} {a : Str} {p : Addr} {H : Hp} {Q : VK} {ys : List Str} (h : lstv K H p = some (ys.map V.str)) (hz : (ys.map (·.length)).sum + ys.length * a.length ≤ 16777216) (q : Q (.str (Txt.join a ys)) H) : rJoin K (.str a) [.ref p] H Q := by
  unfold rJoin
  simp only [sqv_l h]
  exact ⟨ys, rfl, hz, q⟩
/-- a comprehension over a range whose turns may write -/
theorem lcRI {lo : Int} {n : Nat} {g : TG} {tt : TT} {te : TE} {vs : List Nat} {σ : L2.St} {H1 : Hp} {Q : VK} (Pv : Nat → Addr → Hp → Prop)
    (h0 : ∀ D, H1 D = none → Pv 0 D (upd H1 D (.lst [])))
    (step : ∀ D i H, H1 D = none → i < n → Pv i D H → LTurn g tt te vs σ (.int (lo + i)) H (fun y H4 => ∃ acc, H4 D = some (.lst acc) ∧ acc.length < sizeLine ∧ Pv (i + 1) D (upd H4 D (.lst (acc ++ [y])))) (fun H3 => Pv (i + 1) D H3))
    (hq : ∀ D H, H1 D = none → Pv n D H → Q (.ref D) H) : LcGo (Itr lo n) g tt te vs σ H1 Q := by
  intro D hD
  exact lc_range (fun i H => Pv i D H) (h0 D hD) (fun i H hi p => step D i H hD hi p) (fun H p => hq D H hD p)
/-! ### a text's signs walked -/
section
variable {z : Str} {l : List Nat} {g : TG} {tb : TS} {D : Ends} {σ : L2.St} {H : Hp} {tt : TT} {te : TE} {vs : List Nat} {H1 : Hp} {Q : VK}
theorem goesS (hz : z.cps.toList = l) (Pv : Nat → L2.St → Hp → Prop) (h0 : Pv 0 σ H)
    (hs : ∀ i c σ H, l[i]? = some c → Pv i σ H → g (.str ⟨#[c]⟩) σ H fun σ2 H2 => tb { D with nx := Pv (i + 1), ct := Pv (i + 1), bk := D.nx } σ2 H2) (hd : ∀ σ H, Pv l.length σ H → D.nx σ H) : Goes (Its z) g tb D σ H := by
  have hn : z.cps.size = l.length := by rw [← hz]; simp
  refine for_it walk_str Pv h0 (fun _ _ _ _ _ => True.intro) ?_ (by rw [hn]; exact hd)
  rintro i x σ H H' hi p ⟨rfl, c, hc, rfl⟩
  exact hs i c σ _ (by rw [← hz]; simpa using hc) p
theorem lcS (hz : z.cps.toList = l) (F : Nat → Option V) (hz2 : l.length ≤ 10000000)
    (step : ∀ c ∈ l, ∀ H', Same H1 H' → ∀ (Qy : VK) (Qn : Hp → Prop), (∀ y, F c = some y → ∀ H'', Same H' H'' → Qy y H'') → (F c = none → ∀ H'', Same H' H'' → Qn H'') → LTurn g tt te vs σ (.str ⟨#[c]⟩) H' Qy Qn)
    (hq : ∀ p H', H1 p = none → Same H1 H' → H' p = some (.lst (l.filterMap F)) → Q (.ref p) H') : LcGo (Its z) g tt te vs σ H1 Q := by
  intro D hD
  have hn : z.cps.size = l.length := by rw [← hz]; simp
  refine lc_it walk_str (fun i H => Same H1 H ∧ H D = some (.lst ((l.take i).filterMap F))) ⟨Same.new hD, by rw [upd_same]; rfl⟩ (fun _ _ _ _ => True.intro) ?_ (fun H h => ?_)
  · rintro i x H H' hi ⟨h1, h2⟩ ⟨rfl, c, hc, rfl⟩
    have hi2 : l[i]? = some c := by rw [← hz]; simpa using hc
    have hlt : i < l.length := by omega
    refine step c (List.mem_of_getElem? hi2) _ h1 _ _ (fun y hy H2 s2 => ?_) (fun hy H2 s2 => ?_)
    · refine ⟨_, s2 _ _ h2, Nat.lt_of_lt_of_le (Nat.lt_of_le_of_lt (List.length_filterMap_le _ _) (by rw [List.length_take]; omega : (l.take i).length < l.length)) (sz _ hz2), fun b o hb => ?_, ?_⟩
      · rw [upd_ne (ne_of_none hb hD)]
        exact s2 _ _ (h1 _ _ hb)
      · rw [upd_same, take_snoc hi2, filterMap_snoc, hy]
    · refine ⟨h1.trans s2, ?_⟩
      rw [s2 _ _ h2, take_snoc hi2, filterMap_snoc, hy, List.append_nil]
  · rw [hn, List.take_length] at h
    exact hq D H hD h.1 h.2
end
theorem tMS_e {r : V → List V → Hp → VK → Prop} {to : TE} {t : TA} {σ : L2.St} {H : Hp} {Q : VK} : tMS r to t σ H Q = to σ H fun x H1 => match x with
  | .str z => t σ H1 fun vs H2 => r (.str z) vs H2 Q
  | _ => False := rfl
theorem lstv_chg {K : PySem.W.Frag} {H H' : Hp} {p st : Addr} {xs : List V} (s : ∀ b o, b ≠ st → H b = some o → H' b = some o) (ne : p ≠ st) (ap : Apart K H') (h : lstv K H p = some xs) : lstv K H' p = some xs := by
  unfold lstv at h
  split at h
  · cases h; exact lstv_of (s _ _ ne ‹_›)
  · cases h; exact lstv_frz (s _ _ ne ‹_›)
  · obtain ⟨o, q⟩ := klst_in h
    unfold lstv
    rw [ap _ _ q]
    exact h
  · cases h
theorem lstv_ne {K : PySem.W.Frag} {H H' : Hp} {a p : Addr} {xs : List V} {o : HO} (hp : H p = none) (e : H' p = some o) (ap : Apart K H') (h : lstv K H a = some xs) : a ≠ p := by
  rintro rfl
  unfold lstv at h
  rw [hp] at h
  obtain ⟨o', q⟩ := klst_in h
  rw [ap _ _ q] at e
  cases e
theorem rIs_e {x : V} {H : Hp} {Q : VK} : rIsU x .non H Q = Q (.bl (decide (x = .non))) H := by cases x <;> rfl
theorem rIsN_e {x : V} {H : Hp} {Q : VK} : rIsNU x .non H Q = Q (.bl (!decide (x = .non))) H := by cases x <;> rfl
/-! ### dicts -/
theorem u1 {n c : Nat} (h : n + 64 < c) : n + 1 < c := by omega
/-- o[i] = v of a list or a dict -/
def rSetU : TSet := fun o i v H Q => match o with
  | .ref p => (match H p with
    | some (.lst xs) => (match i with
      | .int k => (match ixN xs.length k with
        | some j => Q (upd H p (.lst (xs.set j v)))
        | none => False)
      | _ => False)
    | some (.dK kvs) => ∃ k, i = kV k ∧ kvs.length < sizeLine ∧ Q (upd H p (.dK (putK kvs k v)))
    | _ => False)
  | _ => False
theorem set_U {X : Cx} (hu : X.A.units + 1 < cLine) : PSet X rSetU := by
  intro pins s σ H o i v ov iv u Q I ro ri rv h
  unfold rSetU at h
  split at h
  · split at h
    · split at h
      · split at h
        · exact set_list pins s σ H _ _ v ov iv u Q I ro ri rv ⟨_, _, _, _, rfl, rfl, ‹_›, ‹_›, h⟩
        · exact h.elim
      · exact h.elim
    · obtain ⟨k, rfl, hz, q⟩ := h
      exact set_dict hu pins s σ H _ _ v ov iv u Q I ro ri rv ⟨_, _, rfl, DPut.k ‹_› hz, q⟩
    · exact h.elim
  · exact h.elim
theorem rSetU_lst {p : Addr} {k : Int} {v : V} {H : Hp} {Q : Hp → Prop} {xs : List V} (h : H p = some (.lst xs)) : rSetU (.ref p) (.int k) v H Q = (match ixN xs.length k with
      | some j => Q (upd H p (.lst (xs.set j v)))
      | none => False) := by unfold rSetU; simp only [h]
theorem rSetU_str {p : Addr} {k : Str} {v : V} {H : Hp} {Q : Hp → Prop} {kvs : List (Key × V)} (h : H p = some (.dK kvs)) (hz : kvs.length < sizeLine) (q : Q (upd H p (.dK (putK kvs (.inr k) v)))) : rSetU (.ref p) (.str k) v H Q := by
  unfold rSetU
  simp only [h]
  exact ⟨.inr k, rfl, hz, q⟩
theorem dget_k {H : Hp} {p : Addr} {kvs : List (Key × V)} {k : Key} {v : V} (e : H p = some (.dK kvs)) (hv : valV kvs k = some v) : DGet H p (kV k) (some v) := hv ▸ DGet.k e
theorem tPairs_nil {σ : L2.St} {H : Hp} {Q : List (V × V) → Hp → Prop} : tPairs [] σ H Q = Q [] H := rfl
theorem tPairs_cons {tk tv : TE} {r : List (TE × TE)} {σ : L2.St} {H : Hp} {Q : List (V × V) → Hp → Prop} : tPairs ((tk, tv) :: r) σ H Q = tk σ H fun x H1 => tv σ H1 fun y H2 => tPairs r σ H2 fun ps H3 => Q ((x, y) :: ps) H3 := rfl
/-- list(d.values()) -/
def tListVals (te : TE) : TE := fun σ H Q => te σ H fun x H1 => match x with
  | .ref d => (match H1 d with
    | some (.dK kvs) => Nw H1 (.lst (kvs.map (·.2))) Q
    | _ => False)
  | _ => False
theorem vals_of_kv : ∀ {kvs : List (Key × V)} {vs : List (Key × Value)}, KV kvs vs → Vals (kvs.map (·.2)) (vs.map (·.2)) := by
  intro kvs vs h
  unfold KV at h
  induction h with
  | nil => exact .nil
  | cons h t ih => exact .cons h.2 ih
section
variable {X : Cx} {e : Expr} {te : TE} {p apos cpos pos : Pos}
theorem pe_listVals (hc : X.calm = true) (he : PE X e te) (hg : Gl X "list") (hm : X.mg "list" = none) (hv : bootBuiltins "list" = some (.type "list")) (hbase : attributeBase e "values" X.env (eval e X.env) = eval e X.env := by rfl) (hline : (apos.endLine == cpos.line) = true := by rfl)
    (hs : starEach [.Call (.Attribute e "values" apos) [] [] cpos] X.env = (false, eval (.Call (.Attribute e "values" apos) [] [] cpos) X.env) :: starEach [] X.env := by rfl) :
    PE X (.Call (.Name "list" p) [.Call (.Attribute e "values" apos) [] [] cpos] [] pos) (tListVals te) := by
  refine ⟨fun pins s σ H Q I hq => ?_⟩
  refine wpAny_Call_Name_kw (ld_blt I hg hm hv ?_)
  refine PyProof.Rows.callWith_type1 ?_ hs rfl
  rw [hs]
  show wpAny _ _ (spliced ((false, eval (.Call (.Attribute e "values" apos) [] [] cpos) X.env) :: backTo pos (starEach [] X.env))) _ _ s
  refine Calls.spliced_cons ?_
  refine wpAny_Call_method (T := "dict") (id := "dict.values") hbase rfl hline PySem.F.plainAttrs_dict PySem.F.slot_dict_values PySem.F.type_dict_values (thn ((peCl he).run pins s σ H _ I ⟨_, hq, fun _ _ z => z⟩) fun u s1 ⟨x, H1, I1, rx, q⟩ => ?_)
  dsimp only at q
  split at q
  · rename_i d
    split at q
    · rename_i kvs hd
      obtain rfl : u = Value.ref d := rx
      obtain ⟨hz, hs0, vs, kv, hdo⟩ := I1.hok d _ hd
      obtain ⟨ep, hat⟩ := hdo.dictAt
      have lk : kvs.length = vs.length := Paired.length kv
      have I2 : Inv X pins σ H1 { s1 with heap := s1.heap.push { cls := .type "dict_values", data := .fields #[.ref d] } } := I1.kept (t' := s1.toks) fun b ob q => Heap.get?_push_of_some _ q
      refine ⟨hdo.typeIs, hdo.mapOf.noDict, ?_⟩
      show wpAny _ _ (callWith cpos (.builtin "dict.values") [.ref d] [] []) _ X.xe s1
      refine method_meetsIn PySem.F.slot_dict_values PySem.F.entry_dict_values rfl (PySem.evalArgs_none ⟨rfl, hdo.typeIs, PySem.F.args_dict_values_1 _, _, meets_dict_values (mixKind X.prog X.w) d hs0, ⟨vs, hdo⟩, ?_⟩)
      refine Calls.spliced_nil ?_
      refine PySem.W.kdl_call (PySem.W.kdl_values (knd := mixKind X.prog X.w) (kvs := vs) (ep := ep)) (I1.ok.hd hc) ⟨⟨_, Heap.get?_push_size _ rfl, rfl, rfl⟩, hat.push _⟩ (by omega) fun h' tk acc c' hk hD hacc => ?_
      have ev : acc.toList = vs.map (·.2) := PySem.W.kdl_vals_eq acc.toList (by rw [Array.length_toList]; exact hacc.1) fun j v e => hacc.2 j v (by rw [← Array.getElem?_toList]; exact e)
      have fr := I2.hok.fresh (Nat.le_refl _)
      refine ⟨.ref _, upd H1 _ (.lst (kvs.map (·.2))), I2.laid (t' := tk) hk (Nat.le_refl _)
        (show ObjOk X.prog X.w _ _ _ (.lst (kvs.map (·.2))) from ⟨by rw [List.length_map]; exact hz, acc.toList, c', by rw [ev]; exact vals_of_kv kv, by rw [Array.toArray_toList]; exact hD⟩), rfl, q _ fr⟩
    · exact q.elim
  · exact q.elim
end
/-- l.index(y) of flat items -/
noncomputable def rIndexU (K : PySem.W.Frag) : V → List V → Hp → VK → Prop := fun x xs H Q => match x, xs with
  | .ref p, [y] => (match lstv K H p with
    | some ys => ∃ j z, flatV y = true ∧ ys.all flatV = true ∧ ys[j]? = some z ∧ eqV z y = true ∧ (∀ m z', m < j → ys[m]? = some z' → eqV z' y = false) ∧ Q (.int (j : Nat)) H
    | none => False)
  | _, _ => False
section
variable {X : Cx} {o e : Expr} {es : List Expr} {to : TE} {t : TA} {apos pos : Pos}
theorem pe_lindex (ho : PE X o to) (ha : PA X (e :: es) t)
    (hb : attributeBase o "index" X.env (eval o X.env) = eval o X.env := by rfl)
    (hf : ((backTo pos (starEach (e :: es) X.env)).all (fun x => !x.1) && (backToKw pos (keywordEach [] X.env)).all (fun x => x.1.isSome) && decide ((e :: es).length + ([] : List Keyword).length + (if ([] : List Keyword).isEmpty then 0 else 1) < 30)) = true := by rfl)
    (hl : (apos.endLine == pos.line) = true := by rfl) (hs : starEach (e :: es) X.env = (false, eval e X.env) :: starEach es X.env := by rfl) (hp : (backTo pos (starEach es X.env)).any (·.1) = false := by rfl) :
    PE X (.Call (.Attribute o "index" apos) (e :: es) [] pos) (tML X.K (rIndexU X.K) to t) := pe_ml PySem.F.slot_list_index PySem.F.type_list_index (mtImp mt_index fun x xs H Q q => by
      unfold rIndexU at q
      split at q
      · split at q
        · obtain ⟨j, z, h1, h2, h3, h4, h5, q⟩ := q
          exact ⟨_, _, _, j, z, rfl, rfl, lstv_sq ‹_›, h1, h2, h3, h4, h5, q⟩
        · exact q.elim
      · exact q.elim) ho ha hb hf hl hs hp
end
def rIsNB : R2 := fun x y H Q => match x, y with
  | .bl a, .bl b => Q (.bl (!decide (a = b))) H
  | _, _ => False
theorem u_isNB {X : Cx} : OpR X (compareOp .IsNot) rIsNB := opImp op_isnot_bl fun x y H Q q => by
  cases x <;> cases y <;> first | exact q.elim | exact ⟨_, _, rfl, rfl, q⟩
theorem rIsNB_e {a b : Bool} {H : Hp} {Q : VK} : rIsNB (.bl a) (.bl b) H Q = Q (.bl (!decide (a = b))) H := rfl
def rIsBB : R2 := fun x y H Q => match x, y with
  | .bl a, .bl b => Q (.bl (decide (a = b))) H
  | _, _ => False
theorem u_isBB {X : Cx} : OpR X (compareOp .Is) rIsBB := opImp op_is_bl fun x y H Q q => by
  cases x <;> cases y <;> first | exact q.elim | exact ⟨_, _, rfl, rfl, q⟩
theorem rIsBB_e {a b : Bool} {H : Hp} {Q : VK} : rIsBB (.bl a) (.bl b) H Q = Q (.bl (decide (a = b))) H := rfl
theorem bt_ValueError : bootBuiltins "ValueError" = some (.type "ValueError") := by decide +kernel
theorem rIsX_t {K : PySem.W.Frag} {a C d : Addr} {T : String} {fs : List (Str × V)} {b : Bool} {H : Hp} {Q : VK} (hd : H d = some (.xd fs)) (hx : ExcC K C) (hk : PySem.W.kitOne K (.ref C) (.type T) = some b) (q : Q (.bl b) H) : rIsX K a (.ref C) (some d) [.ref a, .ty T] H Q := by
  refine ⟨rfl, C, d, fs, rfl, rfl, hd, hx, ?_⟩
  rw [hk]
  exact q
end R

/-! texts as octets: plain law -/
namespace N62
open PySem
def S (l : List Nat) : Str := ⟨l.toArray⟩
theorem S_app (a b : List Nat) : S a ++ S b = S (a ++ b) := Str.ext' (by rw [Str.cps_append]; simp [S])
theorem S_len (a : List Nat) : (S a).length = a.length := by simp [S, Str.length]
theorem S_inj {a b : List Nat} : S a = S b ↔ a = b := by
  constructor
  · intro h
    have := congrArg (fun x : Str => x.cps.toList) h
    simpa [S] using this
  · intro h; rw [h]
theorem S_cps (a : List Nat) : (S a).cps.toList = a := rfl
theorem S_one (c : Nat) : (⟨#[c]⟩ : Str) = S [c] := rfl
theorem S_of (z : Str) : z = S z.cps.toList := Str.ext' (by simp [S])
abbrev PL : Str := "abcdefghijklmnopqrstuvwxyzABCDEFGHIJKLMNOPQRSTUVWXYZ0123456789-_."
abbrev HX : Str := "0123456789abcdef"
abbrev BF : Str := " !\"#$"
abbrev BH : Str := "&'()*+,-./0123456789:;<=>?@ABCDEFGHIJKLMNOPQRSTUVWXYZ[\\]^_`abcdefghijklmnopqrstuvwxyz{|}~"
abbrev G0 : Str := " !#$&'()*+,-./0123456789:;<=>?@ABCDEFGHIJKLMNOPQRSTUVWXYZ[]^_`abcdefghijklmnopqrstuvwxyz{|}~"
def SG0 : List Nat := G0.cps.toList ++ [34] ++ [92]
def SG : List Nat := SG0 ++ [10, 9]
def plain (c : Nat) : Bool := decide (c ∈ PL.cps.toList)
def ishex (c : Nat) : Bool := decide (c ∈ HX.cps.toList)
def hx (n : Nat) : Nat := HX.cps.toList.getD n 0
def hv (c : Nat) : Nat := if c < 97 then c - 48 else c - 87
def okc (c : Nat) : Bool := c == 9 || c == 10 || (decide (32 ≤ c) && decide (c ≤ 126) && c != 37)
def esc1 (c : Nat) : List Nat := if plain c then [c] else [126, hx (c / 16), hx (c % 16)]
def esc (l : List Nat) : List Nat := l.flatMap esc1
theorem okc_lt {c : Nat} (h : okc c = true) : c < 127 := by
  unfold okc at h
  simp at h
  omega
theorem at_S (l : List Nat) (i : Nat) (c : Nat) (h : l[i]? = some c) : L2.atI (S l).cps.toList (i : Int) = some c := by
  have hi : i < l.length := (List.getElem?_eq_some_iff.mp h).1
  unfold L2.atI L2.ixN
  rw [S_cps, if_pos (by omega), if_pos (by omega)]
  simpa using h
/-! facts told by looking at all signs -/
theorem f_bf : ∀ c < 37, 32 ≤ c → (Builtin.Str.occurrences BF ⟨#[c]⟩ 0 BF.length 1) = [c - 32] := by decide +kernel
theorem f_bf0 : ∀ c < 127, 32 ≤ c → decide (c ∈ BF.cps.toList) = decide (c < 37) := by decide +kernel
theorem f_bf2 (c : Nat) (h : c < 127) (h2 : 32 ≤ c) : R.inS (S [c]) BF = decide (c < 37) := by
  rw [← S_one, R.inS_one]
  exact f_bf0 c h h2
theorem f_pl (c : Nat) : R.inS (S [c]) PL = plain c := by rw [← S_one, R.inS_one]; rfl
theorem f_ishex (c : Nat) : R.inS (S [c]) HX = ishex c := by rw [← S_one, R.inS_one]; rfl
theorem f_bh : ∀ c < 127, 37 < c → (Builtin.Str.occurrences BH ⟨#[c]⟩ 0 BH.length 1).head? = some (c - 38) := by decide +kernel
theorem f_hxi : ∀ c < 127, ishex c = true → (Builtin.Str.occurrences HX ⟨#[c]⟩ 0 HX.length 1).head? = some (hv c) := by decide +kernel
theorem hex_lt : ∀ c ∈ HX.cps.toList, c < 127 ∧ hv c < 16 := by decide +kernel
theorem f_hx : ∀ n : Nat, n < 16 → L2.atI HX.cps.toList (n : Int) = some (hx n) := by decide +kernel
theorem f_cbf : ∀ n : Nat, n < 5 → L2.atI BF.cps.toList (n : Int) = some (n + 32) := by decide +kernel
theorem f_cbh : ∀ n : Nat, n < 89 → L2.atI BH.cps.toList (n : Int) = some (n + 38) := by decide +kernel
theorem l_bf : BF.length = 5 := by decide +kernel
theorem l_bh : BH.length = 89 := by decide +kernel
theorem l_hx : HX.length = 16 := by decide +kernel
theorem sg_ok : ∀ c ∈ SG, okc c = true := by decide +kernel
theorem pl_lt : ∀ c ∈ PL.cps.toList, c < 256 ∧ c ≠ 126 := by decide +kernel
theorem plain_lt {c : Nat} (h : plain c = true) : c < 256 ∧ c ≠ 126 := pl_lt c (of_decide_eq_true h)
theorem p126 : plain 126 = false := by decide +kernel
theorem join_S : ∀ l : List Nat, Txt.join (S []) (l.map fun c => S [c]) = S l := by
  intro l
  rw [TL.join_eq]
  induction l with
  | nil => rfl
  | cons c l ih =>
    cases l with
    | nil => rfl
    | cons d l =>
      show S [c] ++ S [] ++ Str.join (S []) ((d :: l).map fun c => S [c]) = _
      rw [ih, S_app, S_app]
      rfl
def AL : List Nat := [10, 9] ++ (List.range 5).map (· + 32) ++ (List.range 89).map (· + 38)
abbrev fk (c : Nat) : L2.Key × L2.V := (.inr (S [c]), .int c)
def CD : List (L2.Key × L2.V) := AL.map fk
theorem cd_get : ∀ c < 127, okc c = true → L2.valV CD (.inr (S [c])) = some (.int c) := by decide +kernel
theorem al_ok : ∀ c ∈ AL, okc c = true := by decide +kernel
theorem al_in : ∀ c : Nat, c < 256 → L2.inV (.int c) (AL.map fun n : Nat => L2.V.int n) = okc c := by decide +kernel
theorem al_ix : ∀ c < 127, okc c = true → AL.idxOf c < 96 ∧ AL[AL.idxOf c]? = some c ∧ ∀ m < AL.idxOf c, AL[m]? ≠ some c := by decide +kernel
theorem al_len : AL.length = 96 := by decide +kernel
theorem cd_len : CD.length = 96 := by decide +kernel
theorem put_fk (l : List Nat) (c : Nat) (h : c ∉ l) : L2.putK (l.map fk) (.inr (S [c])) (.int c) = (l ++ [c]).map fk := by
  unfold L2.putK
  rw [if_neg, List.map_append]
  · rfl
  · rw [List.any_map]
    simp only [Function.comp, List.any_eq_true, decide_eq_true_eq, not_exists, not_and]
    intro x hx e
    have := Sum.inr.inj e
    rw [S_inj] at this
    simp at this
    exact h (this ▸ hx)
theorem idx_first (ns : List Nat) (i c : Nat) (h : ns[i]? = some c) (hi : (ns.take i).all okc = true) (hc : okc c = false) : ns.findIdx (fun c => !okc c) = i := by
  have hl : i < ns.length := (List.getElem?_eq_some_iff.mp h).1
  have hg : ns[i] = c := (List.getElem?_eq_some_iff.mp h).2
  rw [List.findIdx_eq hl]
  refine ⟨by rw [hg, hc]; rfl, fun j hj => ?_⟩
  have : ns[j]'(by omega) ∈ ns.take i := by
    rw [List.mem_take_iff_getElem]
    exact ⟨j, by omega, rfl⟩
  have := List.all_eq_true.mp hi _ this
  simp [this]
end N62

namespace My
open PySem PySem.Spec PyProof.Rows L2 R
/-! ### the text by places -/
def top (i : Nat) : Stmt := PySem.Challenge.pw_formstripes_k01_texts_as_octets.main.body.getD i (.Pass ⟨0, 0, 0, 0⟩)
abbrev s_is_text : Stmt := top 10
abbrev N_is_text : List Str := ["text", "char"]
theorem sc_is_text : FnScope N_is_text ["text"] (defScope s_is_text) := ⟨rfl, rfl, rfl, by decide +kernel, rfl, by decide +kernel, by decide +kernel⟩
abbrev s_char_of : Stmt := top 11
abbrev N_char_of : List Str := ["code"]
theorem sc_char_of : FnScope N_char_of ["code"] (defScope s_char_of) := ⟨rfl, rfl, rfl, by decide +kernel, rfl, by decide +kernel, by decide +kernel⟩
abbrev s_code_of : Stmt := top 12
abbrev N_code_of : List Str := ["char"]
theorem sc_code_of : FnScope N_code_of ["char"] (defScope s_code_of) := ⟨rfl, rfl, rfl, by decide +kernel, rfl, by decide +kernel, by decide +kernel⟩
abbrev s_encode_text : Stmt := top 13
abbrev N_encode_text : List Str := ["text", "char"]
theorem sc_encode_text : FnScope N_encode_text ["text"] (defScope s_encode_text) := ⟨rfl, rfl, rfl, by decide +kernel, rfl, by decide +kernel, by decide +kernel⟩
abbrev s_decode_text : Stmt := top 14
abbrev N_decode_text : List Str := ["octets", "chars", "at", "char"]
theorem sc_decode_text : FnScope N_decode_text ["octets"] (defScope s_decode_text) := ⟨rfl, rfl, rfl, by decide +kernel, rfl, by decide +kernel, by decide +kernel⟩
abbrev s__law_draw : Stmt := top 16
abbrev N__law_draw : List Str := ["cell", "many", "bound", "numbers", "k", "seed", "mixed"]
theorem sc__law_draw : FnScope N__law_draw ["cell", "many", "bound"] (defScope s__law_draw) := ⟨rfl, rfl, rfl, by decide +kernel, rfl, by decide +kernel, by decide +kernel⟩
abbrev s__law_is_integer : Stmt := top 17
abbrev N__law_is_integer : List Str := ["actual"]
theorem sc__law_is_integer : FnScope N__law_is_integer ["actual"] (defScope s__law_is_integer) := ⟨rfl, rfl, rfl, by decide +kernel, rfl, by decide +kernel, by decide +kernel⟩
abbrev s__law_same : Stmt := top 18
abbrev N__law_same : List Str := ["actual", "expected", "k"]
theorem sc__law_same : FnScope N__law_same ["actual", "expected"] (defScope s__law_same) := ⟨rfl, rfl, rfl, by decide +kernel, rfl, by decide +kernel, by decide +kernel⟩
abbrev s__law_alphabet : Stmt := top 19
abbrev N__law_alphabet : List Str := ["signs", "later", "codes", "k"]
theorem sc__law_alphabet : FnScope N__law_alphabet [] (defScope s__law_alphabet) := ⟨rfl, rfl, rfl, by decide +kernel, rfl, by decide +kernel, by decide +kernel⟩
abbrev s__law_told : Stmt := top 20
abbrev N__law_told : List Str := ["octets", "error"]
theorem sc__law_told : FnScope N__law_told ["octets"] (defScope s__law_told) := ⟨rfl, rfl, rfl, by decide +kernel, rfl, by decide +kernel, by decide +kernel⟩
abbrev s_law : Stmt := top 21
abbrev N_law : List Str := ["script", "codes", "signs", "cell", "numbers", "text", "octets", "due", "k", "handed", "number", "sign", "octet"]
theorem sc_law : FnScope N_law ["script"] (defScope s_law) := ⟨rfl, rfl, rfl, by decide +kernel, rfl, by decide +kernel, by decide +kernel⟩
/-- the written part, the classes -/
abbrev s_FormstripesError___init__ : Stmt := inClass (top 1) 0
abbrev s_InvalidJson___init__ : Stmt := inClass (top 3) 0
abbrev s_InvalidText___init__ : Stmt := inClass (top 2) 0
structure GG where
  K : PySem.W.Frag
  c_FormstripesError : Addr
  c_InvalidJson : Addr
  c_InvalidText : Addr
structure Top (P : Program) (w : World) (G : GG) (mg : Str → Option Value) (base : Heap) : Prop where
  triv : True
  n_ValueError : mg "ValueError" = none
  n_bool : mg "bool" = none
  n_int : mg "int" = none
  n_isinstance : mg "isinstance" = none
  n_len : mg "len" = none
  n_list : mg "list" = none
  n_range : mg "range" = none
  c_BEFORE : Cst mg "BEFORE" (.str " !\"#$")
  c_BEHIND : Cst mg "BEHIND" (.str "&'()*+,-./0123456789:;<=>?@ABCDEFGHIJKLMNOPQRSTUVWXYZ[\\]^_`abcdefghijklmnopqrstuvwxyz{|}~")
  c_FIRST_BEHIND : Cst mg "FIRST_BEHIND" (.int 38)
  c_LINE_FEED : Cst mg "LINE_FEED" (.int 10)
  c_TAB : Cst mg "TAB" (.int 9)
  cl_FormstripesError : mg "FormstripesError" = some (.ref G.c_FormstripesError)
  cl_InvalidJson : mg "InvalidJson" = some (.ref G.c_InvalidJson)
  cl_InvalidText : mg "InvalidText" = some (.ref G.c_InvalidText)
  e_InvalidText : KinE P w G.K mg base "InvalidText" G.c_InvalidText G.c_FormstripesError "InvalidText"
  xf_InvalidText : XfC G.K G.c_InvalidText
  xc_InvalidText : ExcC G.K G.c_InvalidText
  np_InvalidText : PySem.W.findIn G.K (.ref G.c_InvalidText) "place" = some none
  kv_InvalidText : PySem.W.kitOne G.K (.ref G.c_InvalidText) (.type "ValueError") = some true
  nn_InvalidText : PySem.W.findIn G.K (.ref G.c_InvalidText) "name" = some none
  em_InvalidText_FormstripesError : PySem.W.exmOne G.K (.ref G.c_InvalidText) (.ref G.c_FormstripesError) = some true
  ko_InvalidText_FormstripesError : PySem.W.kitOne G.K (.ref G.c_InvalidText) (.ref G.c_FormstripesError) = some true
  em_InvalidText_InvalidJson : PySem.W.exmOne G.K (.ref G.c_InvalidText) (.ref G.c_InvalidJson) = some false
  ko_InvalidText_InvalidJson : PySem.W.kitOne G.K (.ref G.c_InvalidText) (.ref G.c_InvalidJson) = some false
  em_InvalidText_InvalidText : PySem.W.exmOne G.K (.ref G.c_InvalidText) (.ref G.c_InvalidText) = some true
  ko_InvalidText_InvalidText : PySem.W.kitOne G.K (.ref G.c_InvalidText) (.ref G.c_InvalidText) = some true
/-! ### promises -/
open N62
def NL (H : Hp) (Q : VK) (ns : List Nat) : Prop := ∀ p H', Same H H' → H' p = some (.lst (octs ns)) → Q (.ref p) H'
abbrev fbad (ns : List Nat) : Nat := ns.findIdx fun c => !okc c
def sp_is_text (_ : GG) : Sp := fun vs H Q _ => ∃ l, vs = [.str (S l)] ∧ (∀ c ∈ l, okc c = true) ∧ ∀ H', Same H H' → Q (.bl true) H'
def sp_char_of (_ : GG) : Sp := fun vs H Q _ => ∃ c : Nat, vs = [.int c] ∧ c < 256 ∧ Q (if okc c = true then .str (S [c]) else .non) H
def sp_code_of (_ : GG) : Sp := fun vs H Q _ => ∃ c : Nat, vs = [.str (S [c])] ∧ okc c = true ∧ Q (.int c) H
def sp_encode_text (_ : GG) : Sp := fun vs H Q _ => ∃ l, vs = [.str (S l)] ∧ (∀ c ∈ l, okc c = true) ∧ l.length ≤ 1000 ∧ NL H Q l
noncomputable def sp_decode_text (G : GG) : Sp := fun vs H Q E => ∃ (a : Addr) (ns : List Nat), vs = [.ref a] ∧ H a = some (.lst (octs ns)) ∧ (∀ c ∈ ns, c < 256) ∧ ns.length ≤ 1000 ∧ (ns.all okc = true → ∀ H', Same H H' → Q (.str (S ns)) H') ∧
  (ns.all okc = false → ∀ d H', Same H H' → H' d = some (.xd [("name", .str "InvalidText"), ("place", .int (fbad ns : Nat))]) → E (.ref G.c_InvalidText) (some d) H')
noncomputable def sp__law_told (G : GG) : Sp := fun vs H Q _ => ∃ (a : Addr) (ns : List Nat), vs = [.ref a] ∧ H a = some (.lst (octs ns)) ∧ (∀ c ∈ ns, c < 256) ∧ ns.length ≤ 1000 ∧ (ns.all okc = true → ∀ H', Same H H' → Q (.str (S ns)) H') ∧
  (ns.all okc = false → ∀ q H', Same H H' → H' q = some (.tup [.str "InvalidText", .int (fbad ns : Nat)]) → Q (.ref q) H')
def sp__law_is_integer (_ : GG) : Sp := fun vs H Q _ => ∃ i, vs = [.int i] ∧ Q (.bl true) H
noncomputable def sp__law_same (G : GG) : Sp := fun vs H Q _ => ∃ (a b : Addr) (ns : List Nat), vs = [.ref a, .ref b] ∧ ns.length ≤ 100 ∧ H a = some (.lst (octs ns)) ∧ H b = some (.lst (octs ns)) ∧ Q (.bl true) H
def sp__law_draw (_ : GG) : Sp := fun vs H Q _ => ∃ (cell b : Int), vs = [.int cell, .int 25, .int b] ∧ b = 1048576 ∧ ∀ ns : List Nat, ns.length = 25 → (∀ n ∈ ns, n < 1048576) → NL H Q ns
def sp__law_alphabet (_ : GG) : Sp := fun vs H Q _ => vs = [] ∧ ∀ p H', Same H H' → H' p = some (.dK CD) → Q (.ref p) H'
noncomputable abbrev sp_law : GG → Sp := fun G => spLaw G.K

noncomputable def t_is_text_1 (G : GG) : TS := tAp G.K (tIfS (tAnd (tTest (tOp (rInU G.K true) (tVar 1) (tC (.str " !\"#$")))) (tAnd (tTest (tOp (rInU G.K true) (tVar 1) (tC (.str "&'()*+,-./0123456789:;<=>?@ABCDEFGHIJKLMNOPQRSTUVWXYZ[\\]^_`abcdefghijklmnopqrstuvwxyz{|}~")))) (tTest (tOp (rInU G.K true) (tVar 1) (tLst (tCons (tC (.str "\n")) (tCons (tC (.str "\t")) tNil))))))) (tRet (tC (.bl false))) tNext)
noncomputable def t_is_text_2 (G : GG) : TS := tAp G.K (tRet (tC (.bl true)))
noncomputable def t_is_text (G : GG) : TS := tAp G.K (tSeq (tForU (iSt (tVar 0)) (gName 1) (t_is_text_1 G))
    (t_is_text_2 G))
theorem dv_is_text {P : Program} {w : World} {G : GG} {mg : Str → Option Value} {base : Heap} {f : Addr} {cdv : Value} {A : Around} {outer : List Env} {s : Shared} {H : Hp} {E : XK} (T : Top P w G mg base) (hr : Room 0 (A.deeper (envOfC "is_text" (defScope s_is_text) s.heap.objs.size f cdv))) :
    PSs (cxOf CX0 P w G.K mg base N_is_text "is_text" (defScope s_is_text) f cdv A outer s H E).nox (defBody s_is_text) (t_is_text G) :=
  (pssAp (pss_cons (ps_for PassesOwn.never rfl (pi_st (pv 0)) (pg_name (i := 1) sc_is_text.nd rfl (Or.inl rfl)) (pssAp (pss_one (ps_if (PW.pt (pw_and (pt_cmpR u_nin (pv 1) (pe_cst T.c_BEFORE rfl) rfl) (pw_and (pt_cmpR u_nin (pv 1) (pe_cst T.c_BEHIND rfl) rfl) (pw_and1 (pt_cmpR u_nin (pv 1) (pe_lst (pa_cons pe_str (pa_cons pe_str pa_nil))) rfl))))) (pss_one (ps_ret pe_bl)) pss_nil))))
    (pssAp (pss_one (ps_ret pe_bl)))))
noncomputable def t_char_of_1 (G : GG) : TS := tAp G.K (tRet (tC .non))
noncomputable def t_char_of_2 (G : GG) : TS := tAp G.K (tSeq (tIfS (tTest (tOp (rEqU G.K) (tVar 0) (tC (.int 9)))) (tRet (tC (.str "\t"))) tNext)
    (t_char_of_1 G))
noncomputable def t_char_of_3 (G : GG) : TS := tAp G.K (tSeq (tIfS (tTest (tOp (rEqU G.K) (tVar 0) (tC (.int 10)))) (tRet (tC (.str "\n"))) tNext)
    (t_char_of_2 G))
noncomputable def t_char_of_4 (G : GG) : TS := tAp G.K (tSeq (tIfS (tTest (tChain rLeU rLtU (tC (.int 38)) (tVar 0) (tOp rAddU (tC (.int 38)) (tCB (rLenU G.K) (tCons (tC (.str "&'()*+,-./0123456789:;<=>?@ABCDEFGHIJKLMNOPQRSTUVWXYZ[\\]^_`abcdefghijklmnopqrstuvwxyz{|}~")) tNil))))) (tRet (tOp (rIxU G.K) (tC (.str "&'()*+,-./0123456789:;<=>?@ABCDEFGHIJKLMNOPQRSTUVWXYZ[\\]^_`abcdefghijklmnopqrstuvwxyz{|}~")) (tOp rSubI (tVar 0) (tC (.int 38))))) tNext)
    (t_char_of_3 G))
noncomputable def t_char_of (G : GG) : TS := tAp G.K (tSeq (tIfS (tTest (tChain rLeU rLtU (tC (.int 32)) (tVar 0) (tOp rAddU (tC (.int 32)) (tCB (rLenU G.K) (tCons (tC (.str " !\"#$")) tNil))))) (tRet (tOp (rIxU G.K) (tC (.str " !\"#$")) (tOp rSubI (tVar 0) (tC (.int 32))))) tNext)
    (t_char_of_4 G))
theorem dv_char_of {P : Program} {w : World} {G : GG} {mg : Str → Option Value} {base : Heap} {f : Addr} {cdv : Value} {A : Around} {outer : List Env} {s : Shared} {H : Hp} {E : XK} (T : Top P w G mg base) (hr : Room 0 (A.deeper (envOfC "char_of" (defScope s_char_of) s.heap.objs.size f cdv))) :
    PSs (cxOf CX0 P w G.K mg base N_char_of "char_of" (defScope s_char_of) f cdv A outer s H E).nox (defBody s_char_of) (t_char_of G) :=
  (pssAp (pss_cons (ps_if (pt_chain u_le u_lt pe_int (pv 0) (pe_op u_add pe_int (pe_callB c_len rfl T.n_len bt_len (pa_cons (pe_cst T.c_BEFORE rfl) pa_nil)))) (pss_one (ps_ret (pe_ix u_ix (pe_cst T.c_BEFORE rfl) (pe_op u_sub (pv 0) pe_int) (fun _ _ => rfl)))) pss_nil)
    (pssAp (pss_cons (ps_if (pt_chain u_le u_lt (pe_cst T.c_FIRST_BEHIND rfl) (pv 0) (pe_op u_add (pe_cst T.c_FIRST_BEHIND rfl) (pe_callB c_len rfl T.n_len bt_len (pa_cons (pe_cst T.c_BEHIND rfl) pa_nil)))) (pss_one (ps_ret (pe_ix u_ix (pe_cst T.c_BEHIND rfl) (pe_op u_sub (pv 0) (pe_cst T.c_FIRST_BEHIND rfl)) (fun _ _ => rfl)))) pss_nil)
    (pssAp (pss_cons (ps_if (pt_cmpR (u_eq hr.units) (pv 0) (pe_cst T.c_LINE_FEED rfl) rfl) (pss_one (ps_ret pe_str)) pss_nil)
    (pssAp (pss_cons (ps_if (pt_cmpR (u_eq hr.units) (pv 0) (pe_cst T.c_TAB rfl) rfl) (pss_one (ps_ret pe_str)) pss_nil)
    (pssAp (pss_one (ps_ret pe_non)))))))))))
noncomputable def t_code_of_1 (G : GG) : TS := tAp G.K (tRet (tOp rAddU (tC (.int 38)) (tMS rSidx (tC (.str "&'()*+,-./0123456789:;<=>?@ABCDEFGHIJKLMNOPQRSTUVWXYZ[\\]^_`abcdefghijklmnopqrstuvwxyz{|}~")) (tCons (tVar 0) tNil))))
noncomputable def t_code_of_2 (G : GG) : TS := tAp G.K (tSeq (tIfS (tTest (tOp (rInU G.K false) (tVar 0) (tC (.str " !\"#$")))) (tRet (tOp rAddU (tC (.int 32)) (tMS rSidx (tC (.str " !\"#$")) (tCons (tVar 0) tNil)))) tNext)
    (t_code_of_1 G))
noncomputable def t_code_of_3 (G : GG) : TS := tAp G.K (tSeq (tIfS (tTest (tOp (rEqU G.K) (tVar 0) (tC (.str "\t")))) (tRet (tC (.int 9))) tNext)
    (t_code_of_2 G))
noncomputable def t_code_of (G : GG) : TS := tAp G.K (tSeq (tIfS (tTest (tOp (rEqU G.K) (tVar 0) (tC (.str "\n")))) (tRet (tC (.int 10))) tNext)
    (t_code_of_3 G))
theorem dv_code_of {P : Program} {w : World} {G : GG} {mg : Str → Option Value} {base : Heap} {f : Addr} {cdv : Value} {A : Around} {outer : List Env} {s : Shared} {H : Hp} {E : XK} (T : Top P w G mg base) (hr : Room 0 (A.deeper (envOfC "code_of" (defScope s_code_of) s.heap.objs.size f cdv))) :
    PSs (cxOf CX0 P w G.K mg base N_code_of "code_of" (defScope s_code_of) f cdv A outer s H E).nox (defBody s_code_of) (t_code_of G) :=
  (pssAp (pss_cons (ps_if (pt_cmpR (u_eq hr.units) (pv 0) pe_str rfl) (pss_one (ps_ret (pe_cst T.c_LINE_FEED rfl))) pss_nil)
    (pssAp (pss_cons (ps_if (pt_cmpR (u_eq hr.units) (pv 0) pe_str rfl) (pss_one (ps_ret (pe_cst T.c_TAB rfl))) pss_nil)
    (pssAp (pss_cons (ps_if (pt_cmpR u_in (pv 0) (pe_cst T.c_BEFORE rfl) rfl) (pss_one (ps_ret (pe_op u_add pe_int (pe_sindex (pe_cst T.c_BEFORE rfl) (pa_cons (pv 0) pa_nil))))) pss_nil)
    (pssAp (pss_one (ps_ret (pe_op u_add (pe_cst T.c_FIRST_BEHIND rfl) (pe_sindex (pe_cst T.c_BEHIND rfl) (pa_cons (pv 0) pa_nil))))))))))))
noncomputable def t_encode_text (G : GG) : TS := tAp G.K (tRet (tLcU (iSt (tVar 0)) (gName 1) tYes (tCall (sp_code_of G) [] E0 (tCons (tVar 1) tNil)) [1]))
theorem dv_encode_text {P : Program} {w : World} {G : GG} {mg : Str → Option Value} {base : Heap} {f : Addr} {cdv : Value} {A : Around} {outer : List Env} {s : Shared} {H : Hp} {E : XK} (T : Top P w G mg base) (F_code_of : FnE P w G.K mg base CX0 "code_of" 1 ["char"] (sp_code_of G)) (hr : Room 1 (A.deeper (envOfC "encode_text" (defScope s_encode_text) s.heap.objs.size f cdv))) :
    PSs (cxOf CX0 P w G.K mg base N_encode_text "encode_text" (defScope s_encode_text) f cdv A outer s H E).nox (defBody s_encode_text) (t_encode_text G) :=
  (pssAp (pss_one (ps_ret (pe_lc (own := [("char", 1)]) (g := (gName 1)) (tt := tYes) rfl sc_encode_text.nd (pi_st (pv 0)) (blkOk_by (N := N_encode_text) (sc := defScope s_encode_text) (by decide +kernel)) (fun _ _ _ _ _ => pg_name (i := 1) sc_encode_text.nd rfl (Or.inl rfl)) (fun _ _ _ _ _ => pts_nil) (fun _ _ _ _ _ => (pe_fn F_code_of (hr.mono (by decide)) rfl pass0 (pa_cons (pv 1) pa_nil)))))))
noncomputable def t_decode_text_1 (G : GG) (W : WX) : TS := tAp G.K (tDrop (tML G.K rApp (tVar 1) (tCons (tVar 3) tNil)))
noncomputable def t_decode_text_2 (G : GG) (W : WX) : TS := tAp G.K (tSeq (tAsg (tCall (sp_char_of G) [] E0 (tCons (tOp (rIxU G.K) (tVar 0) (tVar 2)) tNil)) (gName 3))
    (tSeq (tIfS (tTest (tOp rIsU (tVar 3) (tC .non))) (tRs W (tMkF G.c_InvalidText "InvalidText" (tVar 2))) tNext)
    (t_decode_text_1 G W)))
noncomputable def t_decode_text_3 (G : GG) (W : WX) : TS := tAp G.K (tRet (tMS (rJoin G.K) (tC (.str "")) (tCons (tVar 1) tNil)))
noncomputable def t_decode_text (G : GG) (W : WX) : TS := tAp G.K (tSeq (tAsg (tLst tNil) (gName 1))
    (tSeq (tForU (iRng1 (tCons (tCB (rLenU G.K) (tCons (tVar 0) tNil)) tNil)) (gName 2) (t_decode_text_2 G W))
    (t_decode_text_3 G W)))
theorem dv_decode_text {P : Program} {w : World} {G : GG} {mg : Str → Option Value} {base : Heap} {f : Addr} {cdv : Value} {A : Around} {outer : List Env} {s : Shared} {H : Hp} {E : XK} (T : Top P w G mg base) (F_char_of : FnE P w G.K mg base CX0 "char_of" 1 ["code"] (sp_char_of G)) (hr : Room 3 (A.deeper (envOfC "decode_text" (defScope s_decode_text) s.heap.objs.size f cdv))) :
    PSs (cxOf (L2.CX P w) P w G.K mg base N_decode_text "decode_text" (defScope s_decode_text) f cdv A outer s H E) (defBody s_decode_text) (t_decode_text G (fun cls d _ H => E cls d H)) :=
  (pssAp (pss_cons (ps_set (i := 1) sc_decode_text.nd rfl (Or.inl rfl) (pe_lst pa_nil))
    (pss_cons (ps_for (passes_of rfl) rfl (pi_range1 rfl T.n_range (pa_cons (pe_callB c_len rfl T.n_len bt_len (pa_cons (pv 0) pa_nil)) pa_nil)) (pg_name (i := 2) sc_decode_text.nd rfl (Or.inl rfl)) (pssAp (pss_cons (ps_set (i := 3) sc_decode_text.nd rfl (Or.inl rfl) (pe_fn F_char_of (hr.mono (by decide)) rfl pass0 (pa_cons (pe_ix u_ix (pv 0) (pv 2) (fun _ _ => rfl)) pa_nil)))
    (pss_cons (ps_if (pt_cmpR u_is (pv 3) pe_non rfl) (pss_one (ps_rs rfl (takes_of rfl rfl rfl rfl) (pmk_kin T.e_InvalidText (hr.mono (by decide)) rfl (pv 2)))) pss_nil)
    (pssAp (pss_one (ps_expr (pe_append (pv 1) (pa_cons (pv 3) pa_nil)))))))))
    (pssAp (pss_one (ps_ret (pe_sjoin pe_str (pa_cons (pv 1) pa_nil))))))))
noncomputable def t__law_draw_1 (G : GG) : TS := tAp G.K (tSeq (tDrop (tML G.K rApp (tVar 3) (tCons (tOp rMod (tCB rInt (tCons (tVar 0) tNil)) (tVar 2)) tNil)))
    (tAsg (tOp rFdiv (tVar 0) (tVar 2)) (gName 0)))
noncomputable def t__law_draw_2 (G : GG) : TS := tAp G.K (tRet (tVar 3))
noncomputable def t__law_draw_3 (G : GG) : TS := tAp G.K (tSeq (tForU (iRng1 (tCons (tVar 1) tNil)) (gName 4) (t__law_draw_1 G))
    (t__law_draw_2 G))
noncomputable def t__law_draw_4 (G : GG) : TS := tAp G.K (tSeq (tAsg (tOp rMod (tCB rInt (tCons (tOp rAddU (tOp rAddU (tOp rMulU (tVar 5) (tC (.int 48271))) (tC (.int 12345))) (tVar 4)) tNil)) (tC (.int 2147483647))) (gName 5))
    (tSeq (tAsg (tOp rMod (tCB rInt (tCons (tOp rAddU (tOp rMulU (tVar 5) (tC (.int 69621))) (tOp rMulU (tC (.int 977)) (tVar 4))) tNil)) (tC (.int 2147483629))) (gName 6))
    (tDrop (tML G.K rApp (tVar 3) (tCons (tOp rMod (tCB rInt (tCons (tOp rFdiv (tVar 6) (tC (.int 3))) tNil)) (tVar 2)) tNil)))))
noncomputable def t__law_draw_5 (G : GG) : TS := tAp G.K (tRet (tVar 3))
noncomputable def t__law_draw_6 (G : GG) : TS := tAp G.K (tSeq (tAsg (tOp rMod (tCB rInt (tCons (tVar 0) tNil)) (tC (.int 2147483647))) (gName 5))
    (tSeq (tForU (iRng1 (tCons (tVar 1) tNil)) (gName 4) (t__law_draw_4 G))
    (t__law_draw_5 G)))
noncomputable def t__law_draw (G : GG) : TS := tAp G.K (tSeq (tAsg (tLst tNil) (gName 3))
    (tSeq (tIfS (tTest (tOp rGeU (tVar 0) (tOp rPow (tC (.int 10)) (tC (.int 18))))) (t__law_draw_3 G) tNext)
    (t__law_draw_6 G)))
theorem dv__law_draw {P : Program} {w : World} {G : GG} {mg : Str → Option Value} {base : Heap} {f : Addr} {cdv : Value} {A : Around} {outer : List Env} {s : Shared} {H : Hp} {E : XK} (T : Top P w G mg base) (hr : Room 0 (A.deeper (envOfC "_law_draw" (defScope s__law_draw) s.heap.objs.size f cdv))) :
    PSs (cxOf CX0 P w G.K mg base N__law_draw "_law_draw" (defScope s__law_draw) f cdv A outer s H E).nox (defBody s__law_draw) (t__law_draw G) :=
  (pssAp (pss_cons (ps_set (i := 3) sc__law_draw.nd rfl (Or.inl rfl) (pe_lst pa_nil))
    (pss_cons (ps_if (pt_cmpR u_ge (pv 0) (pe_op u_pow pe_int pe_int) rfl) (pssAp (pss_cons (ps_for PassesOwn.never rfl (pi_range1 rfl T.n_range (pa_cons (pv 1) pa_nil)) (pg_name (i := 4) sc__law_draw.nd rfl (Or.inl rfl)) (pssAp (pss_cons (ps_expr (pe_append (pv 3) (pa_cons (pe_op u_mod (pe_callTy c_int rfl T.n_int bt_int (pa_cons (pv 0) pa_nil)) (pv 2)) pa_nil)))
    (pss_one (ps_set (i := 0) sc__law_draw.nd rfl (Or.inl rfl) (pe_op u_fdiv (pv 0) (pv 2)))))))
    (pssAp (pss_one (ps_ret (pv 3)))))) pss_nil)
    (pssAp (pss_cons (ps_set (i := 5) sc__law_draw.nd rfl (Or.inl rfl) (pe_op u_mod (pe_callTy c_int rfl T.n_int bt_int (pa_cons (pv 0) pa_nil)) pe_int))
    (pss_cons (ps_for PassesOwn.never rfl (pi_range1 rfl T.n_range (pa_cons (pv 1) pa_nil)) (pg_name (i := 4) sc__law_draw.nd rfl (Or.inl rfl)) (pssAp (pss_cons (ps_set (i := 5) sc__law_draw.nd rfl (Or.inl rfl) (pe_op u_mod (pe_callTy c_int rfl T.n_int bt_int (pa_cons (pe_op u_add (pe_op u_add (pe_op u_mul (pv 5) pe_int) pe_int) (pv 4)) pa_nil)) pe_int))
    (pss_cons (ps_set (i := 6) sc__law_draw.nd rfl (Or.inl rfl) (pe_op u_mod (pe_callTy c_int rfl T.n_int bt_int (pa_cons (pe_op u_add (pe_op u_mul (pv 5) pe_int) (pe_op u_mul pe_int (pv 4))) pa_nil)) pe_int))
    (pss_one (ps_expr (pe_append (pv 3) (pa_cons (pe_op u_mod (pe_callTy c_int rfl T.n_int bt_int (pa_cons (pe_op u_fdiv (pv 6) pe_int) pa_nil)) (pv 2)) pa_nil))))))))
    (pssAp (pss_one (ps_ret (pv 3))))))))))
noncomputable def t__law_is_integer (G : GG) : TS := tAp G.K (tRet (tAndV (tCB rIsiB (tCons (tVar 0) (tCons (tC (.ty "int")) tNil))) (tNotU G.K (tCB rIsiB (tCons (tVar 0) (tCons (tC (.ty "bool")) tNil))))))
theorem dv__law_is_integer {P : Program} {w : World} {G : GG} {mg : Str → Option Value} {base : Heap} {f : Addr} {cdv : Value} {A : Around} {outer : List Env} {s : Shared} {H : Hp} {E : XK} (T : Top P w G mg base) (hr : Room 0 (A.deeper (envOfC "_law_is_integer" (defScope s__law_is_integer) s.heap.objs.size f cdv))) :
    PSs (cxOf CX0 P w G.K mg base N__law_is_integer "_law_is_integer" (defScope s__law_is_integer) f cdv A outer s H E).nox (defBody s__law_is_integer) (t__law_is_integer G) :=
  (pssAp (pss_one (ps_ret (pe_and (pe_callB c_isi rfl T.n_isinstance bt_isinstance (pa_cons (pv 0) (pa_cons (pe_bltn (v := .ty "int") rfl T.n_int bt_int rfl) pa_nil))) (pe_one (pe_notU (pe_callB c_isi rfl T.n_isinstance bt_isinstance (pa_cons (pv 0) (pa_cons (pe_bltn (v := .ty "bool") rfl T.n_bool bt_bool rfl) pa_nil)))))))))
noncomputable def t__law_same_1 (G : GG) : TS := tAp G.K (tIfS (tOr (tNot (tTr G.K (tCall (sp__law_is_integer G) [] E0 (tCons (tOp (rIxU G.K) (tVar 0) (tVar 2)) tNil)))) (tTest (tOp (rNeU G.K) (tOp (rIxU G.K) (tVar 0) (tVar 2)) (tOp (rIxU G.K) (tVar 1) (tVar 2))))) (tRet (tC (.bl false))) tNext)
noncomputable def t__law_same_2 (G : GG) : TS := tAp G.K (tRet (tC (.bl true)))
noncomputable def t__law_same_3 (G : GG) : TS := tAp G.K (tSeq (tForU (iRng1 (tCons (tCB (rLenU G.K) (tCons (tVar 1) tNil)) tNil)) (gName 2) (t__law_same_1 G))
    (t__law_same_2 G))
noncomputable def t__law_same (G : GG) : TS := tAp G.K (tSeq (tIfS (tOr (tNot (tTr G.K (tCB rIsiB (tCons (tVar 0) (tCons (tC (.ty "list")) tNil))))) (tTest (tOp (rNeU G.K) (tCB (rLenU G.K) (tCons (tVar 0) tNil)) (tCB (rLenU G.K) (tCons (tVar 1) tNil))))) (tRet (tC (.bl false))) tNext)
    (t__law_same_3 G))
theorem dv__law_same {P : Program} {w : World} {G : GG} {mg : Str → Option Value} {base : Heap} {f : Addr} {cdv : Value} {A : Around} {outer : List Env} {s : Shared} {H : Hp} {E : XK} (T : Top P w G mg base) (F__law_is_integer : FnE P w G.K mg base CX0 "_law_is_integer" 1 ["actual"] (sp__law_is_integer G)) (hr : Room 1 (A.deeper (envOfC "_law_same" (defScope s__law_same) s.heap.objs.size f cdv))) :
    PSs (cxOf CX0 P w G.K mg base N__law_same "_law_same" (defScope s__law_same) f cdv A outer s H E).nox (defBody s__law_same) (t__law_same G) :=
  (pssAp (pss_cons (ps_if (PW.pt (pw_or (pt_not (pt_tr (pe_callB c_isi rfl T.n_isinstance bt_isinstance (pa_cons (pv 0) (pa_cons (pe_bltn (v := .ty "list") rfl T.n_list bt_list rfl) pa_nil))))) (pw_or1 (pt_cmpR (u_ne hr.units) (pe_callB c_len rfl T.n_len bt_len (pa_cons (pv 0) pa_nil)) (pe_callB c_len rfl T.n_len bt_len (pa_cons (pv 1) pa_nil)) rfl)))) (pss_one (ps_ret pe_bl)) pss_nil)
    (pssAp (pss_cons (ps_for PassesOwn.never rfl (pi_range1 rfl T.n_range (pa_cons (pe_callB c_len rfl T.n_len bt_len (pa_cons (pv 1) pa_nil)) pa_nil)) (pg_name (i := 2) sc__law_same.nd rfl (Or.inl rfl)) (pssAp (pss_one (ps_if (PW.pt (pw_or (pt_not (pt_tr (pe_fn F__law_is_integer (hr.mono (by decide)) rfl pass0 (pa_cons (pe_ix u_ix (pv 0) (pv 2) (fun _ _ => rfl)) pa_nil)))) (pw_or1 (pt_cmpR (u_ne hr.units) (pe_ix u_ix (pv 0) (pv 2) (fun _ _ => rfl)) (pe_ix u_ix (pv 1) (pv 2) (fun _ _ => rfl)) rfl)))) (pss_one (ps_ret pe_bl)) pss_nil))))
    (pssAp (pss_one (ps_ret pe_bl)))))))
noncomputable def t__law_alphabet_1 (G : GG) : TS := tAp G.K (tAsg (tOp rAddU (tC (.int 32)) (tVar 3)) (gSub (tVar 2) (tOp (rIxU G.K) (tVar 0) (tVar 3)) rSetU))
noncomputable def t__law_alphabet_2 (G : GG) : TS := tAp G.K (tAsg (tOp rAddU (tC (.int 38)) (tVar 3)) (gSub (tVar 2) (tOp (rIxU G.K) (tVar 1) (tVar 3)) rSetU))
noncomputable def t__law_alphabet_3 (G : GG) : TS := tAp G.K (tRet (tVar 2))
noncomputable def t__law_alphabet_4 (G : GG) : TS := tAp G.K (tSeq (tForU (iRng1 (tCons (tCB (rLenU G.K) (tCons (tVar 1) tNil)) tNil)) (gName 3) (t__law_alphabet_2 G))
    (t__law_alphabet_3 G))
noncomputable def t__law_alphabet (G : GG) : TS := tAp G.K (tSeq (tAsg (tC (.str " !\"#$")) (gName 0))
    (tSeq (tAsg (tC (.str "&'()*+,-./0123456789:;<=>?@ABCDEFGHIJKLMNOPQRSTUVWXYZ[\\]^_`abcdefghijklmnopqrstuvwxyz{|}~")) (gName 1))
    (tSeq (tAsg (tDisp [((tC (.str "\n")), (tC (.int 10))), ((tC (.str "\t")), (tC (.int 9)))]) (gName 2))
    (tSeq (tForU (iRng1 (tCons (tCB (rLenU G.K) (tCons (tVar 0) tNil)) tNil)) (gName 3) (t__law_alphabet_1 G))
    (t__law_alphabet_4 G)))))
theorem dv__law_alphabet {P : Program} {w : World} {G : GG} {mg : Str → Option Value} {base : Heap} {f : Addr} {cdv : Value} {A : Around} {outer : List Env} {s : Shared} {H : Hp} {E : XK} (T : Top P w G mg base) (hr : Room 0 (A.deeper (envOfC "_law_alphabet" (defScope s__law_alphabet) s.heap.objs.size f cdv))) :
    PSs (cxOf CX0 P w G.K mg base N__law_alphabet "_law_alphabet" (defScope s__law_alphabet) f cdv A outer s H E).nox (defBody s__law_alphabet) (t__law_alphabet G) :=
  (pssAp (pss_cons (ps_set (i := 0) sc__law_alphabet.nd rfl (Or.inl rfl) pe_str)
    (pss_cons (ps_set (i := 1) sc__law_alphabet.nd rfl (Or.inl rfl) pe_str)
    (pss_cons (ps_set (i := 2) sc__law_alphabet.nd rfl (Or.inl rfl) (pe_disp (pps_cons pe_str pe_int (pps_cons pe_str pe_int pps_nil)) rfl rfl (List.cons_ne_nil _ _) (by decide)))
    (pss_cons (ps_for PassesOwn.never rfl (pi_range1 rfl T.n_range (pa_cons (pe_callB c_len rfl T.n_len bt_len (pa_cons (pv 0) pa_nil)) pa_nil)) (pg_name (i := 3) sc__law_alphabet.nd rfl (Or.inl rfl)) (pssAp (pss_one (ps_asg (pe_op u_add pe_int (pv 3)) (pg_sub (pv 2) (pe_ix u_ix (pv 0) (pv 3) (fun _ _ => rfl)) (set_U (u1 hr.units)))))))
    (pssAp (pss_cons (ps_for PassesOwn.never rfl (pi_range1 rfl T.n_range (pa_cons (pe_callB c_len rfl T.n_len bt_len (pa_cons (pv 1) pa_nil)) pa_nil)) (pg_name (i := 3) sc__law_alphabet.nd rfl (Or.inl rfl)) (pssAp (pss_one (ps_asg (pe_op u_add pe_int (pv 3)) (pg_sub (pv 2) (pe_ix u_ix (pv 1) (pv 3) (fun _ _ => rfl)) (set_U (u1 hr.units)))))))
    (pssAp (pss_one (ps_ret (pv 2)))))))))))
noncomputable def t__law_told (G : GG) : TS := tAp G.K (tTryAs G.K (.ref G.c_FormstripesError) 1 (fun a cls d => (tSeq (tIfS (tOr (tNot (tTr G.K (tCB (rIsX G.K a cls d) (tCons (tVar 1) (tCons (tC (.ref G.c_InvalidText)) tNil))))) (tOr (tTr G.K (tCB (rIsX G.K a cls d) (tCons (tVar 1) (tCons (tC (.ref G.c_InvalidJson)) tNil)))) (tNot (tTr G.K (tCB (rIsX G.K a cls d) (tCons (tVar 1) (tCons (tC (.ty "ValueError")) tNil))))))) (tRet (tC .non)) tNext)
    (tRet (tTup (tCons (tXfU G.K a cls d "name" (tVar 1)) (tCons (tXfU G.K a cls d "place" (tVar 1)) tNil)))))) W0 (fun W => (tRet (tCallW (sp_decode_text G) W (tCons (tVar 0) tNil)))))
theorem dv__law_told {P : Program} {w : World} {G : GG} {mg : Str → Option Value} {base : Heap} {f : Addr} {cdv : Value} {A : Around} {outer : List Env} {s : Shared} {H : Hp} {E : XK} (T : Top P w G mg base) (F_decode_text : FnE P w G.K mg base (L2.CX P w) "decode_text" 4 ["octets"] (sp_decode_text G)) (hr : Room 4 (A.deeper (envOfC "_law_told" (defScope s__law_told) s.heap.objs.size f cdv))) :
    PSs (cxOf CX0 P w G.K mg base N__law_told "_law_told" (defScope s__law_told) f cdv A outer s H E).nox (defBody s__law_told) (t__law_told G) :=
  (pssAp (pss_one (ps_tryAs (i := 1) rfl rfl sc__law_told.nd rfl rfl ⟨rfl, by decide, .inl T.cl_FormstripesError⟩ takes0 (fun W pn xe tk po => (pss_one (ps_ret (pe_fnW F_decode_text (hr.mono (by decide)) rfl tk (pa_cons (pv 0) pa_nil))))) (fun a oe cls d pn hz hf => (pss_cons (ps_if (PW.pt (pw_or (pt_not (pt_tr (pe_callB (c_isX hz hf) rfl T.n_isinstance bt_isinstance (pa_cons (pv 1) (pa_cons (pe_glob rfl T.cl_InvalidText rfl) pa_nil))))) (pw_or (pt_tr (pe_callB (c_isX hz hf) rfl T.n_isinstance bt_isinstance (pa_cons (pv 1) (pa_cons (pe_glob rfl T.cl_InvalidJson rfl) pa_nil)))) (pw_or1 (pt_not (pt_tr (pe_callB (c_isX hz hf) rfl T.n_isinstance bt_isinstance (pa_cons (pv 1) (pa_cons (pe_bltn (v := .ty "ValueError") rfl T.n_ValueError bt_ValueError rfl) pa_nil))))))))) (pss_one (ps_ret pe_non)) pss_nil)
    (pss_one (ps_ret (pe_tup (pa_cons (pe_xfU hz hf (pv 1)) (pa_cons (pe_xfU hz hf (pv 1)) pa_nil))))))))))
noncomputable def t_law_1 (G : GG) : TS := tAp G.K (tIfS (tAnd (tTest (tOp rIsU (tVar 7) (tC .non))) (tTest (tOp (rInU G.K true) (tOp (rIxU G.K) (tVar 6) (tVar 8)) (tListVals (tVar 1))))) (tAsg (tTup (tCons (tC (.str "InvalidText")) (tCons (tVar 8) tNil))) (gName 7)) tNext)
noncomputable def t_law_2 (G : GG) : TS := tAp G.K (tSeq (tAsg (tCB (rListOf G.K) (tCons (tVar 6) tNil)) (gName 9))
    (tIfS (tOr (tTest (tOp (rNeU G.K) (tCall (sp__law_told G) [] E0 (tCons (tVar 9) tNil)) (tVar 7))) (tTest (tOp (rNeU G.K) (tVar 9) (tVar 6)))) (tRet (tC (.bl false))) tNext))
noncomputable def t_law_3 (G : GG) : TS := tAp G.K (tSeq (tIfS (tTest (tOp rIsU (tVar 7) (tC .non))) (tAsg (tMS (rJoin G.K) (tC (.str "")) (tCons (tLcU (iLst G.K (tVar 6)) (gName 12) tYes (tOp (rIxU G.K) (tVar 2) (tML G.K (rIndexU G.K) (tListVals (tVar 1)) (tCons (tVar 12) tNil))) [12]) tNil)) (gName 7)) tNext)
    (t_law_2 G))
noncomputable def t_law_4 (G : GG) : TS := tAp G.K (tSeq (tAsg (tC .non) (gName 7))
    (tSeq (tForU (iRng1 (tCons (tCB (rLenU G.K) (tCons (tVar 6) tNil)) tNil)) (gName 8) (t_law_1 G))
    (t_law_3 G)))
noncomputable def t_law_5 (G : GG) : TS := tAp G.K (tSeq (tAsg (tLcU (iLst G.K (tSl (rSlU G.K) (tVar 4) tNoPart (tPart (tOp rMod (tOp (rIxU G.K) (tVar 4) (tC (.int 23))) (tC (.int 13)))))) (gName 10) tYes (tDGet (tVar 1) (tOp (rIxU G.K) (tVar 2) (tOp rMod (tVar 10) (tCB (rLenU G.K) (tCons (tVar 2) tNil))))) [10]) (gName 6))
    (tSeq (tIfS (tAnd (tTest (tOp (rEqU G.K) (tOp rMod (tOp (rIxU G.K) (tVar 4) (tC (.int 22))) (tC (.int 2))) (tC (.int 0)))) (tTest (tOp rGtU (tCB (rLenU G.K) (tCons (tVar 6) tNil)) (tC (.int 0))))) (tAsg (tOp (rIxU G.K) (tLst (tCons (tOp rMod (tOp (rIxU G.K) (tVar 4) (tC (.int 20))) (tC (.int 256))) (tCons (tC (.int 37)) (tCons (tC (.int 31)) (tCons (tC (.int 127)) (tCons (tC (.int 128)) (tCons (tC (.int 8)) (tCons (tC (.int 11)) (tCons (tC (.int 13)) tNil))))))))) (tOp rMod (tOp (rIxU G.K) (tVar 4) (tC (.int 19))) (tC (.int 8)))) (gSub (tVar 6) (tOp rMod (tOp (rIxU G.K) (tVar 4) (tC (.int 21))) (tCB (rLenU G.K) (tCons (tVar 6) tNil))) rSetLU)) tNext)
    (t_law_4 G)))
noncomputable def t_law_6 (G : GG) : TS := tAp G.K (tSeq (tAsg (tCall (sp__law_draw G) [] E0 (tCons (tVar 3) (tCons (tC (.int 25)) (tCons (tOp rShl (tC (.int 1)) (tC (.int 20))) tNil)))) (gName 4))
    (tSeq (tAsg (tMS (rJoin G.K) (tC (.str "")) (tCons (tLcU (iLst G.K (tSl (rSlU G.K) (tVar 4) tNoPart (tPart (tOp rMod (tOp (rIxU G.K) (tVar 4) (tC (.int 24))) (tC (.int 13)))))) (gName 10) tYes (tOp (rIxU G.K) (tVar 2) (tOp rMod (tVar 10) (tCB (rLenU G.K) (tCons (tVar 2) tNil)))) [10]) tNil)) (gName 5))
    (tSeq (tAsg (tCall (sp_encode_text G) [] E0 (tCons (tVar 5) tNil)) (gName 6))
    (tSeq (tIfS (tOr (tNot (tTr G.K (tCall (sp__law_same G) [] E0 (tCons (tVar 6) (tCons (tLcU (iSt (tVar 5)) (gName 11) tYes (tDGet (tVar 1) (tVar 11)) [11]) tNil))))) (tOr (tTest (tOp (rNeU G.K) (tCallW (sp_decode_text G) W0 (tCons (tVar 6) tNil)) (tVar 5))) (tTest (tOp rIsNB (tCall (sp_is_text G) [] E0 (tCons (tVar 5) tNil)) (tC (.bl true)))))) (tRet (tC (.bl false))) tNext)
    (t_law_5 G)))))
noncomputable def t_law (G : GG) : TS := tAp G.K (tSeq (tAsg (tCall (sp__law_alphabet G) [] E0 tNil) (gName 1))
    (tAp G.K (tSeq (tAsg (tCB (rListOf G.K) (tCons (tVar 1) tNil)) (gName 2))
    (tAp G.K (tSeq (tForU (iLst G.K (tOp rAddU (tSl (rSlU G.K) (tVar 0) tNoPart (tPart (tC (.int 12)))) (tLst (tCons (tC (.int 0)) tNil)))) (gName 3) (t_law_6 G))
    (tAp G.K (tRet (tC (.bl true)))))))))
theorem dv_law {P : Program} {w : World} {G : GG} {mg : Str → Option Value} {base : Heap} {f : Addr} {cdv : Value} {A : Around} {outer : List Env} {s : Shared} {H : Hp} {E : XK} (T : Top P w G mg base) (F__law_alphabet : FnE P w G.K mg base CX0 "_law_alphabet" 1 [] (sp__law_alphabet G)) (F__law_draw : FnE P w G.K mg base CX0 "_law_draw" 1 ["cell", "many", "bound"] (sp__law_draw G)) (F__law_same : FnE P w G.K mg base CX0 "_law_same" 2 ["actual", "expected"] (sp__law_same G)) (F__law_told : FnE P w G.K mg base CX0 "_law_told" 5 ["octets"] (sp__law_told G)) (F_decode_text : FnE P w G.K mg base (L2.CX P w) "decode_text" 4 ["octets"] (sp_decode_text G)) (F_encode_text : FnE P w G.K mg base CX0 "encode_text" 2 ["text"] (sp_encode_text G)) (F_is_text : FnE P w G.K mg base CX0 "is_text" 1 ["text"] (sp_is_text G)) (hr : Room 5 (A.deeper (envOfC "law" (defScope s_law) s.heap.objs.size f cdv))) :
    PSs (cxOf CX0 P w G.K mg base N_law "law" (defScope s_law) f cdv A outer s H E).nox (defBody s_law) (t_law G) :=
  (pssAp (pss_cons (ps_set (i := 1) sc_law.nd rfl (Or.inr rfl) (pe_fn0 F__law_alphabet (hr.mono (by decide)) rfl pass0))
    (pssAp (pss_cons (ps_set (i := 2) sc_law.nd rfl (Or.inr rfl) (pe_callTy (c_list rfl) rfl T.n_list bt_list (pa_cons (pv 1) pa_nil)))
    (pssAp (pss_cons (ps_for PassesOwn.never rfl (pi_lst (pe_op u_add (pe_slice u_sl (pv 0) po_none (po_some pe_int)) (pe_lst (pa_cons pe_int pa_nil)))) (pg_name (i := 3) sc_law.nd rfl (Or.inl rfl)) (pssAp (pss_cons (ps_set (i := 4) sc_law.nd rfl (Or.inl rfl) (pe_fn F__law_draw (hr.mono (by decide)) rfl pass0 (pa_cons (pv 3) (pa_cons pe_int (pa_cons (pe_op u_shl pe_int pe_int) pa_nil)))))
    (pss_cons (ps_set (i := 5) sc_law.nd rfl (Or.inl rfl) (pe_sjoin pe_str (pa_cons (pe_lc (own := [("number", 10)]) (g := (gName 10)) (tt := tYes) rfl sc_law.nd (pi_lst (pe_slice u_sl (pv 4) po_none (po_some (pe_op u_mod (pe_ix u_ix (pv 4) pe_int (fun _ _ => rfl)) pe_int)))) (blkOk_by (N := N_law) (sc := defScope s_law) (by decide +kernel)) (fun _ _ _ _ _ => pg_name (i := 10) sc_law.nd rfl (Or.inl rfl)) (fun _ _ _ _ _ => pts_nil) (fun _ _ _ _ _ => (pe_ix u_ix (pv 2) (pe_op u_mod (pv 10) (pe_callB c_len rfl T.n_len bt_len (pa_cons (pv 2) pa_nil))) (fun _ _ => rfl)))) pa_nil)))
    (pss_cons (ps_set (i := 6) sc_law.nd rfl (Or.inl rfl) (pe_fn F_encode_text (hr.mono (by decide)) rfl pass0 (pa_cons (pv 5) pa_nil)))
    (pss_cons (ps_if (PW.pt (pw_or (pt_not (pt_tr (pe_fn F__law_same (hr.mono (by decide)) rfl pass0 (pa_cons (pv 6) (pa_cons (pe_lc (own := [("sign", 11)]) (g := (gName 11)) (tt := tYes) rfl sc_law.nd (pi_st (pv 5)) (blkOk_by (N := N_law) (sc := defScope s_law) (by decide +kernel)) (fun _ _ _ _ _ => pg_name (i := 11) sc_law.nd rfl (Or.inl rfl)) (fun _ _ _ _ _ => pts_nil) (fun _ _ _ _ _ => (pe_dget (u1 hr.units) (pv 1) (pv 11) (fun _ _ => rfl)))) pa_nil))))) (pw_or (pt_cmpR (u_ne hr.units) (pe_fnW F_decode_text (hr.mono (by decide)) rfl takes0 (pa_cons (pv 6) pa_nil)) (pv 5) rfl) (pw_or1 (pt_cmpR u_isNB (pe_fn F_is_text (hr.mono (by decide)) rfl pass0 (pa_cons (pv 5) pa_nil)) pe_bl rfl))))) (pss_one (ps_ret pe_bl)) pss_nil)
    (pssAp (pss_cons (ps_setLc (i := 6) (own := [("number", 10)]) (g := (gName 10)) (tt := tYes) rfl sc_law.nd rfl rfl (sw_true rfl rfl rfl (by decide +kernel)) (pi_lst (pe_slice u_sl (pv 4) po_none (po_some (pe_op u_mod (pe_ix u_ix (pv 4) pe_int (fun _ _ => rfl)) pe_int)))) (blkOk_by (N := N_law) (sc := defScope s_law) (by decide +kernel)) (fun _ _ _ _ _ => pg_name (i := 10) sc_law.nd rfl (Or.inl rfl)) (fun _ _ _ _ _ => pts_nil) (fun _ _ _ _ _ => (pe_dget (u1 hr.units) (pv 1) (pe_ix u_ix (pv 2) (pe_op u_mod (pv 10) (pe_callB c_len rfl T.n_len bt_len (pa_cons (pv 2) pa_nil))) (fun _ _ => rfl)) (fun _ _ => rfl))))
    (pss_cons (ps_if (PW.pt (pw_and (pt_cmpR (u_eq hr.units) (pe_op u_mod (pe_ix u_ix (pv 4) pe_int (fun _ _ => rfl)) pe_int) pe_int rfl) (pw_and1 (pt_cmpR u_gt (pe_callB c_len rfl T.n_len bt_len (pa_cons (pv 6) pa_nil)) pe_int rfl)))) (pss_one (ps_asg (pe_ix u_ix (pe_lst (pa_cons (pe_op u_mod (pe_ix u_ix (pv 4) pe_int (fun _ _ => rfl)) pe_int) (pa_cons pe_int (pa_cons pe_int (pa_cons pe_int (pa_cons pe_int (pa_cons pe_int (pa_cons pe_int (pa_cons pe_int pa_nil))))))))) (pe_op u_mod (pe_ix u_ix (pv 4) pe_int (fun _ _ => rfl)) pe_int) (fun _ _ => rfl)) (pg_sub (pv 6) (pe_op u_mod (pe_ix u_ix (pv 4) pe_int (fun _ _ => rfl)) (pe_callB c_len rfl T.n_len bt_len (pa_cons (pv 6) pa_nil))) set_lstU))) pss_nil)
    (pssAp (pss_cons (ps_set (i := 7) sc_law.nd rfl (Or.inl rfl) pe_non)
    (pss_cons (ps_for PassesOwn.never rfl (pi_range1 rfl T.n_range (pa_cons (pe_callB c_len rfl T.n_len bt_len (pa_cons (pv 6) pa_nil)) pa_nil)) (pg_name (i := 8) sc_law.nd rfl (Or.inl rfl)) (pssAp (pss_one (ps_if (PW.pt (pw_and (pt_cmpR u_is (pv 7) pe_non rfl) (pw_and1 (pt_cmpR u_nin (pe_ix u_ix (pv 6) (pv 8) (fun _ _ => rfl)) (pe_listVals rfl (pv 1) rfl T.n_list bt_list) rfl)))) (pss_one (ps_set (i := 7) sc_law.nd rfl (Or.inl rfl) (pe_tup (pa_cons pe_str (pa_cons (pv 8) pa_nil))))) pss_nil))))
    (pssAp (pss_cons (ps_if (pt_cmpR u_is (pv 7) pe_non rfl) (pss_one (ps_set (i := 7) sc_law.nd rfl (Or.inl rfl) (pe_sjoin pe_str (pa_cons (pe_lc (own := [("octet", 12)]) (g := (gName 12)) (tt := tYes) rfl sc_law.nd (pi_lst (pv 6)) (blkOk_by (N := N_law) (sc := defScope s_law) (by decide +kernel)) (fun _ _ _ _ _ => pg_name (i := 12) sc_law.nd rfl (Or.inl rfl)) (fun _ _ _ _ _ => pts_nil) (fun _ _ _ _ _ => (pe_ix u_ix (pv 2) (pe_lindex (pe_listVals rfl (pv 1) rfl T.n_list bt_list) (pa_cons (pv 12) pa_nil)) (fun _ _ => rfl)))) pa_nil)))) pss_nil)
    (pssAp (pss_cons (ps_set (i := 9) sc_law.nd rfl (Or.inl rfl) (pe_callTy (c_list rfl) rfl T.n_list bt_list (pa_cons (pv 6) pa_nil)))
    (pss_one (ps_if (PW.pt (pw_or (pt_cmpR (u_ne hr.units) (pe_fn F__law_told (hr.mono (by decide)) rfl pass0 (pa_cons (pv 9) pa_nil)) (pv 7) rfl) (pw_or1 (pt_cmpR (u_ne hr.units) (pv 9) (pv 6) rfl)))) (pss_one (ps_ret pe_bl)) pss_nil))))))))))))))))))
    (pssAp (pss_one (ps_ret pe_bl)))))))))
end My

namespace My
open PySem PySem.Spec PyProof.Rows L2 R
local macro_rules | `(tactic| walk_at "rs") => `(tactic| ((try simp only [tSeq, tAp_e, tAsg, gName, tv0, tvs, tC, tOp, tUn, tTest, tAnd, tOr, tNot, tIf, tIfS, tRet, tRetN, tNext, tDrop, tCB, tCons, tNil, tAug_e, tCall, tAndV, tOrV, tChain, tTr, tNotU, tML, tMS, tForU, iLst, iTp, iSt, iRng1, iRng2, tLcU, tLst_e, tTup_e, tSl, tPart_e, tNoPart, tYes, tBreak, tCont, tRs_e, tCallW_e, tMkF, gSub_e, rIs_e, rIsN_e, decide_true, decide_false, rOrd_str, rSidx_str,   rSub_int, rFdiv_int, rMod_int, rShl_int, rShr_int, rXor_int, rAndB_int, rOrB_int, rPow_int, rAddU_int, rAddU_str, rMul_int, rIadd_int, rIadd_str, rLt_int, rLe_int, rGt_int, rGe_int, rEqU_int, rNeU_int, rEqU_str, rNeU_str, rEqU_bl, rNeU_bl, rInt_int, rAbs_int, rMax2_int, rMin2_int, mU_int, truV_bl, truV_int, truV_non, exBl, exInt, exInt2, exIntV, rLen_str, rIx_str, rSl_str, rInU_str,    List.set_cons_zero, List.set_cons_succ, List.append_nil, List.nil_append, List.cons_append, List.length_cons, List.length_nil, if_true, if_false, ite_true, ite_false, Bool.false_eq_true, decide_eq_true_eq, Bool.not_true, Bool.not_false, Bool.not_eq_true, Bool.not_eq_false, exists_eq_left', exists_eq_left, V.bl.injEq, V.int.injEq, V.str.injEq, V.ref.injEq, reduceCtorEq, and_true, true_and, ↓reduceIte]); (try with_reducible intro (ap : R.Apart _ _))))
local macro_rules | `(tactic| walk_at "rh") => `(tactic| ((try simp only [tSeq, tAp_e, tAsg, gName, tv0, tvs, tC, tOp, tUn, tTest, tAnd, tOr, tNot, tIf, tIfS, tRet, tRetN, tNext, tDrop, tCB, tCons, tNil, tAug_e, tCall, tAndV, tOrV, tChain, tTr, tNotU, tML, tMS, tForU, iLst, iTp, iSt, iRng1, iRng2, tLcU, tLst_e, tTup_e, tSl, tPart_e, tNoPart, tYes, tBreak, tCont, tRs_e, tCallW_e, tMkF, gSub_e, rIs_e, rIsN_e, decide_true, decide_false, rOrd_str, rSidx_str,   rSub_int, rFdiv_int, rMod_int, rShl_int, rShr_int, rXor_int, rAndB_int, rOrB_int, rPow_int, rAddU_int, rAddU_str, rMul_int, rIadd_int, rIadd_str, rLt_int, rLe_int, rGt_int, rGe_int, rEqU_int, rNeU_int, rEqU_str, rNeU_str, rEqU_bl, rNeU_bl, rInt_int, rAbs_int, rMax2_int, rMin2_int, mU_int, truV_bl, truV_int, truV_non, exBl, exInt, exInt2, exIntV, rLen_str, rIx_str, rSl_str, rInU_str,    List.set_cons_zero, List.set_cons_succ, List.append_nil, List.nil_append, List.cons_append, List.length_cons, List.length_nil, if_true, if_false, ite_true, ite_false, Bool.false_eq_true, decide_eq_true_eq, Bool.not_true, Bool.not_false, Bool.not_eq_true, Bool.not_eq_false, exists_eq_left', exists_eq_left, V.bl.injEq, V.int.injEq, V.str.injEq, V.ref.injEq, reduceCtorEq, and_true, true_and, ↓reduceIte]); (try with_reducible intro (ap : R.Apart _ _)); (try simp only [tSeq, tAp_e, tAsg, gName, tv0, tvs, tC, tOp, tUn, tTest, tAnd, tOr, tNot, tIf, tIfS, tRet, tRetN, tNext, tDrop, tCB, tCons, tNil, tAug_e, tCall, tAndV, tOrV, tChain, tTr, tNotU, tML, tMS, tForU, iLst, iTp, iSt, iRng1, iRng2, tLcU, tLst_e, tTup_e, tSl, tPart_e, tNoPart, tYes, tBreak, tCont, tRs_e, tCallW_e, tMkF, gSub_e, rIs_e, rIsN_e, decide_true, decide_false, rOrd_str, rSidx_str,   rSub_int, rFdiv_int, rMod_int, rShl_int, rShr_int, rXor_int, rAndB_int, rOrB_int, rPow_int, rAddU_int, rAddU_str, rMul_int, rIadd_int, rIadd_str, rLt_int, rLe_int, rGt_int, rGe_int, rEqU_int, rNeU_int, rEqU_str, rNeU_str, rEqU_bl, rNeU_bl, rInt_int, rAbs_int, rMax2_int, rMin2_int, mU_int, truV_bl, truV_int, truV_non, exBl, exInt, exInt2, exIntV, rLen_str, rIx_str, rSl_str, rInU_str,    List.set_cons_zero, List.set_cons_succ, List.append_nil, List.nil_append, List.cons_append, List.length_cons, List.length_nil, if_true, if_false, ite_true, ite_false, Bool.false_eq_true, decide_eq_true_eq, Bool.not_true, Bool.not_false, Bool.not_eq_true, Bool.not_eq_false, exists_eq_left', exists_eq_left, V.bl.injEq, V.int.injEq, V.str.injEq, V.ref.injEq, reduceCtorEq, and_true, true_and, ↓reduceIte, sqv_e, rLenU_ref, rListOf_ref, rIxU_ref, rSlU_ref, rApp_ref, rAddU_ref, truV_ref, rInU_ref, rMulU_ref, true_implies, forall_const, *])))

open N62
theorem strS (l : List Nat) : (V.str (S l)) = V.str (S l) := rfl
theorem szS {l : List Nat} (h : l.length ≤ 10000000) : (S l).length ≤ sizeLine := by rw [S_len]; exact sz _ h
theorem s_n : (Str.ofString "\n") = S [10] := by decide +kernel
theorem s_t : (Str.ofString "\t") = S [9] := by decide +kernel
theorem s_e : (Str.ofString "") = S [] := by decide +kernel
theorem s_tl : (Str.ofString "~") = S [126] := by decide +kernel
section
variable {P : Program} {w : World} {G : GG} {mg : Str → Option Value} {base : Heap} (T : Top P w G mg base) {vs : List V} {H : Hp} {Q : VK} {E : XK}
include T
theorem rd_char_of (h : sp_char_of G vs H Q E) : t_char_of G {nx := fun _ H' => Q .non H', rt := Q} (start N_char_of vs) H := by
  obtain ⟨c, rfl, hc, hq⟩ := h
  show t_char_of G _ [some (.int c)] H
  have t3 : ¬((32 ≤ c ∧ c < 37) ∨ (38 ≤ c ∧ c < 127)) → t_char_of_3 G {nx := fun _ H' => Q .non H', rt := Q} [some (.int c)] H := by
    intro h1
    unfold t_char_of_3 t_char_of_2 t_char_of_1
    walk_at "rs"
    have hok : okc c = (c == 10 || c == 9) := by
      unfold okc
      rcases Nat.lt_or_ge c 32 with h | h
      · simp [show ¬ 32 ≤ c by omega, Bool.or_comm]
      · have : (decide (32 ≤ c) && decide (c ≤ 126) && c != 37) = false := by
          by_cases h3 : c ≤ 126
          · have : c = 37 := by omega
            subst this; decide
          · simp [h3]
        rw [this]; simp [Bool.or_comm]
    rw [hok] at hq
    split
    · have : c = 10 := by omega
      subst this
      rw [s_n]
      exact hq
    · intro _
      split
      · have : c = 9 := by omega
        subst this
        rw [s_t]
        exact hq
      · have h1 : (c == 10) = false := by simp; omega
        have h2 : (c == 9) = false := by simp; omega
        rw [h1, h2] at hq
        intro _
        exact hq
  have t4 : ¬(32 ≤ c ∧ c < 37) → t_char_of_4 G {nx := fun _ H' => Q .non H', rt := Q} [some (.int c)] H := by
    intro h1
    unfold t_char_of_4
    walk_at "rs"
    simp only [l_bh]
    split
    · refine ⟨sz 89 (by decide), ?_⟩
      split
      · refine ⟨sz 89 (by decide), ?_⟩
        have ho : okc c = true := by unfold okc; simp; omega
        rw [show (c : Int) - 38 = ((c - 38 : Nat) : Int) by omega, f_cbh (c - 38) (by omega)]
        simp only [S_one, show c - 38 + 38 = c by omega]
        rw [if_pos ho] at hq
        exact hq
      · exact t3 (by omega)
    · exact t3 (by omega)
  unfold t_char_of
  walk_at "rs"
  simp only [l_bf]
  split
  · refine ⟨sz 5 (by decide), ?_⟩
    split
    · refine ⟨sz 5 (by decide), ?_⟩
      have ho : okc c = true := by unfold okc; simp; omega
      rw [show (c : Int) - 32 = ((c - 32 : Nat) : Int) by omega, f_cbf (c - 32) (by omega)]
      simp only [S_one, show c - 32 + 32 = c by omega]
      rw [if_pos ho] at hq
      exact hq
    · exact t4 (by omega)
  · exact t4 (by omega)
theorem rd_code_of (h : sp_code_of G vs H Q E) : t_code_of G {nx := fun _ H' => Q .non H', rt := Q} (start N_code_of vs) H := by
  obtain ⟨c, rfl, ho, hq⟩ := h
  have hlt := okc_lt ho
  show t_code_of G _ [some (.str (S [c]))] H
  unfold t_code_of
  walk_at "rs"
  simp only [s_n, S_inj, List.cons.injEq, and_true]
  split
  · rename_i e; subst e; exact hq
  · unfold t_code_of_3
    walk_at "rs"
    simp only [s_t, S_inj, List.cons.injEq, and_true]
    split
    · rename_i e; subst e; exact hq
    · rename_i n10 n9
      have h2 : 32 ≤ c ∧ c ≤ 126 ∧ c ≠ 37 := by
        unfold okc at ho
        simp at ho
        omega
      unfold t_code_of_2
      walk_at "rs"
      simp only [f_bf2 c hlt h2.1]
      split
      · rename_i h3
        have h3 : c < 37 := by simpa using h3
        rw [← S_one, f_bf c h3 h2.1]
        walk_at "rs"
        rw [show (32 : Int) + ((c - 32 : Nat) : Int) = c by omega]
        exact hq
      · rename_i h3
        have h3 : ¬ c < 37 := by simpa using h3
        unfold t_code_of_1
        walk_at "rs"
        have hb := f_bh c hlt (by omega)
        rw [← S_one]
        cases e : Builtin.Str.occurrences BH ⟨#[c]⟩ 0 BH.length 1 with
        | nil => rw [e] at hb; cases hb
        | cons i r =>
          rw [e] at hb
          cases hb
          walk_at "rs"
          rw [show (38 : Int) + ((c - 38 : Nat) : Int) = c by omega]
          exact hq
theorem rd_encode_text (h : sp_encode_text G vs H Q E) : t_encode_text G {nx := fun _ H' => Q .non H', rt := Q} (start N_encode_text vs) H := by
  obtain ⟨l, rfl, ho, hz, hq⟩ := h
  show t_encode_text G _ [some (.str (S l)), none] H
  unfold t_encode_text
  walk_at "rs"
  refine lcS (l := l) rfl (fun c => some (.int c)) (by omega) ?_ ?_
  · intro c hc H' s1 Qy Qn hy hn
    show gName 1 _ _ _ _
    simp only [wipe, List.foldl, List.set_cons_zero, List.set_cons_succ]
    walk_at "rs"
    refine ⟨c, rfl, ho c hc, ?_⟩
    exact hy _ rfl _ (Same.refl _)
  · intro p H' hp s1 e1
    refine hq p H' s1 ?_
    rw [e1, List.filterMap_eq_map']
    rfl
theorem rd_decode_text (h : sp_decode_text G vs H Q E) : t_decode_text G (fun cls d _ H' => E cls d H') {nx := fun _ H' => Q .non H', rt := Q} (start N_decode_text vs) H := by
  obtain ⟨a, ns, rfl, hl, hlt, hz, hq, he⟩ := h
  show t_decode_text G _ _ [some (.ref a), none, none, none] H
  unfold t_decode_text
  walk_at "rs"
  refine ⟨sz 0 (by decide), nw fun l H1 hl1 s1 e1 => ?_⟩
  have la1 : lstv G.K H1 a = some (octs ns) := lstv_of (s1 _ _ hl)
  simp only [rLen_lst la1, octs_len]
  refine ⟨_, rfl, by omega, by omega, ?_⟩
  refine goesR (n := ns.length) (fun i σ H' => Same H H' ∧ H' l = some (.lst ((ns.take i).map fun c => V.str (S [c]))) ∧ (ns.take i).all okc = true ∧ ∃ v w, σ = [some (.ref a), some (.ref l), v, w]) ⟨s1, e1, rfl, _, _, rfl⟩ ?_ ?_
  · rintro i σ H' hi ⟨s2, e2, hok, v, w, rfl⟩
    have la2 : lstv G.K H' a = some (octs ns) := lstv_of (s2 _ _ hl)
    obtain ⟨c, hc, ic⟩ := oat (ns := ns) (j := 0 + (i : Int)) (by omega) (by omega)
    rw [show (0 + (i : Int)).toNat = i by omega] at hc
    unfold t_decode_text_2
    walk_at "rs"
    simp only [rIx_lst la2, ic]
    refine ⟨c, rfl, hlt c (List.mem_of_getElem? hc), ?_⟩
    by_cases ho : okc c = true
    · rw [if_pos ho]
      walk_at "rs"
      unfold t_decode_text_1
      walk_at "rs"
      have l2 : lstv G.K H' l = some ((ns.take i).map fun c => V.str (S [c])) := lstv_of e2
      simp only [l2, rApp_lst e2]
      refine ⟨szl _ (by rw [List.length_map, List.length_take]; omega), Same.upd s2 hl1, ?_, ?_, _, _, rfl⟩
      · rw [upd_same, take_snoc hc, List.map_append]; rfl
      · rw [take_snoc hc, List.all_append, hok]; simp [ho]
    · rw [if_neg ho]
      walk_at "rs"
      intro d H3 hd s3 e3
      have hf := idx_first ns i c hc hok (by simpa using ho)
      refine he ?_ d H3 (s2.trans s3) ?_
      · rw [Bool.eq_false_iff]
        intro hall
        exact ho (List.all_eq_true.mp hall c (List.mem_of_getElem? hc))
      · rw [e3, show fbad ns = i from hf, show (0 + (i : Int)) = i by omega]
  · rintro σ H' ⟨s2, e2, hok, v, w, rfl⟩
    unfold t_decode_text_3
    rw [List.take_length] at hok e2
    walk_at "rs"
    have l2 : lstv G.K H' l = some ((ns.map fun c => S [c]).map V.str) := by rw [List.map_map]; exact lstv_of e2
    refine rJoin_lst l2 ?_ ?_
    · rw [s_e, S_len, List.map_map, List.length_map]
      have : ∀ l : List Nat, (l.map ((fun x : Str => x.length) ∘ fun c => S [c])).sum = l.length := by
        intro l
        induction l with
        | nil => rfl
        | cons c l ih => simp only [List.map_cons, List.sum_cons, ih, List.length_cons]; simp [S_len]; omega
      rw [this]
      simp
      omega
    · rw [s_e, join_S]
      exact hq hok H' s2
theorem rd__law_draw (h : sp__law_draw G vs H Q E) : t__law_draw G {nx := fun _ H' => Q .non H', rt := Q} (start N__law_draw vs) H := by
  obtain ⟨cell, b, rfl, rfl, hq⟩ := h
  show t__law_draw G _ [some (.int cell), some (.int 25), some (.int 1048576), none, none, none, none] H
  unfold t__law_draw
  walk_at "rs"
  refine ⟨sz 0 (by decide), nw fun l H1 hl s1 e1 => ?_⟩
  refine ⟨⟨by decide, by decide, by decide⟩, ?_⟩
  have key : ∀ (j : Nat) (H' : Hp) (i : Int) (ns : List Nat), ns.length = j → (∀ n ∈ ns, n < 1048576) → Same H H' → ∃ ns' : List Nat, ns'.length = j + 1 ∧ (∀ n ∈ ns', n < 1048576) ∧ Same H (L2.upd H' l (.lst (octs ns ++ [V.int (i % 1048576)]))) ∧ (L2.upd H' l (.lst (octs ns ++ [V.int (i % 1048576)]))) l = some (.lst (octs ns')) := by
    intro j H' i ns h1 h2 h3
    refine ⟨ns ++ [(i % 1048576).toNat], by simp [h1], ?_, Same.upd h3 hl, ?_⟩
    · intro n hn
      rcases List.mem_append.mp hn with h | h
      · exact h2 n h
      · simp at h; omega
    · rw [upd_same, octs_snoc (n := (i % 1048576).toNat) (by omega)]
  split
  · unfold t__law_draw_3
    walk_at "rs"
    refine ⟨by decide, by decide, ?_⟩
    refine goesR (n := 25) (fun j σ H' => ∃ (ns : List Nat) (c : Int) (u v w : Option V), σ = [some (.int c), some (.int 25), some (.int 1048576), some (.ref l), u, v, w] ∧ ns.length = j ∧ (∀ n ∈ ns, n < 1048576) ∧ Same H H' ∧ H' l = some (.lst (octs ns)))
      ⟨[], _, _, _, _, rfl, rfl, by simp, s1, e1⟩ ?_ ?_
    · rintro j σ H' hj ⟨ns, c, u, v, w, rfl, hn, hlt, s2, e2⟩
      unfold t__law_draw_1
      have l2 : lstv G.K H' l = some (octs ns) := lstv_of e2
      obtain ⟨ns', k1, k2, k3, k4⟩ := key j H' c ns hn hlt s2
      walk_at "rs"
      simp only [l2, rApp_lst e2]
      refine ⟨by decide, szl _ (by rw [octs_len]; omega), ?_⟩
      walk_at "rs"
      exact ⟨cd_small (by decide) (by decide), ns', _, _, _, _, rfl, k1, k2, k3, k4⟩
    · rintro σ H' ⟨ns, c, u, v, w, rfl, hn, hlt, s2, e2⟩
      unfold t__law_draw_2
      walk_at "rs"
      exact hq ns hn hlt l H' s2 e2
  · unfold t__law_draw_6
    walk_at "rs"
    refine ⟨by decide, by decide, by decide, ?_⟩
    refine goesR (n := 25) (fun j σ H' => ∃ (ns : List Nat) (c : Int) (u v : Option V), σ = [some (.int cell), some (.int 25), some (.int 1048576), some (.ref l), u, some (.int c), v] ∧ ns.length = j ∧ (∀ n ∈ ns, n < 1048576) ∧ Same H H' ∧ H' l = some (.lst (octs ns)))
      ⟨[], _, _, _, rfl, rfl, by simp, s1, e1⟩ ?_ ?_
    · rintro j σ H' hj ⟨ns, c, u, v, rfl, hn, hlt, s2, e2⟩
      unfold t__law_draw_4
      have l2 : lstv G.K H' l = some (octs ns) := lstv_of e2
      walk_at "rs"
      refine ⟨cm_r (by decide) (by decide), by decide, cm_r (by decide) (by decide), cm_l (by decide) (by decide), by decide, ?_⟩
      simp only [l2, rApp_lst e2]
      refine ⟨cd_small (by decide) (by decide), by decide, szl _ (by rw [octs_len]; omega), ?_⟩
      obtain ⟨ns', k1, k2, k3, k4⟩ := key j H' _ ns hn hlt s2
      exact ⟨ns', _, _, _, rfl, k1, k2, k3, k4⟩
    · rintro σ H' ⟨ns, c, u, v, rfl, hn, hlt, s2, e2⟩
      unfold t__law_draw_5
      walk_at "rs"
      exact hq ns hn hlt l H' s2 e2
theorem rd__law_is_integer (h : sp__law_is_integer G vs H Q E) : t__law_is_integer G {nx := fun _ H' => Q .non H', rt := Q} (start N__law_is_integer vs) H := by
  obtain ⟨i, rfl, hq⟩ := h
  show t__law_is_integer G _ [some (.int i)] H
  unfold t__law_is_integer
  walk_at "rs"
  simp only [rIsi_int kit_int_int, rIsi_int kit_int_bool]
  walk_at "rs"
  exact hq
theorem rd__law_same (h : sp__law_same G vs H Q E) : t__law_same G {nx := fun _ H' => Q .non H', rt := Q} (start N__law_same vs) H := by
  obtain ⟨a, b, ns, rfl, hz, ha, hb, hq⟩ := h
  have la : lstv G.K H a = some (octs ns) := lstv_of ha
  have lb : lstv G.K H b = some (octs ns) := lstv_of hb
  show t__law_same G _ [some (.ref a), some (.ref b), none] H
  unfold t__law_same
  walk_at "rs"
  simp only [rIsi_lst ha kit_list_list]
  walk_at "rs"
  simp only [rLen_lst la, rLen_lst lb]
  walk_at "rs"
  try simp only [decide_true, Bool.not_true, Bool.false_eq_true, if_false]
  unfold t__law_same_3
  walk_at "rs"
  simp only [rLen_lst lb, octs_len]
  refine ⟨_, rfl, by omega, by omega, ?_⟩
  refine goesR (n := ns.length) (fun j σ H' => H' = H ∧ ∃ v, σ = [some (.ref a), some (.ref b), v]) ⟨rfl, _, rfl⟩ ?_ ?_
  · rintro j σ H' hj ⟨rfl, v, rfl⟩
    unfold t__law_same_1
    obtain ⟨n, hn, en⟩ := oat (ns := ns) (j := 0 + (j:Int)) (by omega) (by omega)
    walk_at "rs"
    simp only [rIx_lst la, rIx_lst lb, en]
    refine ⟨n, rfl, ?_⟩
    walk_at "rs"
    simp only [rIx_lst la, rIx_lst lb, en]
    walk_at "rs"
    try simp only [decide_true, Bool.not_true, Bool.false_eq_true, if_false]
    first | exact ⟨rfl, _, rfl⟩ | exact ⟨_, rfl⟩
  · rintro σ H' ⟨rfl, v, rfl⟩
    unfold t__law_same_2
    walk_at "rs"
    exact hq
end

end My

namespace My
open PySem PySem.Spec PyProof.Rows L2 R
local macro_rules | `(tactic| walk_at "rs") => `(tactic| ((try simp only [tSeq, tAp_e, tAsg, gName, tv0, tvs, tC, tOp, tUn, tTest, tAnd, tOr, tNot, tIf, tIfS, tRet, tRetN, tNext, tDrop, tCB, tCons, tNil, tAug_e, tCall, tAndV, tOrV, tChain, tTr, tNotU, tML, tMS, tForU, iLst, iTp, iSt, iRng1, iRng2, tLcU, tLst_e, tTup_e, tSl, tPart_e, tNoPart, tYes, tBreak, tCont, tRs_e, tCallW_e, tMkF, gSub_e, rIs_e, rIsN_e, decide_true, decide_false, rOrd_str, rSidx_str,   rSub_int, rFdiv_int, rMod_int, rShl_int, rShr_int, rXor_int, rAndB_int, rOrB_int, rPow_int, rAddU_int, rAddU_str, rMul_int, rIadd_int, rIadd_str, rLt_int, rLe_int, rGt_int, rGe_int, rEqU_int, rNeU_int, rEqU_str, rNeU_str, rEqU_bl, rNeU_bl, rInt_int, rAbs_int, rMax2_int, rMin2_int, mU_int, truV_bl, truV_int, truV_non, exBl, exInt, exInt2, exIntV, rLen_str, rIx_str, rSl_str, rInU_str,    List.set_cons_zero, List.set_cons_succ, List.append_nil, List.nil_append, List.cons_append, List.length_cons, List.length_nil, if_true, if_false, ite_true, ite_false, Bool.false_eq_true, decide_eq_true_eq, Bool.not_true, Bool.not_false, Bool.not_eq_true, Bool.not_eq_false, exists_eq_left', exists_eq_left, V.bl.injEq, V.int.injEq, V.str.injEq, V.ref.injEq, reduceCtorEq, and_true, true_and, ↓reduceIte]); (try with_reducible intro (ap : R.Apart _ _))))
local macro_rules | `(tactic| walk_at "rh") => `(tactic| ((try simp only [tSeq, tAp_e, tAsg, gName, tv0, tvs, tC, tOp, tUn, tTest, tAnd, tOr, tNot, tIf, tIfS, tRet, tRetN, tNext, tDrop, tCB, tCons, tNil, tAug_e, tCall, tAndV, tOrV, tChain, tTr, tNotU, tML, tMS, tForU, iLst, iTp, iSt, iRng1, iRng2, tLcU, tLst_e, tTup_e, tSl, tPart_e, tNoPart, tYes, tBreak, tCont, tRs_e, tCallW_e, tMkF, gSub_e, rIs_e, rIsN_e, decide_true, decide_false, rOrd_str, rSidx_str,   rSub_int, rFdiv_int, rMod_int, rShl_int, rShr_int, rXor_int, rAndB_int, rOrB_int, rPow_int, rAddU_int, rAddU_str, rMul_int, rIadd_int, rIadd_str, rLt_int, rLe_int, rGt_int, rGe_int, rEqU_int, rNeU_int, rEqU_str, rNeU_str, rEqU_bl, rNeU_bl, rInt_int, rAbs_int, rMax2_int, rMin2_int, mU_int, truV_bl, truV_int, truV_non, exBl, exInt, exInt2, exIntV, rLen_str, rIx_str, rSl_str, rInU_str,    List.set_cons_zero, List.set_cons_succ, List.append_nil, List.nil_append, List.cons_append, List.length_cons, List.length_nil, if_true, if_false, ite_true, ite_false, Bool.false_eq_true, decide_eq_true_eq, Bool.not_true, Bool.not_false, Bool.not_eq_true, Bool.not_eq_false, exists_eq_left', exists_eq_left, V.bl.injEq, V.int.injEq, V.str.injEq, V.ref.injEq, reduceCtorEq, and_true, true_and, ↓reduceIte]); (try with_reducible intro (ap : R.Apart _ _)); (try simp only [tSeq, tAp_e, tAsg, gName, tv0, tvs, tC, tOp, tUn, tTest, tAnd, tOr, tNot, tIf, tIfS, tRet, tRetN, tNext, tDrop, tCB, tCons, tNil, tAug_e, tCall, tAndV, tOrV, tChain, tTr, tNotU, tML, tMS, tForU, iLst, iTp, iSt, iRng1, iRng2, tLcU, tLst_e, tTup_e, tSl, tPart_e, tNoPart, tYes, tBreak, tCont, tRs_e, tCallW_e, tMkF, gSub_e, rIs_e, rIsN_e, decide_true, decide_false, rOrd_str, rSidx_str,   rSub_int, rFdiv_int, rMod_int, rShl_int, rShr_int, rXor_int, rAndB_int, rOrB_int, rPow_int, rAddU_int, rAddU_str, rMul_int, rIadd_int, rIadd_str, rLt_int, rLe_int, rGt_int, rGe_int, rEqU_int, rNeU_int, rEqU_str, rNeU_str, rEqU_bl, rNeU_bl, rInt_int, rAbs_int, rMax2_int, rMin2_int, mU_int, truV_bl, truV_int, truV_non, exBl, exInt, exInt2, exIntV, rLen_str, rIx_str, rSl_str, rInU_str,    List.set_cons_zero, List.set_cons_succ, List.append_nil, List.nil_append, List.cons_append, List.length_cons, List.length_nil, if_true, if_false, ite_true, ite_false, Bool.false_eq_true, decide_eq_true_eq, Bool.not_true, Bool.not_false, Bool.not_eq_true, Bool.not_eq_false, exists_eq_left', exists_eq_left, V.bl.injEq, V.int.injEq, V.str.injEq, V.ref.injEq, reduceCtorEq, and_true, true_and, ↓reduceIte, sqv_e, rLenU_ref, rListOf_ref, rIxU_ref, rSlU_ref, rApp_ref, rAddU_ref, truV_ref, rInU_ref, rMulU_ref, true_implies, forall_const, *])))

open N62
section
variable {P : Program} {w : World} {G : GG} {mg : Str → Option Value} {base : Heap} (T : Top P w G mg base) {vs : List V} {H : Hp} {Q : VK} {E : XK}
include T
theorem rd_is_text (h : sp_is_text G vs H Q E) : t_is_text G {nx := fun _ H' => Q .non H', rt := Q} (start N_is_text vs) H := by
  obtain ⟨l, rfl, ho, hq⟩ := h
  show t_is_text G _ [some (.str (S l)), none] H
  unfold t_is_text
  walk_at "rs"
  refine goesS (l := l) rfl (fun i σ H' => Same H H' ∧ ∃ v, σ = [some (.str (S l)), v]) ⟨Same.refl _, _, rfl⟩ ?_ ?_
  · rintro i c σ H' hi ⟨s1, v, rfl⟩
    have hc := ho c (List.mem_of_getElem? hi)
    have hlt := okc_lt hc
    have key : ∀ H2, Same H' H2 → ∀ v, Same H H2 ∧ ∃ v', [some (V.str (S l)), v] = [some (V.str (S l)), v'] := fun H2 s2 v => ⟨s1.trans s2, _, rfl⟩
    unfold t_is_text_1
    walk_at "rs"
    split
    · rename_i h1
      split
      · rename_i h2
        refine ⟨sz 2 (by decide), nw fun p H2 hp s2 e2 => ?_⟩
        have l2 := lstv_of (K := G.K) e2
        simp only [rInU_ref, sqv_l l2]
        refine ⟨rfl, rfl, ?_⟩
        have h3 : c = 10 ∨ c = 9 := by
          have : ∀ c < 127, okc c = true → (c == 10 || c == 9 || decide (c ∈ BF.cps.toList) || decide (c ∈ BH.cps.toList)) = true := by decide +kernel
          have := this c hlt hc
          rw [R.inS_one] at h1 h2
          simp only [Bool.or_eq_true, beq_iff_eq] at this
          rcases this with ((h | h) | h) | h
          · exact .inl h
          · exact .inr h
          · rw [h] at h1; cases h1
          · rw [h] at h2; cases h2
        have h4 : inV (.str ⟨#[c]⟩) [V.str (Str.ofString "\n"), V.str (Str.ofString "\t")] = true := by
          rw [s_n, s_t]
          rcases h3 with rfl | rfl <;> decide +kernel
        rw [h4]
        walk_at "rs"
        exact key _ s2 _
      · exact key _ (Same.refl _) _
    · exact key _ (Same.refl _) _
  · rintro σ H' ⟨s1, v, rfl⟩
    unfold t_is_text_2
    walk_at "rs"
    exact hq _ s1
theorem rd__law_told (h : sp__law_told G vs H Q E) : t__law_told G {nx := fun _ H' => Q .non H', rt := Q} (start N__law_told vs) H := by
  obtain ⟨a, ns, rfl, hl, hlt, hz, hq, he⟩ := h
  show t__law_told G _ [some (.ref a), none] H
  unfold t__law_told tTryAs
  walk_at "rs"
  refine ⟨a, ns, rfl, hl, hlt, hz, hq, fun hall d H1 s1 e1 => ?_⟩
  refine ⟨true, T.em_InvalidText_FormstripesError, fun _ ea h0 => ?_, fun z => nomatch z⟩
  walk_at "rs"
  refine rIsX_i e1 T.xc_InvalidText T.ko_InvalidText_InvalidText ?_
  walk_at "rs"
  refine rIsX_i e1 T.xc_InvalidText T.ko_InvalidText_InvalidJson ?_
  walk_at "rs"
  refine rIsX_t e1 T.xc_InvalidText T.kv_InvalidText ?_
  walk_at "rs"
  refine ⟨_, rfl, T.xf_InvalidText, T.nn_InvalidText, ?_⟩
  walk_at "rs"
  refine ⟨d, _, .str "InvalidText", rfl, e1, rfl, ?_⟩
  refine ⟨_, rfl, T.xf_InvalidText, T.np_InvalidText, ?_⟩
  walk_at "rs"
  exact ⟨d, _, .int (fbad ns : Nat), rfl, e1, rfl, sz 2 (by decide), nw fun q H4 hq0 s4 e4 => he hall q H4 (s1.trans s4) e4⟩
theorem rd__law_alphabet (h : sp__law_alphabet G vs H Q E) : t__law_alphabet G {nx := fun _ H' => Q .non H', rt := Q} (start N__law_alphabet vs) H := by
  obtain ⟨rfl, hq⟩ := h
  show t__law_alphabet G _ [none, none, none, none] H
  unfold t__law_alphabet
  walk_at "rs"
  intro p hp
  simp only [tPairs_cons, tPairs_nil]
  walk_at "rs"
  refine ⟨upd_same, [(.inr "\n", .int 10), (.inr "\t", .int 9)], rfl, by decide, ?_⟩
  have e0 : mergeK [] [(.inr (Str.ofString "\n"), V.int 10), (.inr (Str.ofString "\t"), V.int 9)] = [10, 9].map fk := by rw [s_n, s_t]; decide +kernel
  rw [e0]
  have s1 : Same H (L2.upd (L2.upd H p (.dK [])) p (.dK ([10, 9].map fk))) := fun b o e => by
    have := ne_of_none e hp
    rw [upd_ne this, upd_ne this]; exact e
  have e1 : (L2.upd (L2.upd H p (.dK [])) p (.dK ([10, 9].map fk))) p = some (.dK ([10, 9].map fk)) := upd_same
  generalize L2.upd (L2.upd H p (.dK [])) p (.dK ([10, 9].map fk)) = H1 at s1 e1 ⊢
  have lm : ∀ (n : Nat) (k : Nat) (i : Nat), i < n → (∀ c ∈ ([10, 9] : List Nat), c < k) → k + i ∉ ([10, 9] : List Nat) ++ (List.range i).map (· + k) := by
    intro n k i hi hk hm
    rcases List.mem_append.mp hm with h | h
    · have := hk _ h; omega
    · simp at h; omega
  simp only [l_bf]
  refine ⟨sz 5 (by decide), by decide, by decide, ?_⟩
  refine goesR (n := 5) (fun i σ H' => Same H H' ∧ H' p = some (.dK (([10, 9] ++ (List.range i).map (· + 32)).map fk)) ∧ ∃ v, σ = [some (.str BF), some (.str BH), some (.ref p), v]) ⟨s1, e1, _, rfl⟩ ?_ ?_
  · rintro i σ H' hi ⟨s2, e2, v, rfl⟩
    unfold t__law_alphabet_1
    walk_at "rs"
    rw [show (0 : Int) + (i : Int) = ((i : Nat) : Int) by omega, f_cbf i hi]
    simp only [S_one]
    refine ⟨by rw [l_bf]; exact sz 5 (by decide), ?_⟩
    refine rSetU_str e2 (szl _ (by simp; omega)) ?_
    have hx := put_fk ([10, 9] ++ (List.range i).map (· + 32)) (i + 32) (by rw [Nat.add_comm]; exact lm 5 32 i hi (by decide))
    rw [show (32 : Int) + (i : Int) = ((i + 32 : Nat) : Int) by omega, hx]
    refine ⟨Same.upd s2 hp, ?_, _, rfl⟩
    have hB : (List.range (i + 1)).map (· + 32) = (List.range i).map (· + 32) ++ [i + 32] := by rw [List.range_succ, List.map_append]; rfl
    rw [upd_same, hB]; simp only [List.cons_append, List.nil_append, List.append_assoc]
  · rintro σ H' ⟨s2, e2, v, rfl⟩
    unfold t__law_alphabet_4
    walk_at "rs"
    simp only [l_bh]
    refine ⟨sz 89 (by decide), by decide, by decide, ?_⟩
    refine goesR (n := 89) (fun i σ H' => Same H H' ∧ H' p = some (.dK (([10, 9] ++ (List.range 5).map (· + 32) ++ (List.range i).map (· + 38)).map fk)) ∧ ∃ v, σ = [some (.str BF), some (.str BH), some (.ref p), v]) ⟨s2, by rw [e2]; rfl, _, rfl⟩ ?_ ?_
    · rintro i σ H' hi ⟨s2, e2, v, rfl⟩
      unfold t__law_alphabet_2
      walk_at "rs"
      rw [show (0 : Int) + (i : Int) = ((i : Nat) : Int) by omega, f_cbh i hi]
      simp only [S_one]
      refine ⟨by rw [l_bh]; exact sz 89 (by decide), ?_⟩
      refine rSetU_str e2 (szl _ (by simp; omega)) ?_
      have hx := put_fk ([10, 9] ++ (List.range 5).map (· + 32) ++ (List.range i).map (· + 38)) (i + 38) (by
        intro hm
        rcases List.mem_append.mp hm with h | h
        · have : ∀ c ∈ ([10, 9] ++ (List.range 5).map (· + 32) : List Nat), c < 38 := by decide
          have := this _ h
          omega
        · simp at h)
      rw [show (38 : Int) + (i : Int) = ((i + 38 : Nat) : Int) by omega, hx]
      refine ⟨Same.upd s2 hp, ?_, _, rfl⟩
      have hB : (List.range (i + 1)).map (· + 38) = (List.range i).map (· + 38) ++ [i + 38] := by rw [List.range_succ, List.map_append]; rfl
      rw [upd_same, hB]; simp only [List.cons_append, List.nil_append, List.append_assoc]
    · rintro σ H' ⟨s2, e2, v, rfl⟩
      unfold t__law_alphabet_3
      walk_at "rs"
      exact hq p H' s2 e2
end

end My

namespace My
open PySem PySem.Spec PyProof.Rows L2 R
local macro_rules | `(tactic| walk_at "rs") => `(tactic| ((try simp only [tSeq, tAp_e, tAsg, gName, tv0, tvs, tC, tOp, tUn, tTest, tAnd, tOr, tNot, tIf, tIfS, tRet, tRetN, tNext, tDrop, tCB, tCons, tNil, tAug_e, tCall, tAndV, tOrV, tChain, tTr, tNotU, tML, tMS, tForU, iLst, iTp, iSt, iRng1, iRng2, tLcU, tLst_e, tTup_e, tSl, tPart_e, tNoPart, tYes, tBreak, tCont, tRs_e, tCallW_e, tMkF, gSub_e, rIs_e, rIsN_e, decide_true, decide_false, rOrd_str, rSidx_str,   rSub_int, rFdiv_int, rMod_int, rShl_int, rShr_int, rXor_int, rAndB_int, rOrB_int, rPow_int, rAddU_int, rAddU_str, rMul_int, rIadd_int, rIadd_str, rLt_int, rLe_int, rGt_int, rGe_int, rEqU_int, rNeU_int, rEqU_str, rNeU_str, rEqU_bl, rNeU_bl, rInt_int, rAbs_int, rMax2_int, rMin2_int, mU_int, truV_bl, truV_int, truV_non, exBl, exInt, exInt2, exIntV, rLen_str, rIx_str, rSl_str, rInU_str,    List.set_cons_zero, List.set_cons_succ, List.append_nil, List.nil_append, List.cons_append, List.length_cons, List.length_nil, if_true, if_false, ite_true, ite_false, Bool.false_eq_true, decide_eq_true_eq, Bool.not_true, Bool.not_false, Bool.not_eq_true, Bool.not_eq_false, exists_eq_left', exists_eq_left, V.bl.injEq, V.int.injEq, V.str.injEq, V.ref.injEq, reduceCtorEq, and_true, true_and, ↓reduceIte]); (try with_reducible intro (ap : R.Apart _ _))))
local macro_rules | `(tactic| walk_at "rh") => `(tactic| ((try simp only [tSeq, tAp_e, tAsg, gName, tv0, tvs, tC, tOp, tUn, tTest, tAnd, tOr, tNot, tIf, tIfS, tRet, tRetN, tNext, tDrop, tCB, tCons, tNil, tAug_e, tCall, tAndV, tOrV, tChain, tTr, tNotU, tML, tMS, tForU, iLst, iTp, iSt, iRng1, iRng2, tLcU, tLst_e, tTup_e, tSl, tPart_e, tNoPart, tYes, tBreak, tCont, tRs_e, tCallW_e, tMkF, gSub_e, rIs_e, rIsN_e, decide_true, decide_false, rOrd_str, rSidx_str,   rSub_int, rFdiv_int, rMod_int, rShl_int, rShr_int, rXor_int, rAndB_int, rOrB_int, rPow_int, rAddU_int, rAddU_str, rMul_int, rIadd_int, rIadd_str, rLt_int, rLe_int, rGt_int, rGe_int, rEqU_int, rNeU_int, rEqU_str, rNeU_str, rEqU_bl, rNeU_bl, rInt_int, rAbs_int, rMax2_int, rMin2_int, mU_int, truV_bl, truV_int, truV_non, exBl, exInt, exInt2, exIntV, rLen_str, rIx_str, rSl_str, rInU_str,    List.set_cons_zero, List.set_cons_succ, List.append_nil, List.nil_append, List.cons_append, List.length_cons, List.length_nil, if_true, if_false, ite_true, ite_false, Bool.false_eq_true, decide_eq_true_eq, Bool.not_true, Bool.not_false, Bool.not_eq_true, Bool.not_eq_false, exists_eq_left', exists_eq_left, V.bl.injEq, V.int.injEq, V.str.injEq, V.ref.injEq, reduceCtorEq, and_true, true_and, ↓reduceIte]); (try with_reducible intro (ap : R.Apart _ _)); (try simp only [tSeq, tAp_e, tAsg, gName, tv0, tvs, tC, tOp, tUn, tTest, tAnd, tOr, tNot, tIf, tIfS, tRet, tRetN, tNext, tDrop, tCB, tCons, tNil, tAug_e, tCall, tAndV, tOrV, tChain, tTr, tNotU, tML, tMS, tForU, iLst, iTp, iSt, iRng1, iRng2, tLcU, tLst_e, tTup_e, tSl, tPart_e, tNoPart, tYes, tBreak, tCont, tRs_e, tCallW_e, tMkF, gSub_e, rIs_e, rIsN_e, decide_true, decide_false, rOrd_str, rSidx_str,   rSub_int, rFdiv_int, rMod_int, rShl_int, rShr_int, rXor_int, rAndB_int, rOrB_int, rPow_int, rAddU_int, rAddU_str, rMul_int, rIadd_int, rIadd_str, rLt_int, rLe_int, rGt_int, rGe_int, rEqU_int, rNeU_int, rEqU_str, rNeU_str, rEqU_bl, rNeU_bl, rInt_int, rAbs_int, rMax2_int, rMin2_int, mU_int, truV_bl, truV_int, truV_non, exBl, exInt, exInt2, exIntV, rLen_str, rIx_str, rSl_str, rInU_str,    List.set_cons_zero, List.set_cons_succ, List.append_nil, List.nil_append, List.cons_append, List.length_cons, List.length_nil, if_true, if_false, ite_true, ite_false, Bool.false_eq_true, decide_eq_true_eq, Bool.not_true, Bool.not_false, Bool.not_eq_true, Bool.not_eq_false, exists_eq_left', exists_eq_left, V.bl.injEq, V.int.injEq, V.str.injEq, V.ref.injEq, reduceCtorEq, and_true, true_and, ↓reduceIte, sqv_e, rLenU_ref, rListOf_ref, rIxU_ref, rSlU_ref, rApp_ref, rAddU_ref, truV_ref, rInU_ref, rMulU_ref, true_implies, forall_const, *])))

open N62
theorem at_map {α : Type} (f : α → V) (l : List α) {j : Nat} (hj : j < l.length) : atI (l.map f) (j : Int) = some (f l[j]) := by
  unfold atI ixN
  rw [if_pos (by omega), List.length_map, if_pos (by omega)]
  simp [hj]
abbrev SV (c : Nat) : V := .str (S [c])
abbrev SL : List V := AL.map SV
def gg (n : Nat) : Nat := AL.getD (n % 96) 0
theorem gg_eq (n : Nat) (h : n % 96 < AL.length) : gg n = AL[n % 96] := by unfold gg; rw [List.getD_eq_getElem?_getD, List.getElem?_eq_getElem h]; rfl
theorem gg_lt (n : Nat) : n % 96 < AL.length := by rw [al_len]; omega
theorem gg_ok (n : Nat) : okc (gg n) = true := by
  rw [gg_eq n (gg_lt n)]
  exact al_ok _ (List.getElem_mem _)
theorem gg_at (n : Nat) : atI SL ((n : Int) % 96) = some (.str (S [gg n])) := by
  rw [show (n : Int) % 96 = ((n % 96 : Nat) : Int) by omega, gg_eq n (gg_lt n)]
  exact at_map SV AL (gg_lt n)
theorem cd_vals : N62.CD.map (·.2) = AL.map fun n : Nat => V.int n := by unfold N62.CD; rw [List.map_map]; rfl
theorem cd_keys : (N62.CD.map fun kv => kV kv.1) = SL := by unfold N62.CD; rw [List.map_map]; rfl
theorem sl_len : SL.length = 96 := by rw [List.length_map, al_len]
theorem join_len (l : List Nat) : (List.map ((fun x : Str => x.length) ∘ fun c => S [c]) l).sum = l.length := by
  induction l with
  | nil => rfl
  | cons c l ih => simp only [List.map_cons, List.sum_cons, ih, List.length_cons]; simp [S_len]; omega
theorem oat25 {ns : List Nat} (hz : ns.length = 25) (hlt : ∀ n ∈ ns, n < 1048576) (j : Int) (h0 : 0 ≤ j := by decide) (h : j < 25 := by decide) : ∃ n : Nat, n < 1048576 ∧ atI (octs ns) j = some (.int n) := by
  obtain ⟨n, h1, h2⟩ := oat (ns := ns) h0 (by omega)
  exact ⟨n, hlt n (List.mem_of_getElem? h1), h2⟩
section
variable {P : Program} {w : World} {G : GG} {mg : Str → Option Value} {base : Heap} {H : Hp} {D : Ends} {a c g p o : Addr} {u0 u1 u2 u3 u4 u5 u6 u7 u8 u9 u10 u11 u12 : Option V} {ns ms : List Nat}
/-- what a turn is to end by -/
abbrev Good (D : Ends) (H : Hp) (a c g : Addr) : Prop := ∀ (u3 u4 u5 u6 u7 u8 u9 u10 u11 u12 : Option V) (H' : Hp), Same H H' → D.nx [some (.ref a), some (.ref c), some (.ref g), u3, u4, u5, u6, u7, u8, u9, u10, u11, u12] H'
theorem Good.mono {H H' : Hp} (k : Good D H a c g) (s : Same H H') : Good D H' a c g := fun u3 u4 u5 u6 u7 u8 u9 u10 u11 u12 H2 s2 => k u3 u4 u5 u6 u7 u8 u9 u10 u11 u12 H2 (s.trans s2)
/-- what due is to be -/
def Due (H : Hp) (ns : List Nat) (u : V) : Prop := (ns.all okc = true ∧ u = .str (S ns)) ∨ (ns.all okc = false ∧ ∃ q, u = .ref q ∧ H q = some (.tup [.str "InvalidText", .int (fbad ns : Nat)]))
theorem b_2 {u : V} (ho : H o = some (.lst (octs ns))) (hlt : ∀ n ∈ ns, n < 256) (hz : ns.length ≤ 60) (hd : Due H ns u) (k : Good D H a c g) :
    t_law_2 G D [some (.ref a), some (.ref c), some (.ref g), u3, u4, u5, some (.ref o), some u, u8, u9, u10, u11, u12] H := by
  unfold t_law_2
  walk_at "rs"
  simp only [rListOf_lst (lstv_of (K := G.K) ho)]
  refine nw fun h H1 hh s1 e1 => ?_
  have o1 := s1 _ _ ho
  walk_at "rs"
  refine ⟨h, ns, rfl, e1, hlt, by omega, fun hall H2 s2 => ?_, fun hall q H2 s2 e2 => ?_⟩
  · rcases hd with ⟨_, rfl⟩ | ⟨h2, _⟩
    · walk_at "rs"
      refine rNe_octs (lstv_of (s2 _ _ e1)) (lstv_of (s2 _ _ o1)) ?_
      walk_at "rs"
      exact k _ _ _ _ _ _ _ _ _ _ _ (s1.trans s2)
    · rw [hall] at h2; cases h2
  · rcases hd with ⟨h2, _⟩ | ⟨_, q2, rfl, eq2⟩
    · rw [hall] at h2; cases h2
    · walk_at "rs"
      refine rNe_same (.tuple [.str "InvalidText", .int (fbad ns : Nat)]) rfl (.tup (SqT.of e2) (.cons (.str _) (.cons (.int _) .nil))) (.tup (SqT.of (s2 _ _ (s1 _ _ eq2))) (.cons (.str _) (.cons (.int _) .nil))) (by kernel_rfl) ?_
      walk_at "rs"
      refine rNe_octs (lstv_of (s2 _ _ e1)) (lstv_of (s2 _ _ o1)) ?_
      walk_at "rs"
      exact k _ _ _ _ _ _ _ _ _ _ _ (s1.trans s2)
/-- due before the join -/
def Due0 (H : Hp) (ns : List Nat) (u : V) : Prop := (ns.all okc = true ∧ u = .non) ∨ (ns.all okc = false ∧ ∃ q, u = .ref q ∧ H q = some (.tup [.str "InvalidText", .int (fbad ns : Nat)]))
theorem b_3 {u : V} (hc : H c = some (.dK N62.CD)) (hg : H g = some (.lst SL)) (ho : H o = some (.lst (octs ns))) (hlt : ∀ n ∈ ns, n < 256) (hz : ns.length ≤ 60) (hd : Due0 H ns u) (k : Good D H a c g) :
    t_law_3 G D [some (.ref a), some (.ref c), some (.ref g), u3, u4, u5, some (.ref o), some u, u8, u9, u10, u11, u12] H := by
  unfold t_law_3
  rcases hd with ⟨hall, rfl⟩ | ⟨hall, q, rfl, eq⟩
  · walk_at "rs"
    simp only [lstv_of (K := G.K) ho]
    have hal := List.all_eq_true.mp hall
    refine lcL (xs := octs ns) (fun v => match v with | .int i => some (SV i.toNat) | _ => none) (fun H' s => lstv_of (s _ _ ho)) (by rw [octs_len]; exact sz _ (by omega)) ?_ ?_
    · intro x hx H' s1 Qy Qn hy hn
      obtain ⟨n, hn2, rfl⟩ := List.mem_map.mp hx
      have hok := hal n hn2
      obtain ⟨j1, j2, j3⟩ := al_ix n (okc_lt hok) hok
      show gName 12 _ _ _ _
      simp only [wipe, List.foldl, List.set_cons_zero, List.set_cons_succ]
      walk_at "rs"
      unfold tListVals
      walk_at "rs"
      simp only [s1 _ _ hc]
      refine nw fun p H2 hp s2 e2 => ?_
      rw [cd_vals] at e2
      have l2 := lstv_of (K := G.K) e2
      have lg : lstv G.K H2 g = some SL := lstv_of (s2 _ _ (s1 _ _ hg))
      simp only [l2, rIndexU]
      refine ⟨AL.idxOf n, .int n, rfl, by rw [List.all_map]; exact List.all_eq_true.mpr fun _ _ => rfl, by rw [List.getElem?_map, j2]; rfl, by simp [eqV], ?_, ?_⟩
      · intro m z' hm hz'
        rw [List.getElem?_map] at hz'
        have := j3 m hm
        cases e : AL[m]? with
        | none => rw [e] at hz'; cases hz'
        | some x =>
          rw [e] at hz' this
          cases hz'
          simp [eqV]
          intro he
          exact this (congrArg some (Int.ofNat.inj he))
      · have hat := at_map SV AL (j := AL.idxOf n) (by rw [al_len]; exact j1)
        have hge : AL[AL.idxOf n]'(by rw [al_len]; exact j1) = n := (List.getElem?_eq_some_iff.mp j2).2
        rw [hge] at hat
        simp only [rIx_lst lg, hat]
        exact hy _ (by simp) _ s2
    · intro p H1 hp s1 e1
      have l1 : lstv G.K H1 p = some ((ns.map fun c => S [c]).map V.str) := by
        rw [List.map_map]
        refine lstv_of ?_
        rw [e1]
        congr 2
        unfold octs
        rw [List.filterMap_map, ← List.filterMap_eq_map]
        congr 1
      walk_at "rs"
      refine rJoin_lst l1 ?_ ?_
      · rw [s_e, S_len, List.map_map, List.length_map, join_len]
        simp
        omega
      · rw [s_e, join_S]
        exact b_2 (s1 _ _ ho) hlt hz (.inl ⟨hall, rfl⟩) (k.mono s1)
  · walk_at "rs"
    exact b_2 ho hlt hz (.inr ⟨hall, q, rfl, eq⟩) k
theorem b_4 (hc : H c = some (.dK N62.CD)) (hg : H g = some (.lst SL)) (ho : H o = some (.lst (octs ns))) (hlt : ∀ n ∈ ns, n < 256) (hz : ns.length ≤ 60) (k : Good D H a c g) :
    t_law_4 G D [some (.ref a), some (.ref c), some (.ref g), u3, u4, u5, some (.ref o), u7, u8, u9, u10, u11, u12] H := by
  unfold t_law_4
  walk_at "rs"
  simp only [rLen_lst (lstv_of (K := G.K) ho), octs_len]
  refine ⟨_, rfl, by omega, by omega, ?_⟩
  refine goesR (n := ns.length) (fun i σ H' => Same H H' ∧ ∃ (u : V) (v : Option V), σ = [some (.ref a), some (.ref c), some (.ref g), u3, u4, u5, some (.ref o), some u, v, u9, u10, u11, u12] ∧
    (((ns.take i).all okc = true ∧ u = .non) ∨ (ns.all okc = false ∧ ∃ q, u = .ref q ∧ H' q = some (.tup [.str "InvalidText", .int (fbad ns : Nat)])))) ⟨Same.refl _, _, _, rfl, .inl ⟨rfl, rfl⟩⟩ ?_ ?_
  · rintro i σ H' hi ⟨s1, u, v, rfl, hd⟩
    unfold t_law_1
    rcases hd with ⟨hok, rfl⟩ | ⟨hall, q, rfl, eq⟩
    · have lo : lstv G.K H' o = some (octs ns) := lstv_of (s1 _ _ ho)
      obtain ⟨x, hx, ix⟩ := oat (ns := ns) (j := 0 + (i : Int)) (by omega) (by omega)
      rw [show (0 + (i : Int)).toNat = i by omega] at hx
      have hx256 := hlt x (List.mem_of_getElem? hx)
      walk_at "rs"
      simp only [rIx_lst lo, ix]
      unfold tListVals
      walk_at "rs"
      simp only [s1 _ _ hc]
      refine nw fun p H2 hp s2 e2 => ?_
      rw [cd_vals] at e2
      have l2 := lstv_of (K := G.K) e2
      simp only [rInU_ref, sqv_l l2]
      refine ⟨rfl, by rw [List.all_map]; exact List.all_eq_true.mpr fun _ _ => rfl, ?_⟩
      rw [al_in x hx256]
      walk_at "rs"
      have htk : (ns.take (i + 1)).all okc = okc x := by rw [take_snoc hx, List.all_append, hok]; simp
      split
      · rename_i hb
        have hb : okc x = false := by simpa using hb
        refine ⟨sz 2 (by decide), nw fun q H3 hq s3 e3 => ?_⟩
        refine ⟨s1.trans (s2.trans s3), _, _, rfl, .inr ⟨?_, q, rfl, ?_⟩⟩
        · rw [Bool.eq_false_iff]
          intro hall
          have := List.all_eq_true.mp hall x (List.mem_of_getElem? hx)
          rw [hb] at this; cases this
        · rw [e3, show fbad ns = i from idx_first ns i x hx hok hb, show (0 + (i : Int)) = i by omega]
      · rename_i hb
        have hb : okc x = true := by simpa using hb
        exact ⟨s1.trans s2, _, _, rfl, .inl ⟨by rw [htk, hb], rfl⟩⟩
    · walk_at "rs"
      exact ⟨s1, _, _, rfl, .inr ⟨hall, q, rfl, eq⟩⟩
  · rintro σ H' ⟨s1, u, v, rfl, hd⟩
    rw [List.take_length] at hd
    exact b_3 (s1 _ _ hc) (s1 _ _ hg) (s1 _ _ ho) hlt hz hd (k.mono s1)
theorem b_5 (hc : H c = some (.dK N62.CD)) (hg : H g = some (.lst SL)) (hp : H p = some (.lst (octs ns))) (hn : ns.length = 25) (hnl : ∀ n ∈ ns, n < 1048576) (k : Good D H a c g) :
    t_law_5 G D [some (.ref a), some (.ref c), some (.ref g), u3, some (.ref p), u5, u6, u7, u8, u9, u10, u11, u12] H := by
  have lp : lstv G.K H p = some (octs ns) := lstv_of hp
  obtain ⟨n19, h19, i19⟩ := oat25 hn hnl 19
  obtain ⟨n20, h20, i20⟩ := oat25 hn hnl 20
  obtain ⟨n21, h21, i21⟩ := oat25 hn hnl 21
  obtain ⟨n22, h22, i22⟩ := oat25 hn hnl 22
  obtain ⟨n23, h23, i23⟩ := oat25 hn hnl 23
  unfold t_law_5
  walk_at "rs"
  simp only [rIx_lst lp, i23]
  walk_at "rs"
  refine ⟨by decide, ?_⟩
  simp only [rSl_lst lp]
  refine nw fun q H1 hq s1 e1 => ?_
  obtain ⟨ms, em, hm1, hm2⟩ := cut_octs ns none (some ((n23 : Int) % 13))
  rw [em] at e1
  simp only [lstv_of (K := G.K) e1]
  refine lcO gg (fun H' s => lstv_of (s _ _ e1)) (by omega) ?_ ?_
  · intro n hn2 H' s Qy Qn hy
    have lg : lstv G.K H' g = some SL := lstv_of (s _ _ (s1 _ _ hg))
    show gName 10 _ _ _ _
    simp only [wipe, List.foldl, List.set_cons_zero, List.set_cons_succ]
    walk_at "rs"
    simp only [tDGet]
    walk_at "rs"
    simp only [rLen_lst lg, sl_len]
    walk_at "rs"
    refine ⟨by decide, ?_⟩
    have hat := gg_at n
    rw [show (((96 : Nat) : Int)) = 96 from rfl]
    simp only [rIx_lst lg, hat]
    exact ⟨c, .int (gg n), rfl, dget_k (k := .inr (S [gg n])) (s _ _ (s1 _ _ hc)) (cd_get _ (okc_lt (gg_ok n)) (gg_ok n)), hy _ (Same.refl _)⟩
  · intro o H2 ho s2 e2
    have s12 := s1.trans s2
    have hg2 := s12 _ _ hg
    have hc2 := s12 _ _ hc
    have hoct : ∀ n ∈ ms.map gg, n < 256 := by
      intro n hn
      obtain ⟨x, _, rfl⟩ := List.mem_map.mp hn
      have := okc_lt (gg_ok x)
      omega
    have hlen : (ms.map gg).length ≤ 25 := by rw [List.length_map]; omega
    generalize ms.map gg = xs at e2 hoct hlen
    have lp2 : lstv G.K H2 p = some (octs ns) := lstv_of (s12 _ _ hp)
    have lo : lstv G.K H2 o = some (octs xs) := lstv_of e2
    walk_at "rs"
    simp only [rIx_lst lp2, i22]
    walk_at "rs"
    refine ⟨by decide, ?_⟩
    have plain : t_law_4 G D [some (.ref a), some (.ref c), some (.ref g), u3, some (.ref p), u5, some (.ref o), u7, u8, u9, u10, u11, u12] H2 :=
      b_4 hc2 hg2 e2 hoct (by omega) (k.mono s12)
    split
    · simp only [rLen_lst lo, octs_len]
      walk_at "rs"
      split
      · rename_i hpos
        simp only [rIx_lst lp2, i20]
        walk_at "rs"
        refine ⟨by decide, sz 8 (by decide), nw fun t H3 ht s3 e3 => ?_⟩
        have lp3 : lstv G.K H3 p = some (octs ns) := lstv_of (s3 _ _ (s12 _ _ hp))
        have lt := lstv_of (K := G.K) e3
        simp only [rIx_lst lp3, i19]
        walk_at "rs"
        refine ⟨by decide, ?_⟩
        obtain ⟨x, hx, ix⟩ : ∃ x : Nat, x < 256 ∧ atI [V.int ((n20 : Int) % 256), V.int 37, V.int 31, V.int 127, V.int 128, V.int 8, V.int 11, V.int 13] ((n19 : Int) % 8) = some (.int x) := by
          have e : [V.int ((n20 : Int) % 256), V.int 37, V.int 31, V.int 127, V.int 128, V.int 8, V.int 11, V.int 13] = [n20 % 256, 37, 31, 127, 128, 8, 11, 13].map fun n : Nat => V.int n := rfl
          have hj : n19 % 8 < [n20 % 256, 37, 31, 127, 128, 8, 11, 13].length := by show n19 % 8 < 8; omega
          have hall : ∀ y ∈ [n20 % 256, 37, 31, 127, 128, 8, 11, 13], y < 256 := by
            intro y hy
            simp at hy
            omega
          refine ⟨_, hall _ (List.getElem_mem hj), ?_⟩
          rw [e, show (n19 : Int) % 8 = ((n19 % 8 : Nat) : Int) by omega]
          exact at_map (fun n : Nat => V.int n) _ hj
        simp only [rIx_lst lt, ix]
        simp only [rIx_lst lp3, i21]
        have lo3 : lstv G.K H3 o = some (octs xs) := lstv_of (s3 _ _ e2)
        simp only [rLen_lst lo3, octs_len]
        walk_at "rs"
        refine ⟨by omega, ?_⟩
        obtain ⟨j, hj⟩ := Int.eq_ofNat_of_zero_le (Int.emod_nonneg (n21 : Int) (show (xs.length : Int) ≠ 0 by omega))
        have hj2 := Int.emod_lt_of_pos (n21 : Int) (show (0 : Int) < xs.length by omega)
        rw [rSetLU_ref (s3 _ _ e2), octs_len, hj]
        have hix : ixN xs.length (j : Int) = some j := by
          unfold ixN
          rw [if_pos (by omega), if_pos (by omega)]
          simp
        rw [hix]
        have s4 : Same H (L2.upd H3 o (.lst ((octs xs).set j (.int x)))) := Same.upd (s12.trans s3) (by
          cases hh : H o with
          | none => rfl
          | some o2 => have := s1 _ _ hh; rw [ho] at this; cases this)
        have e4 : (L2.upd H3 o (.lst ((octs xs).set j (.int x)))) o = some (.lst (octs (xs.set j x))) := by
          rw [upd_same]
          unfold octs
          rw [List.map_set]
        show t_law_4 G D _ (L2.upd H3 o (.lst ((octs xs).set j (.int x))))
        refine b_4 (s4 _ _ hc) (s4 _ _ hg) e4 ?_ (by rw [List.length_set]; omega) (k.mono s4)
        intro n hn
        rcases List.mem_or_eq_of_mem_set hn with h | h
        · exact hoct n h
        · omega
      · exact plain
    · exact plain
end

end My

namespace My
open PySem PySem.Spec PyProof.Rows L2 R
local macro_rules | `(tactic| walk_at "rs") => `(tactic| ((try simp only [tSeq, tAp_e, tAsg, gName, tv0, tvs, tC, tOp, tUn, tTest, tAnd, tOr, tNot, tIf, tIfS, tRet, tRetN, tNext, tDrop, tCB, tCons, tNil, tAug_e, tCall, tAndV, tOrV, tChain, tTr, tNotU, tML, tMS, tForU, iLst, iTp, iSt, iRng1, iRng2, tLcU, tLst_e, tTup_e, tSl, tPart_e, tNoPart, tYes, tBreak, tCont, tRs_e, tCallW_e, tMkF, gSub_e, rIs_e, rIsN_e, decide_true, decide_false, rOrd_str, rSidx_str,   rSub_int, rFdiv_int, rMod_int, rShl_int, rShr_int, rXor_int, rAndB_int, rOrB_int, rPow_int, rAddU_int, rAddU_str, rMul_int, rIadd_int, rIadd_str, rLt_int, rLe_int, rGt_int, rGe_int, rEqU_int, rNeU_int, rEqU_str, rNeU_str, rEqU_bl, rNeU_bl, rInt_int, rAbs_int, rMax2_int, rMin2_int, mU_int, truV_bl, truV_int, truV_non, exBl, exInt, exInt2, exIntV, rLen_str, rIx_str, rSl_str, rInU_str,    List.set_cons_zero, List.set_cons_succ, List.append_nil, List.nil_append, List.cons_append, List.length_cons, List.length_nil, if_true, if_false, ite_true, ite_false, Bool.false_eq_true, decide_eq_true_eq, Bool.not_true, Bool.not_false, Bool.not_eq_true, Bool.not_eq_false, exists_eq_left', exists_eq_left, V.bl.injEq, V.int.injEq, V.str.injEq, V.ref.injEq, reduceCtorEq, and_true, true_and, ↓reduceIte]); (try with_reducible intro (ap : R.Apart _ _))))
local macro_rules | `(tactic| walk_at "rh") => `(tactic| ((try simp only [tSeq, tAp_e, tAsg, gName, tv0, tvs, tC, tOp, tUn, tTest, tAnd, tOr, tNot, tIf, tIfS, tRet, tRetN, tNext, tDrop, tCB, tCons, tNil, tAug_e, tCall, tAndV, tOrV, tChain, tTr, tNotU, tML, tMS, tForU, iLst, iTp, iSt, iRng1, iRng2, tLcU, tLst_e, tTup_e, tSl, tPart_e, tNoPart, tYes, tBreak, tCont, tRs_e, tCallW_e, tMkF, gSub_e, rIs_e, rIsN_e, decide_true, decide_false, rOrd_str, rSidx_str,   rSub_int, rFdiv_int, rMod_int, rShl_int, rShr_int, rXor_int, rAndB_int, rOrB_int, rPow_int, rAddU_int, rAddU_str, rMul_int, rIadd_int, rIadd_str, rLt_int, rLe_int, rGt_int, rGe_int, rEqU_int, rNeU_int, rEqU_str, rNeU_str, rEqU_bl, rNeU_bl, rInt_int, rAbs_int, rMax2_int, rMin2_int, mU_int, truV_bl, truV_int, truV_non, exBl, exInt, exInt2, exIntV, rLen_str, rIx_str, rSl_str, rInU_str,    List.set_cons_zero, List.set_cons_succ, List.append_nil, List.nil_append, List.cons_append, List.length_cons, List.length_nil, if_true, if_false, ite_true, ite_false, Bool.false_eq_true, decide_eq_true_eq, Bool.not_true, Bool.not_false, Bool.not_eq_true, Bool.not_eq_false, exists_eq_left', exists_eq_left, V.bl.injEq, V.int.injEq, V.str.injEq, V.ref.injEq, reduceCtorEq, and_true, true_and, ↓reduceIte]); (try with_reducible intro (ap : R.Apart _ _)); (try simp only [tSeq, tAp_e, tAsg, gName, tv0, tvs, tC, tOp, tUn, tTest, tAnd, tOr, tNot, tIf, tIfS, tRet, tRetN, tNext, tDrop, tCB, tCons, tNil, tAug_e, tCall, tAndV, tOrV, tChain, tTr, tNotU, tML, tMS, tForU, iLst, iTp, iSt, iRng1, iRng2, tLcU, tLst_e, tTup_e, tSl, tPart_e, tNoPart, tYes, tBreak, tCont, tRs_e, tCallW_e, tMkF, gSub_e, rIs_e, rIsN_e, decide_true, decide_false, rOrd_str, rSidx_str,   rSub_int, rFdiv_int, rMod_int, rShl_int, rShr_int, rXor_int, rAndB_int, rOrB_int, rPow_int, rAddU_int, rAddU_str, rMul_int, rIadd_int, rIadd_str, rLt_int, rLe_int, rGt_int, rGe_int, rEqU_int, rNeU_int, rEqU_str, rNeU_str, rEqU_bl, rNeU_bl, rInt_int, rAbs_int, rMax2_int, rMin2_int, mU_int, truV_bl, truV_int, truV_non, exBl, exInt, exInt2, exIntV, rLen_str, rIx_str, rSl_str, rInU_str,    List.set_cons_zero, List.set_cons_succ, List.append_nil, List.nil_append, List.cons_append, List.length_cons, List.length_nil, if_true, if_false, ite_true, ite_false, Bool.false_eq_true, decide_eq_true_eq, Bool.not_true, Bool.not_false, Bool.not_eq_true, Bool.not_eq_false, exists_eq_left', exists_eq_left, V.bl.injEq, V.int.injEq, V.str.injEq, V.ref.injEq, reduceCtorEq, and_true, true_and, ↓reduceIte, sqv_e, rLenU_ref, rListOf_ref, rIxU_ref, rSlU_ref, rApp_ref, rAddU_ref, truV_ref, rInU_ref, rMulU_ref, true_implies, forall_const, *])))

open N62
section
variable {P : Program} {w : World} {G : GG} {mg : Str → Option Value} {base : Heap} {H : Hp} {D : Ends} {a c g p o : Addr} {u0 u1 u2 u3 u4 u5 u6 u7 u8 u9 u10 u11 u12 : Option V} {ns ms : List Nat}
theorem rListOf_dict {K : PySem.W.Frag} {H : Hp} {Q : VK} {p : Addr} {kvs : List (Key × V)} (h : H p = some (.dK kvs)) : rListOf K [.ref p] H Q = Nw H (.lst (kvs.map fun kv => kV kv.1)) Q := by
  unfold rListOf sqv lstv tupv
  simp only [h]
theorem b_6 (x : Int) (hc : H c = some (.dK N62.CD)) (hg : H g = some (.lst SL)) (k : Good D H a c g) :
    t_law_6 G D [some (.ref a), some (.ref c), some (.ref g), some (.int x), u4, u5, u6, u7, u8, u9, u10, u11, u12] H := by
  unfold t_law_6
  walk_at "rs"
  refine ⟨cs_small (by decide) (by decide) (by decide), x, _, rfl, by decide, fun ns hn hnl p H1 s1 e1 => ?_⟩
  have lp : lstv G.K H1 p = some (octs ns) := lstv_of e1
  obtain ⟨n24, h24, i24⟩ := oat25 hn hnl 24
  walk_at "rs"
  simp only [rIx_lst lp, i24]
  walk_at "rs"
  refine ⟨by decide, ?_⟩
  simp only [rSl_lst lp]
  refine nw fun q H2 hq s2 e2 => ?_
  obtain ⟨ms, em, hm1, hm2⟩ := cut_octs ns none (some ((n24 : Int) % 13))
  rw [em] at e2
  simp only [lstv_of (K := G.K) e2]
  refine lcL (xs := octs ms) (fun v => match v with | .int i => some (SV (gg i.toNat)) | _ => none) (fun H' s => lstv_of (s _ _ e2)) (by rw [octs_len]; exact sz _ (by omega)) ?_ ?_
  · intro y hy H' s Qy Qn hyy hnn
    obtain ⟨n, hn2, rfl⟩ := List.mem_map.mp hy
    have lg : lstv G.K H' g = some SL := lstv_of (s _ _ (s2 _ _ (s1 _ _ hg)))
    show gName 10 _ _ _ _
    simp only [wipe, List.foldl, List.set_cons_zero, List.set_cons_succ]
    walk_at "rs"
    simp only [rLen_lst lg, sl_len]
    walk_at "rs"
    refine ⟨by decide, ?_⟩
    have hat := gg_at n
    rw [show (((96 : Nat) : Int)) = 96 from rfl]
    simp only [rIx_lst lg, hat]
    exact hyy _ (by simp) _ (Same.refl _)
  intro t H3 ht s3 e3
  have s13 := s1.trans (s2.trans s3)
  have l3 : lstv G.K H3 t = some (((ms.map gg).map fun c => S [c]).map V.str) := by
    rw [List.map_map, List.map_map]
    refine lstv_of ?_
    rw [e3]
    congr 2
    unfold octs
    rw [List.filterMap_map, ← List.filterMap_eq_map]
    congr 1
  have hok : ∀ c ∈ ms.map gg, okc c = true := by
    intro c hc
    obtain ⟨x, _, rfl⟩ := List.mem_map.mp hc
    exact gg_ok x
  have hlen : (ms.map gg).length ≤ 25 := by rw [List.length_map]; omega
  generalize ms.map gg = l at l3 hok hlen
  walk_at "rs"
  refine rJoin_lst l3 ?_ ?_
  · rw [s_e, S_len, List.map_map, List.length_map, join_len]
    simp
    omega
  rw [s_e, join_S]
  refine ⟨l, rfl, hok, by omega, fun o H4 s4 e4 => ?_⟩
  walk_at "rs"
  have s14 := s13.trans s4
  refine lcS (l := l) rfl (fun c => some (.int c)) (by omega) ?_ ?_
  · intro y hy H' s Qy Qn hyy hnn
    show gName 11 _ _ _ _
    simp only [wipe, List.foldl, List.set_cons_zero, List.set_cons_succ]
    walk_at "rs"
    simp only [tDGet]
    walk_at "rs"
    exact ⟨c, .int y, rfl, dget_k (k := .inr (S [y])) (s _ _ (s14 _ _ hc)) (cd_get _ (okc_lt (hok y hy)) (hok y hy)), hyy _ rfl _ (Same.refl _)⟩
  intro t2 H5 ht2 s5 e5
  have e5' : H5 t2 = some (.lst (octs l)) := by
    rw [e5, List.filterMap_eq_map']
    rfl
  refine ⟨o, t2, l, rfl, by omega, s5 _ _ e4, e5', ?_⟩
  walk_at "rs"
  have hlt : ∀ c ∈ l, c < 256 := fun c hc => by have := okc_lt (hok c hc); omega
  have hall : l.all okc = true := List.all_eq_true.mpr hok
  refine ⟨o, l, rfl, s5 _ _ e4, hlt, by omega, fun _ H6 s6 => ?_, fun hf => by rw [hall] at hf; cases hf⟩
  walk_at "rs"
  refine ⟨l, rfl, hok, fun H7 s7 => ?_⟩
  simp only [rIsNB_e]
  walk_at "rs"
  have s17 := s14.trans (s5.trans (s6.trans s7))
  have s27 := s2.trans (s3.trans (s4.trans (s5.trans (s6.trans s7))))
  exact b_5 (s17 _ _ hc) (s17 _ _ hg) (s27 _ _ e1) hn hnl (k.mono s17)
theorem rd_law (T : Top P w G mg base) {vs : List V} {Q : VK} {E : XK} (h : sp_law G vs H Q E) : t_law G {nx := fun _ H' => Q .non H', rt := Q} (start N_law vs) H := by
  obtain ⟨a, ns, rfl, hl, hz, hq⟩ := h
  show t_law G _ [some (.ref a), none, none, none, none, none, none, none, none, none, none, none, none] H
  unfold t_law
  walk_at "rs"
  have ap0 : Apart G.K H := ‹_›
  refine ⟨rfl, fun c H1 s1 e1 => ?_⟩
  walk_at "rs"
  rw [rListOf_dict e1]
  refine nw fun g H2 hg s2 e2 => ?_
  rw [cd_keys] at e2
  intro ap2
  have hl2 : lstv G.K H2 a = some (ns.map V.int) := lstv_mono (s1.trans s2) ap2 hl
  simp only [rSl_lst hl2]
  refine nw fun q H3 hq3 s3 e3 => ?_
  obtain ⟨ms, em, hm1, hm2⟩ := cutV_map V.int ns none (some 12)
  rw [em] at e3
  refine ⟨sz 1 (by decide), nw fun c2 H4 hc4 s4 e4 => ?_⟩
  rw [rAddU_lst (s4 _ _ e3) e4]
  refine ⟨sz _ (by rw [List.length_map]; simp; omega), nw fun c3 H5 hc5 s5 e5 => ?_⟩
  rw [show ms.map V.int ++ [V.int 0] = (ms ++ [0]).map V.int by simp] at e5
  simp only [lstv_of (K := G.K) e5]
  have s25 := s2.trans (s3.trans (s4.trans s5))
  have hc := s25 _ _ e1
  have hg := (s3.trans (s4.trans s5)) _ _ e2
  refine goesL (xs := (ms ++ [0]).map V.int) (fun i σ H' => Same H5 H' ∧ ∃ u3 u4 u5 u6 u7 u8 u9 u10 u11 u12, σ = [some (.ref a), some (.ref c), some (.ref g), u3, u4, u5, u6, u7, u8, u9, u10, u11, u12]) ⟨Same.refl _, _, _, _, _, _, _, _, _, _, _, rfl⟩ (fun i σ H' _ q => lstv_of (q.1 _ _ e5)) ?_ ?_
  · rintro i x σ H' hi ⟨s6, u3, u4, u5, u6, u7, u8, u9, u10, u11, u12, rfl⟩
    obtain ⟨n, _, rfl⟩ := List.mem_map.mp (List.mem_of_getElem? hi)
    walk_at "rs"
    refine b_6 n (s6 _ _ hc) (s6 _ _ hg) fun u3 u4 u5 u6 u7 u8 u9 u10 u11 u12 H2 s7 => ⟨s6.trans s7, _, _, _, _, _, _, _, _, _, _, rfl⟩
  · rintro σ H' ⟨s6, u3, u4, u5, u6, u7, u8, u9, u10, u11, u12, rfl⟩
    walk_at "rs"
    exact hq _
end

end My

set_option pp.maxSteps 400
namespace My
open PySem PySem.Spec PyProof.Rows L2 R
theorem len_is_text {G : GG} : ∀ (vs : List V) (H : Hp) (Q : VK) (E : XK), sp_is_text G vs H Q E → vs.length = 1 := by
  intro vs H Q E h
  first | (obtain ⟨rfl, _⟩ := h; rfl) | (obtain ⟨_, rfl, _⟩ := h; rfl) | (obtain ⟨_, _, rfl, _⟩ := h; rfl) | (obtain ⟨_, _, _, rfl, _⟩ := h; rfl) | (obtain ⟨_, _, _, _, rfl, _⟩ := h; rfl) | (obtain ⟨_, _, _, _, _, rfl, _⟩ := h; rfl) | (obtain ⟨_, _, _, _, _, _, rfl, _⟩ := h; rfl) | (obtain ⟨_, _, _, _, _, _, _, rfl, _⟩ := h; rfl) | (obtain ⟨_, _, _, _, _, _, _, _, rfl, _⟩ := h; rfl) | (obtain ⟨_, _, _, _, _, _, _, _, _, rfl, _⟩ := h; rfl) | (obtain ⟨_, _, _, _, _, _, _, _, _, _, rfl, _⟩ := h; rfl) | (obtain ⟨_, _, _, _, _, _, _, _, _, _, _, rfl, _⟩ := h; rfl) | (obtain ⟨_, _, _, _, _, _, _, _, _, _, _, _, rfl, _⟩ := h; rfl) | (obtain ⟨_, _, _, _, _, _, _, _, _, _, _, _, _, rfl, _⟩ := h; rfl)
theorem ok_is_text {P : Program} {w : World} {G : GG} {mg : Str → Option Value} {base : Heap} {f : Addr} {fd : FuncData} (T : Top P w G mg base) (F : Fun G.K "is_text" "is_text" s_is_text f fd) : FnOk P w G.K mg base CX0 1 f fd ["text"] (sp_is_text G) :=
  F.ok sc_is_text len_is_text fun cdv A outer s H vs Q E hr h => ⟨_, dv_is_text T hr, rd_is_text T h⟩
theorem len_char_of {G : GG} : ∀ (vs : List V) (H : Hp) (Q : VK) (E : XK), sp_char_of G vs H Q E → vs.length = 1 := by
  intro vs H Q E h
  first | (obtain ⟨rfl, _⟩ := h; rfl) | (obtain ⟨_, rfl, _⟩ := h; rfl) | (obtain ⟨_, _, rfl, _⟩ := h; rfl) | (obtain ⟨_, _, _, rfl, _⟩ := h; rfl) | (obtain ⟨_, _, _, _, rfl, _⟩ := h; rfl) | (obtain ⟨_, _, _, _, _, rfl, _⟩ := h; rfl) | (obtain ⟨_, _, _, _, _, _, rfl, _⟩ := h; rfl) | (obtain ⟨_, _, _, _, _, _, _, rfl, _⟩ := h; rfl) | (obtain ⟨_, _, _, _, _, _, _, _, rfl, _⟩ := h; rfl) | (obtain ⟨_, _, _, _, _, _, _, _, _, rfl, _⟩ := h; rfl) | (obtain ⟨_, _, _, _, _, _, _, _, _, _, rfl, _⟩ := h; rfl) | (obtain ⟨_, _, _, _, _, _, _, _, _, _, _, rfl, _⟩ := h; rfl) | (obtain ⟨_, _, _, _, _, _, _, _, _, _, _, _, rfl, _⟩ := h; rfl) | (obtain ⟨_, _, _, _, _, _, _, _, _, _, _, _, _, rfl, _⟩ := h; rfl)
theorem ok_char_of {P : Program} {w : World} {G : GG} {mg : Str → Option Value} {base : Heap} {f : Addr} {fd : FuncData} (T : Top P w G mg base) (F : Fun G.K "char_of" "char_of" s_char_of f fd) : FnOk P w G.K mg base CX0 1 f fd ["code"] (sp_char_of G) :=
  F.ok sc_char_of len_char_of fun cdv A outer s H vs Q E hr h => ⟨_, dv_char_of T hr, rd_char_of T h⟩
theorem len_code_of {G : GG} : ∀ (vs : List V) (H : Hp) (Q : VK) (E : XK), sp_code_of G vs H Q E → vs.length = 1 := by
  intro vs H Q E h
  first | (obtain ⟨rfl, _⟩ := h; rfl) | (obtain ⟨_, rfl, _⟩ := h; rfl) | (obtain ⟨_, _, rfl, _⟩ := h; rfl) | (obtain ⟨_, _, _, rfl, _⟩ := h; rfl) | (obtain ⟨_, _, _, _, rfl, _⟩ := h; rfl) | (obtain ⟨_, _, _, _, _, rfl, _⟩ := h; rfl) | (obtain ⟨_, _, _, _, _, _, rfl, _⟩ := h; rfl) | (obtain ⟨_, _, _, _, _, _, _, rfl, _⟩ := h; rfl) | (obtain ⟨_, _, _, _, _, _, _, _, rfl, _⟩ := h; rfl) | (obtain ⟨_, _, _, _, _, _, _, _, _, rfl, _⟩ := h; rfl) | (obtain ⟨_, _, _, _, _, _, _, _, _, _, rfl, _⟩ := h; rfl) | (obtain ⟨_, _, _, _, _, _, _, _, _, _, _, rfl, _⟩ := h; rfl) | (obtain ⟨_, _, _, _, _, _, _, _, _, _, _, _, rfl, _⟩ := h; rfl) | (obtain ⟨_, _, _, _, _, _, _, _, _, _, _, _, _, rfl, _⟩ := h; rfl)
theorem ok_code_of {P : Program} {w : World} {G : GG} {mg : Str → Option Value} {base : Heap} {f : Addr} {fd : FuncData} (T : Top P w G mg base) (F : Fun G.K "code_of" "code_of" s_code_of f fd) : FnOk P w G.K mg base CX0 1 f fd ["char"] (sp_code_of G) :=
  F.ok sc_code_of len_code_of fun cdv A outer s H vs Q E hr h => ⟨_, dv_code_of T hr, rd_code_of T h⟩
theorem len_encode_text {G : GG} : ∀ (vs : List V) (H : Hp) (Q : VK) (E : XK), sp_encode_text G vs H Q E → vs.length = 1 := by
  intro vs H Q E h
  first | (obtain ⟨rfl, _⟩ := h; rfl) | (obtain ⟨_, rfl, _⟩ := h; rfl) | (obtain ⟨_, _, rfl, _⟩ := h; rfl) | (obtain ⟨_, _, _, rfl, _⟩ := h; rfl) | (obtain ⟨_, _, _, _, rfl, _⟩ := h; rfl) | (obtain ⟨_, _, _, _, _, rfl, _⟩ := h; rfl) | (obtain ⟨_, _, _, _, _, _, rfl, _⟩ := h; rfl) | (obtain ⟨_, _, _, _, _, _, _, rfl, _⟩ := h; rfl) | (obtain ⟨_, _, _, _, _, _, _, _, rfl, _⟩ := h; rfl) | (obtain ⟨_, _, _, _, _, _, _, _, _, rfl, _⟩ := h; rfl) | (obtain ⟨_, _, _, _, _, _, _, _, _, _, rfl, _⟩ := h; rfl) | (obtain ⟨_, _, _, _, _, _, _, _, _, _, _, rfl, _⟩ := h; rfl) | (obtain ⟨_, _, _, _, _, _, _, _, _, _, _, _, rfl, _⟩ := h; rfl) | (obtain ⟨_, _, _, _, _, _, _, _, _, _, _, _, _, rfl, _⟩ := h; rfl)
theorem ok_encode_text {P : Program} {w : World} {G : GG} {mg : Str → Option Value} {base : Heap} {f : Addr} {fd : FuncData} (T : Top P w G mg base) (F_code_of : FnE P w G.K mg base CX0 "code_of" 1 ["char"] (sp_code_of G)) (F : Fun G.K "encode_text" "encode_text" s_encode_text f fd) : FnOk P w G.K mg base CX0 2 f fd ["text"] (sp_encode_text G) :=
  F.ok sc_encode_text len_encode_text fun cdv A outer s H vs Q E hr h => ⟨_, dv_encode_text T F_code_of hr, rd_encode_text T h⟩
theorem len_decode_text {G : GG} : ∀ (vs : List V) (H : Hp) (Q : VK) (E : XK), sp_decode_text G vs H Q E → vs.length = 1 := by
  intro vs H Q E h
  first | (obtain ⟨rfl, _⟩ := h; rfl) | (obtain ⟨_, rfl, _⟩ := h; rfl) | (obtain ⟨_, _, rfl, _⟩ := h; rfl) | (obtain ⟨_, _, _, rfl, _⟩ := h; rfl) | (obtain ⟨_, _, _, _, rfl, _⟩ := h; rfl) | (obtain ⟨_, _, _, _, _, rfl, _⟩ := h; rfl) | (obtain ⟨_, _, _, _, _, _, rfl, _⟩ := h; rfl) | (obtain ⟨_, _, _, _, _, _, _, rfl, _⟩ := h; rfl) | (obtain ⟨_, _, _, _, _, _, _, _, rfl, _⟩ := h; rfl) | (obtain ⟨_, _, _, _, _, _, _, _, _, rfl, _⟩ := h; rfl) | (obtain ⟨_, _, _, _, _, _, _, _, _, _, rfl, _⟩ := h; rfl) | (obtain ⟨_, _, _, _, _, _, _, _, _, _, _, rfl, _⟩ := h; rfl) | (obtain ⟨_, _, _, _, _, _, _, _, _, _, _, _, rfl, _⟩ := h; rfl) | (obtain ⟨_, _, _, _, _, _, _, _, _, _, _, _, _, rfl, _⟩ := h; rfl)
theorem ok_decode_text {P : Program} {w : World} {G : GG} {mg : Str → Option Value} {base : Heap} {f : Addr} {fd : FuncData} (T : Top P w G mg base) (F_char_of : FnE P w G.K mg base CX0 "char_of" 1 ["code"] (sp_char_of G)) (F : Fun G.K "decode_text" "decode_text" s_decode_text f fd) : FnOk P w G.K mg base (L2.CX P w) 4 f fd ["octets"] (sp_decode_text G) :=
  F.okX sc_decode_text len_decode_text fun cdv A outer s H vs Q E hr h => ⟨_, dv_decode_text T F_char_of hr, rd_decode_text T h⟩
theorem len__law_draw {G : GG} : ∀ (vs : List V) (H : Hp) (Q : VK) (E : XK), sp__law_draw G vs H Q E → vs.length = 3 := by
  intro vs H Q E h
  first | (obtain ⟨rfl, _⟩ := h; rfl) | (obtain ⟨_, rfl, _⟩ := h; rfl) | (obtain ⟨_, _, rfl, _⟩ := h; rfl) | (obtain ⟨_, _, _, rfl, _⟩ := h; rfl) | (obtain ⟨_, _, _, _, rfl, _⟩ := h; rfl) | (obtain ⟨_, _, _, _, _, rfl, _⟩ := h; rfl) | (obtain ⟨_, _, _, _, _, _, rfl, _⟩ := h; rfl) | (obtain ⟨_, _, _, _, _, _, _, rfl, _⟩ := h; rfl) | (obtain ⟨_, _, _, _, _, _, _, _, rfl, _⟩ := h; rfl) | (obtain ⟨_, _, _, _, _, _, _, _, _, rfl, _⟩ := h; rfl) | (obtain ⟨_, _, _, _, _, _, _, _, _, _, rfl, _⟩ := h; rfl) | (obtain ⟨_, _, _, _, _, _, _, _, _, _, _, rfl, _⟩ := h; rfl) | (obtain ⟨_, _, _, _, _, _, _, _, _, _, _, _, rfl, _⟩ := h; rfl) | (obtain ⟨_, _, _, _, _, _, _, _, _, _, _, _, _, rfl, _⟩ := h; rfl)
theorem ok__law_draw {P : Program} {w : World} {G : GG} {mg : Str → Option Value} {base : Heap} {f : Addr} {fd : FuncData} (T : Top P w G mg base) (F : Fun G.K "_law_draw" "_law_draw" s__law_draw f fd) : FnOk P w G.K mg base CX0 1 f fd ["cell", "many", "bound"] (sp__law_draw G) :=
  F.ok sc__law_draw len__law_draw fun cdv A outer s H vs Q E hr h => ⟨_, dv__law_draw T hr, rd__law_draw T h⟩
theorem len__law_is_integer {G : GG} : ∀ (vs : List V) (H : Hp) (Q : VK) (E : XK), sp__law_is_integer G vs H Q E → vs.length = 1 := by
  intro vs H Q E h
  first | (obtain ⟨rfl, _⟩ := h; rfl) | (obtain ⟨_, rfl, _⟩ := h; rfl) | (obtain ⟨_, _, rfl, _⟩ := h; rfl) | (obtain ⟨_, _, _, rfl, _⟩ := h; rfl) | (obtain ⟨_, _, _, _, rfl, _⟩ := h; rfl) | (obtain ⟨_, _, _, _, _, rfl, _⟩ := h; rfl) | (obtain ⟨_, _, _, _, _, _, rfl, _⟩ := h; rfl) | (obtain ⟨_, _, _, _, _, _, _, rfl, _⟩ := h; rfl) | (obtain ⟨_, _, _, _, _, _, _, _, rfl, _⟩ := h; rfl) | (obtain ⟨_, _, _, _, _, _, _, _, _, rfl, _⟩ := h; rfl) | (obtain ⟨_, _, _, _, _, _, _, _, _, _, rfl, _⟩ := h; rfl) | (obtain ⟨_, _, _, _, _, _, _, _, _, _, _, rfl, _⟩ := h; rfl) | (obtain ⟨_, _, _, _, _, _, _, _, _, _, _, _, rfl, _⟩ := h; rfl) | (obtain ⟨_, _, _, _, _, _, _, _, _, _, _, _, _, rfl, _⟩ := h; rfl)
theorem ok__law_is_integer {P : Program} {w : World} {G : GG} {mg : Str → Option Value} {base : Heap} {f : Addr} {fd : FuncData} (T : Top P w G mg base) (F : Fun G.K "_law_is_integer" "_law_is_integer" s__law_is_integer f fd) : FnOk P w G.K mg base CX0 1 f fd ["actual"] (sp__law_is_integer G) :=
  F.ok sc__law_is_integer len__law_is_integer fun cdv A outer s H vs Q E hr h => ⟨_, dv__law_is_integer T hr, rd__law_is_integer T h⟩
theorem len__law_same {G : GG} : ∀ (vs : List V) (H : Hp) (Q : VK) (E : XK), sp__law_same G vs H Q E → vs.length = 2 := by
  intro vs H Q E h
  first | (obtain ⟨rfl, _⟩ := h; rfl) | (obtain ⟨_, rfl, _⟩ := h; rfl) | (obtain ⟨_, _, rfl, _⟩ := h; rfl) | (obtain ⟨_, _, _, rfl, _⟩ := h; rfl) | (obtain ⟨_, _, _, _, rfl, _⟩ := h; rfl) | (obtain ⟨_, _, _, _, _, rfl, _⟩ := h; rfl) | (obtain ⟨_, _, _, _, _, _, rfl, _⟩ := h; rfl) | (obtain ⟨_, _, _, _, _, _, _, rfl, _⟩ := h; rfl) | (obtain ⟨_, _, _, _, _, _, _, _, rfl, _⟩ := h; rfl) | (obtain ⟨_, _, _, _, _, _, _, _, _, rfl, _⟩ := h; rfl) | (obtain ⟨_, _, _, _, _, _, _, _, _, _, rfl, _⟩ := h; rfl) | (obtain ⟨_, _, _, _, _, _, _, _, _, _, _, rfl, _⟩ := h; rfl) | (obtain ⟨_, _, _, _, _, _, _, _, _, _, _, _, rfl, _⟩ := h; rfl) | (obtain ⟨_, _, _, _, _, _, _, _, _, _, _, _, _, rfl, _⟩ := h; rfl)
theorem ok__law_same {P : Program} {w : World} {G : GG} {mg : Str → Option Value} {base : Heap} {f : Addr} {fd : FuncData} (T : Top P w G mg base) (F__law_is_integer : FnE P w G.K mg base CX0 "_law_is_integer" 1 ["actual"] (sp__law_is_integer G)) (F : Fun G.K "_law_same" "_law_same" s__law_same f fd) : FnOk P w G.K mg base CX0 2 f fd ["actual", "expected"] (sp__law_same G) :=
  F.ok sc__law_same len__law_same fun cdv A outer s H vs Q E hr h => ⟨_, dv__law_same T F__law_is_integer hr, rd__law_same T h⟩
theorem len__law_alphabet {G : GG} : ∀ (vs : List V) (H : Hp) (Q : VK) (E : XK), sp__law_alphabet G vs H Q E → vs.length = 0 := by
  intro vs H Q E h
  first | (obtain ⟨rfl, _⟩ := h; rfl) | (obtain ⟨_, rfl, _⟩ := h; rfl) | (obtain ⟨_, _, rfl, _⟩ := h; rfl) | (obtain ⟨_, _, _, rfl, _⟩ := h; rfl) | (obtain ⟨_, _, _, _, rfl, _⟩ := h; rfl) | (obtain ⟨_, _, _, _, _, rfl, _⟩ := h; rfl) | (obtain ⟨_, _, _, _, _, _, rfl, _⟩ := h; rfl) | (obtain ⟨_, _, _, _, _, _, _, rfl, _⟩ := h; rfl) | (obtain ⟨_, _, _, _, _, _, _, _, rfl, _⟩ := h; rfl) | (obtain ⟨_, _, _, _, _, _, _, _, _, rfl, _⟩ := h; rfl) | (obtain ⟨_, _, _, _, _, _, _, _, _, _, rfl, _⟩ := h; rfl) | (obtain ⟨_, _, _, _, _, _, _, _, _, _, _, rfl, _⟩ := h; rfl) | (obtain ⟨_, _, _, _, _, _, _, _, _, _, _, _, rfl, _⟩ := h; rfl) | (obtain ⟨_, _, _, _, _, _, _, _, _, _, _, _, _, rfl, _⟩ := h; rfl)
theorem ok__law_alphabet {P : Program} {w : World} {G : GG} {mg : Str → Option Value} {base : Heap} {f : Addr} {fd : FuncData} (T : Top P w G mg base) (F : Fun G.K "_law_alphabet" "_law_alphabet" s__law_alphabet f fd) : FnOk P w G.K mg base CX0 1 f fd [] (sp__law_alphabet G) :=
  F.ok sc__law_alphabet len__law_alphabet fun cdv A outer s H vs Q E hr h => ⟨_, dv__law_alphabet T hr, rd__law_alphabet T h⟩
theorem len__law_told {G : GG} : ∀ (vs : List V) (H : Hp) (Q : VK) (E : XK), sp__law_told G vs H Q E → vs.length = 1 := by
  intro vs H Q E h
  first | (obtain ⟨rfl, _⟩ := h; rfl) | (obtain ⟨_, rfl, _⟩ := h; rfl) | (obtain ⟨_, _, rfl, _⟩ := h; rfl) | (obtain ⟨_, _, _, rfl, _⟩ := h; rfl) | (obtain ⟨_, _, _, _, rfl, _⟩ := h; rfl) | (obtain ⟨_, _, _, _, _, rfl, _⟩ := h; rfl) | (obtain ⟨_, _, _, _, _, _, rfl, _⟩ := h; rfl) | (obtain ⟨_, _, _, _, _, _, _, rfl, _⟩ := h; rfl) | (obtain ⟨_, _, _, _, _, _, _, _, rfl, _⟩ := h; rfl) | (obtain ⟨_, _, _, _, _, _, _, _, _, rfl, _⟩ := h; rfl) | (obtain ⟨_, _, _, _, _, _, _, _, _, _, rfl, _⟩ := h; rfl) | (obtain ⟨_, _, _, _, _, _, _, _, _, _, _, rfl, _⟩ := h; rfl) | (obtain ⟨_, _, _, _, _, _, _, _, _, _, _, _, rfl, _⟩ := h; rfl) | (obtain ⟨_, _, _, _, _, _, _, _, _, _, _, _, _, rfl, _⟩ := h; rfl)
theorem ok__law_told {P : Program} {w : World} {G : GG} {mg : Str → Option Value} {base : Heap} {f : Addr} {fd : FuncData} (T : Top P w G mg base) (F_decode_text : FnE P w G.K mg base (L2.CX P w) "decode_text" 4 ["octets"] (sp_decode_text G)) (F : Fun G.K "_law_told" "_law_told" s__law_told f fd) : FnOk P w G.K mg base CX0 5 f fd ["octets"] (sp__law_told G) :=
  F.ok sc__law_told len__law_told fun cdv A outer s H vs Q E hr h => ⟨_, dv__law_told T F_decode_text hr, rd__law_told T h⟩
theorem len_law {G : GG} : ∀ (vs : List V) (H : Hp) (Q : VK) (E : XK), sp_law G vs H Q E → vs.length = 1 := by
  intro vs H Q E h
  first | (obtain ⟨rfl, _⟩ := h; rfl) | (obtain ⟨_, rfl, _⟩ := h; rfl) | (obtain ⟨_, _, rfl, _⟩ := h; rfl) | (obtain ⟨_, _, _, rfl, _⟩ := h; rfl) | (obtain ⟨_, _, _, _, rfl, _⟩ := h; rfl) | (obtain ⟨_, _, _, _, _, rfl, _⟩ := h; rfl) | (obtain ⟨_, _, _, _, _, _, rfl, _⟩ := h; rfl) | (obtain ⟨_, _, _, _, _, _, _, rfl, _⟩ := h; rfl) | (obtain ⟨_, _, _, _, _, _, _, _, rfl, _⟩ := h; rfl) | (obtain ⟨_, _, _, _, _, _, _, _, _, rfl, _⟩ := h; rfl) | (obtain ⟨_, _, _, _, _, _, _, _, _, _, rfl, _⟩ := h; rfl) | (obtain ⟨_, _, _, _, _, _, _, _, _, _, _, rfl, _⟩ := h; rfl) | (obtain ⟨_, _, _, _, _, _, _, _, _, _, _, _, rfl, _⟩ := h; rfl) | (obtain ⟨_, _, _, _, _, _, _, _, _, _, _, _, _, rfl, _⟩ := h; rfl)
theorem ok_law {P : Program} {w : World} {G : GG} {mg : Str → Option Value} {base : Heap} {f : Addr} {fd : FuncData} (T : Top P w G mg base) (F__law_alphabet : FnE P w G.K mg base CX0 "_law_alphabet" 1 [] (sp__law_alphabet G)) (F__law_draw : FnE P w G.K mg base CX0 "_law_draw" 1 ["cell", "many", "bound"] (sp__law_draw G)) (F__law_same : FnE P w G.K mg base CX0 "_law_same" 2 ["actual", "expected"] (sp__law_same G)) (F__law_told : FnE P w G.K mg base CX0 "_law_told" 5 ["octets"] (sp__law_told G)) (F_decode_text : FnE P w G.K mg base (L2.CX P w) "decode_text" 4 ["octets"] (sp_decode_text G)) (F_encode_text : FnE P w G.K mg base CX0 "encode_text" 2 ["text"] (sp_encode_text G)) (F_is_text : FnE P w G.K mg base CX0 "is_text" 1 ["text"] (sp_is_text G)) (F : Fun G.K "law" "law" s_law f fd) : FnOk P w G.K mg base CX0 6 f fd ["script"] (sp_law G) :=
  F.ok sc_law len_law fun cdv A outer s H vs Q E hr h => ⟨_, dv_law T F__law_alphabet F__law_draw F__law_same F__law_told F_decode_text F_encode_text F_is_text hr, rd_law T h⟩
theorem all_mk {P : Program} {w : World} {K : PySem.W.Frag} {h : Heap} {mg : Str → Option Value} {fa f1 f2 f3 f4 f5 f6 f7 f8 f9 f10 f11 : Addr} (X : K.In h) (G : h.Ns mainGlobals mg) (hfa : mg "law" = some (.ref fa))
    {od1 an1 : Option Addr} {sl1 : Array (Option Value)} {oc1 kV1 dc1 pm1 cd1 ct1 : Value} (a1 : PySem.W.nsIn K mainGlobals "is_text" = some (some (.ref f1))) (l1 : K.lookup f1 = some ⟨oc1, od1, .func (PySem.W.fnOf "is_text" "is_text" (defArgs s_is_text) (defBody s_is_text) (defScope s_is_text) .none kV1 dc1 pm1 an1 cd1 ct1), sl1⟩) (c1 : PySem.W.codeIn K cd1 "is_text" = true) (k1 : PySem.W.keepIn K (.ref f1) = true)
    {od2 an2 : Option Addr} {sl2 : Array (Option Value)} {oc2 kV2 dc2 pm2 cd2 ct2 : Value} (a2 : PySem.W.nsIn K mainGlobals "char_of" = some (some (.ref f2))) (l2 : K.lookup f2 = some ⟨oc2, od2, .func (PySem.W.fnOf "char_of" "char_of" (defArgs s_char_of) (defBody s_char_of) (defScope s_char_of) .none kV2 dc2 pm2 an2 cd2 ct2), sl2⟩) (c2 : PySem.W.codeIn K cd2 "char_of" = true) (k2 : PySem.W.keepIn K (.ref f2) = true)
    {od3 an3 : Option Addr} {sl3 : Array (Option Value)} {oc3 kV3 dc3 pm3 cd3 ct3 : Value} (a3 : PySem.W.nsIn K mainGlobals "code_of" = some (some (.ref f3))) (l3 : K.lookup f3 = some ⟨oc3, od3, .func (PySem.W.fnOf "code_of" "code_of" (defArgs s_code_of) (defBody s_code_of) (defScope s_code_of) .none kV3 dc3 pm3 an3 cd3 ct3), sl3⟩) (c3 : PySem.W.codeIn K cd3 "code_of" = true) (k3 : PySem.W.keepIn K (.ref f3) = true)
    {od4 an4 : Option Addr} {sl4 : Array (Option Value)} {oc4 kV4 dc4 pm4 cd4 ct4 : Value} (a4 : PySem.W.nsIn K mainGlobals "encode_text" = some (some (.ref f4))) (l4 : K.lookup f4 = some ⟨oc4, od4, .func (PySem.W.fnOf "encode_text" "encode_text" (defArgs s_encode_text) (defBody s_encode_text) (defScope s_encode_text) .none kV4 dc4 pm4 an4 cd4 ct4), sl4⟩) (c4 : PySem.W.codeIn K cd4 "encode_text" = true) (k4 : PySem.W.keepIn K (.ref f4) = true)
    {od5 an5 : Option Addr} {sl5 : Array (Option Value)} {oc5 kV5 dc5 pm5 cd5 ct5 : Value} (a5 : PySem.W.nsIn K mainGlobals "decode_text" = some (some (.ref f5))) (l5 : K.lookup f5 = some ⟨oc5, od5, .func (PySem.W.fnOf "decode_text" "decode_text" (defArgs s_decode_text) (defBody s_decode_text) (defScope s_decode_text) .none kV5 dc5 pm5 an5 cd5 ct5), sl5⟩) (c5 : PySem.W.codeIn K cd5 "decode_text" = true) (k5 : PySem.W.keepIn K (.ref f5) = true)
    {od6 an6 : Option Addr} {sl6 : Array (Option Value)} {oc6 kV6 dc6 pm6 cd6 ct6 : Value} (a6 : PySem.W.nsIn K mainGlobals "_law_draw" = some (some (.ref f6))) (l6 : K.lookup f6 = some ⟨oc6, od6, .func (PySem.W.fnOf "_law_draw" "_law_draw" (defArgs s__law_draw) (defBody s__law_draw) (defScope s__law_draw) .none kV6 dc6 pm6 an6 cd6 ct6), sl6⟩) (c6 : PySem.W.codeIn K cd6 "_law_draw" = true) (k6 : PySem.W.keepIn K (.ref f6) = true)
    {od7 an7 : Option Addr} {sl7 : Array (Option Value)} {oc7 kV7 dc7 pm7 cd7 ct7 : Value} (a7 : PySem.W.nsIn K mainGlobals "_law_is_integer" = some (some (.ref f7))) (l7 : K.lookup f7 = some ⟨oc7, od7, .func (PySem.W.fnOf "_law_is_integer" "_law_is_integer" (defArgs s__law_is_integer) (defBody s__law_is_integer) (defScope s__law_is_integer) .none kV7 dc7 pm7 an7 cd7 ct7), sl7⟩) (c7 : PySem.W.codeIn K cd7 "_law_is_integer" = true) (k7 : PySem.W.keepIn K (.ref f7) = true)
    {od8 an8 : Option Addr} {sl8 : Array (Option Value)} {oc8 kV8 dc8 pm8 cd8 ct8 : Value} (a8 : PySem.W.nsIn K mainGlobals "_law_same" = some (some (.ref f8))) (l8 : K.lookup f8 = some ⟨oc8, od8, .func (PySem.W.fnOf "_law_same" "_law_same" (defArgs s__law_same) (defBody s__law_same) (defScope s__law_same) .none kV8 dc8 pm8 an8 cd8 ct8), sl8⟩) (c8 : PySem.W.codeIn K cd8 "_law_same" = true) (k8 : PySem.W.keepIn K (.ref f8) = true)
    {od9 an9 : Option Addr} {sl9 : Array (Option Value)} {oc9 kV9 dc9 pm9 cd9 ct9 : Value} (a9 : PySem.W.nsIn K mainGlobals "_law_alphabet" = some (some (.ref f9))) (l9 : K.lookup f9 = some ⟨oc9, od9, .func (PySem.W.fnOf "_law_alphabet" "_law_alphabet" (defArgs s__law_alphabet) (defBody s__law_alphabet) (defScope s__law_alphabet) .none kV9 dc9 pm9 an9 cd9 ct9), sl9⟩) (c9 : PySem.W.codeIn K cd9 "_law_alphabet" = true) (k9 : PySem.W.keepIn K (.ref f9) = true)
    {od10 an10 : Option Addr} {sl10 : Array (Option Value)} {oc10 kV10 dc10 pm10 cd10 ct10 : Value} (a10 : PySem.W.nsIn K mainGlobals "_law_told" = some (some (.ref f10))) (l10 : K.lookup f10 = some ⟨oc10, od10, .func (PySem.W.fnOf "_law_told" "_law_told" (defArgs s__law_told) (defBody s__law_told) (defScope s__law_told) .none kV10 dc10 pm10 an10 cd10 ct10), sl10⟩) (c10 : PySem.W.codeIn K cd10 "_law_told" = true) (k10 : PySem.W.keepIn K (.ref f10) = true)
    {od11 an11 : Option Addr} {sl11 : Array (Option Value)} {oc11 kV11 dc11 pm11 cd11 ct11 : Value} (a11 : PySem.W.nsIn K mainGlobals "law" = some (some (.ref f11))) (l11 : K.lookup f11 = some ⟨oc11, od11, .func (PySem.W.fnOf "law" "law" (defArgs s_law) (defBody s_law) (defScope s_law) .none kV11 dc11 pm11 an11 cd11 ct11), sl11⟩) (c11 : PySem.W.codeIn K cd11 "law" = true) (k11 : PySem.W.keepIn K (.ref f11) = true)
    (b_ValueError : PySem.W.nsIn K mainGlobals "ValueError" = some none)
    (b_bool : PySem.W.nsIn K mainGlobals "bool" = some none)
    (b_int : PySem.W.nsIn K mainGlobals "int" = some none)
    (b_isinstance : PySem.W.nsIn K mainGlobals "isinstance" = some none)
    (b_len : PySem.W.nsIn K mainGlobals "len" = some none)
    (b_list : PySem.W.nsIn K mainGlobals "list" = some none)
    (b_range : PySem.W.nsIn K mainGlobals "range" = some none)
    {k_BEFORE : Tok} (g_BEFORE : PySem.W.nsIn K mainGlobals "BEFORE" = some (some (.str " !\"#$" k_BEFORE)))
    {k_BEHIND : Tok} (g_BEHIND : PySem.W.nsIn K mainGlobals "BEHIND" = some (some (.str "&'()*+,-./0123456789:;<=>?@ABCDEFGHIJKLMNOPQRSTUVWXYZ[\\]^_`abcdefghijklmnopqrstuvwxyz{|}~" k_BEHIND)))
    {k_FIRST_BEHIND : Tok} (g_FIRST_BEHIND : PySem.W.nsIn K mainGlobals "FIRST_BEHIND" = some (some (.int 38 k_FIRST_BEHIND)))
    {k_LINE_FEED : Tok} (g_LINE_FEED : PySem.W.nsIn K mainGlobals "LINE_FEED" = some (some (.int 10 k_LINE_FEED)))
    {k_TAB : Tok} (g_TAB : PySem.W.nsIn K mainGlobals "TAB" = some (some (.int 9 k_TAB)))
    {C_FormstripesError : Addr} (aC_FormstripesError : PySem.W.nsIn K mainGlobals "FormstripesError" = some (some (.ref C_FormstripesError)))
    {C_InvalidJson : Addr} (aC_InvalidJson : PySem.W.nsIn K mainGlobals "InvalidJson" = some (some (.ref C_InvalidJson)))
    {C_InvalidText : Addr} (aC_InvalidText : PySem.W.nsIn K mainGlobals "InvalidText" = some (some (.ref C_InvalidText)))
    {dT : Addr} {dcl dU : Value} {ddd : Option Addr} {dn : Nat} {dsl : Array (Option Value)} (d0 : K.lookup dT = some ⟨dcl, ddd, .seq #[dU] dn, dsl⟩)
    {fI_FormstripesError cc_FormstripesError cda_FormstripesError : Addr} {oc_FormstripesError kV_FormstripesError dc_FormstripesError pm_FormstripesError ct_FormstripesError : Value} {od_FormstripesError an_FormstripesError : Option Addr} {sl_FormstripesError : Array (Option Value)}
    (i0_FormstripesError : PySem.W.findIn K (.ref C_FormstripesError) "__init__" = some (some (.ref fI_FormstripesError))) (i1_FormstripesError : PySem.W.typeIn K (.ref fI_FormstripesError) = some (.type "function")) (i2_FormstripesError : PySem.W.fnIn K fI_FormstripesError = true)
    (i3_FormstripesError : K.lookup fI_FormstripesError = some ⟨oc_FormstripesError, od_FormstripesError, .func (PySem.W.ksFn "__init__" "FormstripesError.__init__" (defArgs s_FormstripesError___init__) (defBody s_FormstripesError___init__) (defScope s_FormstripesError___init__) (.ref dT) kV_FormstripesError dc_FormstripesError pm_FormstripesError an_FormstripesError (.ref cda_FormstripesError) ct_FormstripesError cc_FormstripesError), sl_FormstripesError⟩)
    (i4_FormstripesError : PySem.W.codeIn K (.ref cda_FormstripesError) "FormstripesError.__init__" = true) {ccl_FormstripesError cl_FormstripesError : Value} {cdd_FormstripesError cld_FormstripesError : Option Addr} {vs_FormstripesError : Array Value} {ccs_FormstripesError csl_FormstripesError : Array (Option Value)} {file_FormstripesError : Str} {tf_FormstripesError : Tok}
    (i5_FormstripesError : K.lookup cda_FormstripesError = some ⟨ccl_FormstripesError, cdd_FormstripesError, .fields vs_FormstripesError, ccs_FormstripesError⟩) (i6_FormstripesError : vs_FormstripesError[2]? = some (.str file_FormstripesError tf_FormstripesError)) (i7_FormstripesError : ((P.main.file : Str) == file_FormstripesError) = true)
    (i8_FormstripesError : K.lookup cc_FormstripesError = some ⟨cl_FormstripesError, cld_FormstripesError, .cell (some (.ref C_FormstripesError)), csl_FormstripesError⟩) {cd_FormstripesError : ClassData} (i9_FormstripesError : PySem.W.clsIn K C_FormstripesError = some cd_FormstripesError)
    {fI_InvalidText cc_InvalidText cda_InvalidText : Addr} {oc_InvalidText kV_InvalidText dc_InvalidText pm_InvalidText ct_InvalidText : Value} {od_InvalidText an_InvalidText : Option Addr} {sl_InvalidText : Array (Option Value)}
    (i0_InvalidText : PySem.W.findIn K (.ref C_InvalidText) "__init__" = some (some (.ref fI_InvalidText))) (i1_InvalidText : PySem.W.typeIn K (.ref fI_InvalidText) = some (.type "function")) (i2_InvalidText : PySem.W.fnIn K fI_InvalidText = true)
    (i3_InvalidText : K.lookup fI_InvalidText = some ⟨oc_InvalidText, od_InvalidText, .func (PySem.W.ksFn "__init__" "InvalidText.__init__" (defArgs s_InvalidText___init__) (defBody s_InvalidText___init__) (defScope s_InvalidText___init__) .none kV_InvalidText dc_InvalidText pm_InvalidText an_InvalidText (.ref cda_InvalidText) ct_InvalidText cc_InvalidText), sl_InvalidText⟩)
    (i4_InvalidText : PySem.W.codeIn K (.ref cda_InvalidText) "InvalidText.__init__" = true) {ccl_InvalidText cl_InvalidText : Value} {cdd_InvalidText cld_InvalidText : Option Addr} {vs_InvalidText : Array Value} {ccs_InvalidText csl_InvalidText : Array (Option Value)} {file_InvalidText : Str} {tf_InvalidText : Tok}
    (i5_InvalidText : K.lookup cda_InvalidText = some ⟨ccl_InvalidText, cdd_InvalidText, .fields vs_InvalidText, ccs_InvalidText⟩) (i6_InvalidText : vs_InvalidText[2]? = some (.str file_InvalidText tf_InvalidText)) (i7_InvalidText : ((P.main.file : Str) == file_InvalidText) = true)
    (i8_InvalidText : K.lookup cc_InvalidText = some ⟨cl_InvalidText, cld_InvalidText, .cell (some (.ref C_InvalidText)), csl_InvalidText⟩) {cd_InvalidText : ClassData} (i9_InvalidText : PySem.W.clsIn K C_InvalidText = some cd_InvalidText)
    (zs : PySem.W.nsIn K mainGlobals "super" = some none) (zt : (P.main.scope.names.lookup ("super" : Str)).isSome = false) (z3 : PySem.W.nsIn K cStatics "thirdparty.any" = some none)
    {nm_InvalidText q_InvalidText : Str} {Nn_InvalidText : Addr} {bs_InvalidText bm_InvalidText : List Value} {sn_InvalidText : List Str} {sub_InvalidText : List Value} {ab_InvalidText : Bool} {col_InvalidText : Option Bool} {ddd_InvalidText : Option Addr} {k0_InvalidText k1_InvalidText k2_InvalidText k3_InvalidText k5_InvalidText : Option Value}
    (j0_InvalidText : K.lookup C_InvalidText = some (excClassObj nm_InvalidText q_InvalidText C_InvalidText Nn_InvalidText bs_InvalidText bm_InvalidText true sn_InvalidText sub_InvalidText ab_InvalidText col_InvalidText ddd_InvalidText k0_InvalidText k1_InvalidText k2_InvalidText k3_InvalidText k5_InvalidText "ValueError.__new__")) (j1_InvalidText : PySem.HandSPX.refsVE bm_InvalidText = true)
    (j2_InvalidText : PySem.W.findIn K (.ref C_InvalidText) "__setattr__" = some (some (.builtin "object.__setattr__"))) (j3_InvalidText : PySem.W.subIn K (.ref C_InvalidText) (.type "BaseException") = some true) (j4_InvalidText : PySem.W.typeIn K (.ref C_InvalidText) = some (.type "type")) (j5_InvalidText : PySem.W.keepIn K (.ref C_InvalidText) = true)
    (j6_InvalidText : PySem.W.mroIn K C_InvalidText (.ref C_InvalidText) = some true) (j7_InvalidText : PySem.W.mroIn K C_InvalidText (.ref C_FormstripesError) = some true) (j8_InvalidText : PySem.W.findIn K (.ref C_InvalidText) "place" = some none) (j9_InvalidText : PySem.W.findIn K (.ref C_InvalidText) "name" = some none)
    (l0_InvalidText : PySem.W.ks_superIn K C_InvalidText C_FormstripesError "__init__" = some (some (.builtin "ValueError.__init__"))) (l1_InvalidText : PySem.W.subIn K (.ref C_InvalidText) (.type "ValueError") = some true) (l2_InvalidText : PySem.W.ks_superIn K C_InvalidText C_InvalidText "__init__" = some (some (.ref fI_FormstripesError)))
    (l3_InvalidText : PySem.W.findIn K (.ref C_InvalidText) "__getattribute__" = some (some (.builtin "BaseException.__getattribute__"))) (l4_InvalidText : PySem.W.findIn K (.ref C_InvalidText) "__getattr__" = some none) (l5_InvalidText : PySem.W.hasDictIn K C_InvalidText = true)
    (m0_InvalidText : PySem.W.findIn K (.ref C_InvalidText) "__class__" = some (some (.builtin "object.__class__"))) (m3_InvalidText : PySem.W.mroIn K C_InvalidText (.type "object") = some true) (kv_InvalidText : PySem.W.kitOne K (.ref C_InvalidText) (.type "ValueError") = some true)
    (em_InvalidText_FormstripesError : PySem.W.exmOne K (.ref C_InvalidText) (.ref C_FormstripesError) = some true) (ko_InvalidText_FormstripesError : PySem.W.kitOne K (.ref C_InvalidText) (.ref C_FormstripesError) = some true)
    (em_InvalidText_InvalidJson : PySem.W.exmOne K (.ref C_InvalidText) (.ref C_InvalidJson) = some false) (ko_InvalidText_InvalidJson : PySem.W.kitOne K (.ref C_InvalidText) (.ref C_InvalidJson) = some false)
    (em_InvalidText_InvalidText : PySem.W.exmOne K (.ref C_InvalidText) (.ref C_InvalidText) = some true) (ko_InvalidText_InvalidText : PySem.W.kitOne K (.ref C_InvalidText) (.ref C_InvalidText) = some true)
    (m1 : PySem.W.specialIn K (.builtin "object.__class__") "__get__" = some (some (.builtin "getset_descriptor.__get__"))) (m2 : PySem.W.takesIn K (.builtin "object.__class__") = some true) :
    ∃ fd : FuncData, (∀ (s : Shared) (v : Value), BindsTo s fd ⟨[v], []⟩ [("script", v)]) ∧ ∀ base : Heap, K.In base → base.Ns mainGlobals mg → FnOk P w K mg base CX0 6 fa fd ["script"] (spLawS K) := by
  have e := hfa.symm.trans (PySem.W.mg_of X G a11)
  cases e
  have F1 := fun_mk (st := s_is_text) l1 c1 k1
  have F2 := fun_mk (st := s_char_of) l2 c2 k2
  have F3 := fun_mk (st := s_code_of) l3 c3 k3
  have F4 := fun_mk (st := s_encode_text) l4 c4 k4
  have F5 := fun_mk (st := s_decode_text) l5 c5 k5
  have F6 := fun_mk (st := s__law_draw) l6 c6 k6
  have F7 := fun_mk (st := s__law_is_integer) l7 c7 k7
  have F8 := fun_mk (st := s__law_same) l8 c8 k8
  have F9 := fun_mk (st := s__law_alphabet) l9 c9 k9
  have F10 := fun_mk (st := s__law_told) l10 c10 k10
  have F11 := fun_mk (st := s_law) l11 c11 k11
  refine ⟨_, fun s v => .of_eq (fd := PySem.W.fnOf "law" "law" (defArgs s_law) (defBody s_law) (defScope s_law) .none kV11 dc11 pm11 an11 cd11 ct11) rfl, fun base KB GB => ?_⟩
  have S_FormstripesError : SupF P K mg "__init__" "FormstripesError.__init__" s_FormstripesError___init__ fI_FormstripesError C_FormstripesError _ cda_FormstripesError cc_FormstripesError := ⟨⟨_, _, _, _, _, _, _, _, _, rfl, i3_FormstripesError⟩, i4_FormstripesError, ⟨_, _, _, _, _, _, i5_FormstripesError, i6_FormstripesError, i7_FormstripesError⟩, ⟨_, _, _, i8_FormstripesError⟩, ⟨_, i9_FormstripesError⟩, PySem.W.mg_none_of X G zs, zt, z3⟩
  have B0 : Binds K _ ["self", "place", "name"] [] := binds_dfl (fd := PySem.W.ksFn "__init__" "FormstripesError.__init__" (defArgs s_FormstripesError___init__) (defBody s_FormstripesError___init__) (defScope s_FormstripesError___init__) (.ref dT) kV_FormstripesError dc_FormstripesError pm_FormstripesError an_FormstripesError (.ref cda_FormstripesError) ct_FormstripesError cc_FormstripesError) d0 rfl fun us hl => match us, hl with | [_, _, _], _ => ⟨_, rfl, rfl⟩
  have I0 := ok_form (w := w) (base := base) (CX := CX0) (pl := _) S_FormstripesError (NdefX.nscope_by (by decide +kernel)) rfl (fun _ => rfl) rfl rfl (by decide +kernel) (by decide +kernel)
  have S_InvalidText : SupF P K mg "__init__" "InvalidText.__init__" s_InvalidText___init__ fI_InvalidText C_InvalidText _ cda_InvalidText cc_InvalidText := ⟨⟨_, _, _, _, _, _, _, _, _, rfl, i3_InvalidText⟩, i4_InvalidText, ⟨_, _, _, _, _, _, i5_InvalidText, i6_InvalidText, i7_InvalidText⟩, ⟨_, _, _, i8_InvalidText⟩, ⟨_, i9_InvalidText⟩, PySem.W.mg_none_of X G zs, zt, z3⟩
  have ox_InvalidText : OexC K C_InvalidText := ⟨⟨nm_InvalidText, q_InvalidText, Nn_InvalidText, bs_InvalidText, bm_InvalidText, sn_InvalidText, sub_InvalidText, ab_InvalidText, col_InvalidText, ddd_InvalidText, k0_InvalidText, k1_InvalidText, k2_InvalidText, k3_InvalidText, k5_InvalidText, j0_InvalidText, j1_InvalidText⟩, j2_InvalidText, j3_InvalidText, j4_InvalidText, j5_InvalidText⟩
  have B_InvalidText : Binds K _ ["self", "place"] [] := .all (fd := PySem.W.ksFn "__init__" "InvalidText.__init__" (defArgs s_InvalidText___init__) (defBody s_InvalidText___init__) (defScope s_InvalidText___init__) .none kV_InvalidText dc_InvalidText pm_InvalidText an_InvalidText (.ref cda_InvalidText) ct_InvalidText cc_InvalidText) fun us hl => match us, hl with | [_, _], _ => rfl
  have N_InvalidText : KinE P w K mg base "InvalidText" C_InvalidText C_FormstripesError "InvalidText" := ⟨⟨fI_InvalidText, _, i0_InvalidText, i1_InvalidText, ok_kin (pl := _) (nm := "InvalidText") S_InvalidText (NdefX.nscope_by (by decide +kernel)) rfl (fun _ => rfl) rfl rfl (by decide +kernel) (by decide +kernel) ⟨ox_InvalidText, j6_InvalidText⟩ ⟨⟨ox_InvalidText, j7_InvalidText⟩, j8_InvalidText, j9_InvalidText, l0_InvalidText, l1_InvalidText⟩ l2_InvalidText i1_FormstripesError i2_FormstripesError I0 B0, B_InvalidText⟩, ox_InvalidText, PySem.W.mg_of X G aC_InvalidText⟩
  have xf_InvalidText : XfC K C_InvalidText := ⟨l3_InvalidText, l4_InvalidText, j3_InvalidText, l5_InvalidText⟩
  have xc_InvalidText : ExcC K C_InvalidText := ⟨l3_InvalidText, l4_InvalidText, j3_InvalidText, l5_InvalidText, m0_InvalidText, m1, m2, m3_InvalidText⟩
  have T : Top P w ⟨K, C_FormstripesError, C_InvalidJson, C_InvalidText⟩ mg base := ⟨True.intro, PySem.W.mg_none_of X G b_ValueError, PySem.W.mg_none_of X G b_bool, PySem.W.mg_none_of X G b_int, PySem.W.mg_none_of X G b_isinstance, PySem.W.mg_none_of X G b_len, PySem.W.mg_none_of X G b_list, PySem.W.mg_none_of X G b_range, ⟨_, PySem.W.mg_of X G g_BEFORE, ⟨_, rfl⟩⟩, ⟨_, PySem.W.mg_of X G g_BEHIND, ⟨_, rfl⟩⟩, ⟨_, PySem.W.mg_of X G g_FIRST_BEHIND, ⟨_, rfl⟩⟩, ⟨_, PySem.W.mg_of X G g_LINE_FEED, ⟨_, rfl⟩⟩, ⟨_, PySem.W.mg_of X G g_TAB, ⟨_, rfl⟩⟩, PySem.W.mg_of X G aC_FormstripesError, PySem.W.mg_of X G aC_InvalidJson, PySem.W.mg_of X G aC_InvalidText, N_InvalidText, xf_InvalidText, xc_InvalidText, j8_InvalidText, kv_InvalidText, j9_InvalidText, em_InvalidText_FormstripesError, ko_InvalidText_FormstripesError, em_InvalidText_InvalidJson, ko_InvalidText_InvalidJson, em_InvalidText_InvalidText, ko_InvalidText_InvalidText⟩
  have E_is_text : FnE P w K mg base CX0 "is_text" 1 ["text"] (sp_is_text ⟨K, C_FormstripesError, C_InvalidJson, C_InvalidText⟩) := ⟨_, _, PySem.W.mg_of X G a1, k1, F1.binds (ps := ["text"]) fun _ _ _ _ _ _ us hl => match us, hl with | [_], _ => rfl, ok_is_text (G := ⟨K, C_FormstripesError, C_InvalidJson, C_InvalidText⟩) T F1⟩
  have E_char_of : FnE P w K mg base CX0 "char_of" 1 ["code"] (sp_char_of ⟨K, C_FormstripesError, C_InvalidJson, C_InvalidText⟩) := ⟨_, _, PySem.W.mg_of X G a2, k2, F2.binds (ps := ["code"]) fun _ _ _ _ _ _ us hl => match us, hl with | [_], _ => rfl, ok_char_of (G := ⟨K, C_FormstripesError, C_InvalidJson, C_InvalidText⟩) T F2⟩
  have E_code_of : FnE P w K mg base CX0 "code_of" 1 ["char"] (sp_code_of ⟨K, C_FormstripesError, C_InvalidJson, C_InvalidText⟩) := ⟨_, _, PySem.W.mg_of X G a3, k3, F3.binds (ps := ["char"]) fun _ _ _ _ _ _ us hl => match us, hl with | [_], _ => rfl, ok_code_of (G := ⟨K, C_FormstripesError, C_InvalidJson, C_InvalidText⟩) T F3⟩
  have E_encode_text : FnE P w K mg base CX0 "encode_text" 2 ["text"] (sp_encode_text ⟨K, C_FormstripesError, C_InvalidJson, C_InvalidText⟩) := ⟨_, _, PySem.W.mg_of X G a4, k4, F4.binds (ps := ["text"]) fun _ _ _ _ _ _ us hl => match us, hl with | [_], _ => rfl, ok_encode_text (G := ⟨K, C_FormstripesError, C_InvalidJson, C_InvalidText⟩) T E_code_of F4⟩
  have E_decode_text : FnE P w K mg base (L2.CX P w) "decode_text" 4 ["octets"] (sp_decode_text ⟨K, C_FormstripesError, C_InvalidJson, C_InvalidText⟩) := ⟨_, _, PySem.W.mg_of X G a5, k5, F5.binds (ps := ["octets"]) fun _ _ _ _ _ _ us hl => match us, hl with | [_], _ => rfl, ok_decode_text (G := ⟨K, C_FormstripesError, C_InvalidJson, C_InvalidText⟩) T E_char_of F5⟩
  have E__law_draw : FnE P w K mg base CX0 "_law_draw" 1 ["cell", "many", "bound"] (sp__law_draw ⟨K, C_FormstripesError, C_InvalidJson, C_InvalidText⟩) := ⟨_, _, PySem.W.mg_of X G a6, k6, F6.binds (ps := ["cell", "many", "bound"]) fun _ _ _ _ _ _ us hl => match us, hl with | [_, _, _], _ => rfl, ok__law_draw (G := ⟨K, C_FormstripesError, C_InvalidJson, C_InvalidText⟩) T F6⟩
  have E__law_is_integer : FnE P w K mg base CX0 "_law_is_integer" 1 ["actual"] (sp__law_is_integer ⟨K, C_FormstripesError, C_InvalidJson, C_InvalidText⟩) := ⟨_, _, PySem.W.mg_of X G a7, k7, F7.binds (ps := ["actual"]) fun _ _ _ _ _ _ us hl => match us, hl with | [_], _ => rfl, ok__law_is_integer (G := ⟨K, C_FormstripesError, C_InvalidJson, C_InvalidText⟩) T F7⟩
  have E__law_same : FnE P w K mg base CX0 "_law_same" 2 ["actual", "expected"] (sp__law_same ⟨K, C_FormstripesError, C_InvalidJson, C_InvalidText⟩) := ⟨_, _, PySem.W.mg_of X G a8, k8, F8.binds (ps := ["actual", "expected"]) fun _ _ _ _ _ _ us hl => match us, hl with | [_, _], _ => rfl, ok__law_same (G := ⟨K, C_FormstripesError, C_InvalidJson, C_InvalidText⟩) T E__law_is_integer F8⟩
  have E__law_alphabet : FnE P w K mg base CX0 "_law_alphabet" 1 [] (sp__law_alphabet ⟨K, C_FormstripesError, C_InvalidJson, C_InvalidText⟩) := ⟨_, _, PySem.W.mg_of X G a9, k9, F9.binds (ps := []) fun _ _ _ _ _ _ us hl => match us, hl with | [], _ => rfl, ok__law_alphabet (G := ⟨K, C_FormstripesError, C_InvalidJson, C_InvalidText⟩) T F9⟩
  have E__law_told : FnE P w K mg base CX0 "_law_told" 5 ["octets"] (sp__law_told ⟨K, C_FormstripesError, C_InvalidJson, C_InvalidText⟩) := ⟨_, _, PySem.W.mg_of X G a10, k10, F10.binds (ps := ["octets"]) fun _ _ _ _ _ _ us hl => match us, hl with | [_], _ => rfl, ok__law_told (G := ⟨K, C_FormstripesError, C_InvalidJson, C_InvalidText⟩) T E_decode_text F10⟩
  exact lawS (ok_law (G := ⟨K, C_FormstripesError, C_InvalidJson, C_InvalidText⟩) T E__law_alphabet E__law_draw E__law_same E__law_told E_decode_text E_encode_text E_is_text F11)
theorem walk {l : PySem.W.OpenLaw} {q : Program} {loose : List Str} {XP : (Str → Option Value) → Heap → Prop} {YP : World → Heap → Prop} {d : DefRec} {K : Params → PySem.W.Frag} (hn : l.most = some 63) (hdf : d.params.defaults = [])
    (hY : ∀ (w : World) (h : Heap), YP w h → (K w.params).In h)
    (F : ∀ (w : World) (mg : Str → Option Value) (fa : Addr) (h : Heap), (K w.params).In h → h.Ns mainGlobals mg → mg d.name = some (.ref fa) →
      ∃ fd : FuncData, (∀ (s : Shared) (u : Value), BindsTo s fd ⟨[u], []⟩ [("script", u)]) ∧ ∀ base : Heap, (K w.params).In base → base.Ns mainGlobals mg → FnOk l.prog w (K w.params) mg base CX0 6 fa fd ["script"] (spLawS (K w.params))) :
    PySem.W.WalkO q loose XP YP l.row.toRowW d [] (fun f vs => PySem.call f vs) :=
  L2.walk_of (n := 63) (k := 6) (x := "script") (CX := fun _ => CX0) (sp := fun w => spLawS (K w.params)) hn (by decide) hdf ⟨rfl, by decide, by decide⟩ hY F (fun _ _ a ns hl _ hS => ⟨a, ns, rfl, hS, hl, fun _ => rfl⟩) fun _ _ _ _ _ z => z
end My

open PySem PySem.W PyProof.Rows in
set_option maxRecDepth 100000 in
set_option maxHeartbeats 0 in
theorem PySem.Challenge.cw_formstripes_k01_texts_as_octets_holds : PySem.Challenge.rw_formstripes_k01_texts_as_octets.Holds := by
  w_on; o_law; k_head; (case hw => w_witness2)
  k_fill
  refine My.walk (l := PySem.Challenge.rw_formstripes_k01_texts_as_octets) rfl rfl (fun w h Y => PySem.W.kIn_of Y) ?F
  case F =>
    intro w mg fa h KX G hmg
    refine' My.all_mk KX G hmg ?a1 ?l1 ?c1 ?k1 ?a2 ?l2 ?c2 ?k2 ?a3 ?l3 ?c3 ?k3 ?a4 ?l4 ?c4 ?k4 ?a5 ?l5 ?c5 ?k5 ?a6 ?l6 ?c6 ?k6 ?a7 ?l7 ?c7 ?k7 ?a8 ?l8 ?c8 ?k8 ?a9 ?l9 ?c9 ?k9 ?a10 ?l10 ?c10 ?k10 ?a11 ?l11 ?c11 ?k11 ?b_ValueError ?b_bool ?b_int ?b_isinstance ?b_len ?b_list ?b_range ?g_BEFORE ?g_BEHIND ?g_FIRST_BEHIND ?g_LINE_FEED ?g_TAB ?aC_FormstripesError ?aC_InvalidJson ?aC_InvalidText ?d0 ?i0_FormstripesError ?i1_FormstripesError ?i2_FormstripesError ?i3_FormstripesError ?i4_FormstripesError ?i5_FormstripesError ?i6_FormstripesError ?i7_FormstripesError ?i8_FormstripesError ?i9_FormstripesError ?i0_InvalidText ?i1_InvalidText ?i2_InvalidText ?i3_InvalidText ?i4_InvalidText ?i5_InvalidText ?i6_InvalidText ?i7_InvalidText ?i8_InvalidText ?i9_InvalidText ?zs ?zt ?z3 ?j0_InvalidText ?j1_InvalidText ?j2_InvalidText ?j3_InvalidText ?j4_InvalidText ?j5_InvalidText ?j6_InvalidText ?j7_InvalidText ?j8_InvalidText ?j9_InvalidText ?l0_InvalidText ?l1_InvalidText ?l2_InvalidText ?l3_InvalidText ?l4_InvalidText ?l5_InvalidText ?m0_InvalidText ?m3_InvalidText ?kv_InvalidText ?em_InvalidText_FormstripesError ?ko_InvalidText_FormstripesError ?em_InvalidText_InvalidJson ?ko_InvalidText_InvalidJson ?em_InvalidText_InvalidText ?ko_InvalidText_InvalidText ?m1 ?m2
    (case a1 => first | k_is | kernel_rfl)
    (case l1 => first | k_is | kernel_rfl)
    (case c1 => first | k_is | kernel_rfl)
    (case k1 => first | k_is | kernel_rfl)
    (case a2 => first | k_is | kernel_rfl)
    (case l2 => first | k_is | kernel_rfl)
    (case c2 => first | k_is | kernel_rfl)
    (case k2 => first | k_is | kernel_rfl)
    (case a3 => first | k_is | kernel_rfl)
    (case l3 => first | k_is | kernel_rfl)
    (case c3 => first | k_is | kernel_rfl)
    (case k3 => first | k_is | kernel_rfl)
    (case a4 => first | k_is | kernel_rfl)
    (case l4 => first | k_is | kernel_rfl)
    (case c4 => first | k_is | kernel_rfl)
    (case k4 => first | k_is | kernel_rfl)
    (case a5 => first | k_is | kernel_rfl)
    (case l5 => first | k_is | kernel_rfl)
    (case c5 => first | k_is | kernel_rfl)
    (case k5 => first | k_is | kernel_rfl)
    (case a6 => first | k_is | kernel_rfl)
    (case l6 => first | k_is | kernel_rfl)
    (case c6 => first | k_is | kernel_rfl)
    (case k6 => first | k_is | kernel_rfl)
    (case a7 => first | k_is | kernel_rfl)
    (case l7 => first | k_is | kernel_rfl)
    (case c7 => first | k_is | kernel_rfl)
    (case k7 => first | k_is | kernel_rfl)
    (case a8 => first | k_is | kernel_rfl)
    (case l8 => first | k_is | kernel_rfl)
    (case c8 => first | k_is | kernel_rfl)
    (case k8 => first | k_is | kernel_rfl)
    (case a9 => first | k_is | kernel_rfl)
    (case l9 => first | k_is | kernel_rfl)
    (case c9 => first | k_is | kernel_rfl)
    (case k9 => first | k_is | kernel_rfl)
    (case a10 => first | k_is | kernel_rfl)
    (case l10 => first | k_is | kernel_rfl)
    (case c10 => first | k_is | kernel_rfl)
    (case k10 => first | k_is | kernel_rfl)
    (case a11 => first | k_is | kernel_rfl)
    (case l11 => first | k_is | kernel_rfl)
    (case c11 => first | k_is | kernel_rfl)
    (case k11 => first | k_is | kernel_rfl)
    (case b_ValueError => first | k_is | kernel_rfl)
    (case b_bool => first | k_is | kernel_rfl)
    (case b_int => first | k_is | kernel_rfl)
    (case b_isinstance => first | k_is | kernel_rfl)
    (case b_len => first | k_is | kernel_rfl)
    (case b_list => first | k_is | kernel_rfl)
    (case b_range => first | k_is | kernel_rfl)
    (case g_BEFORE => first | k_is | kernel_rfl)
    (case g_BEHIND => first | k_is | kernel_rfl)
    (case g_FIRST_BEHIND => first | k_is | kernel_rfl)
    (case g_LINE_FEED => first | k_is | kernel_rfl)
    (case g_TAB => first | k_is | kernel_rfl)
    (case aC_FormstripesError => first | k_is | kernel_rfl)
    (case aC_InvalidJson => first | k_is | kernel_rfl)
    (case aC_InvalidText => first | k_is | kernel_rfl)
    (case i0_FormstripesError => first | k_is | kernel_rfl)
    (case i1_FormstripesError => first | k_is | kernel_rfl)
    (case i2_FormstripesError => first | k_is | kernel_rfl)
    (case i3_FormstripesError => first | k_is | kernel_rfl)
    (case i4_FormstripesError => first | k_is | kernel_rfl)
    (case i5_FormstripesError => first | k_is | kernel_rfl)
    (case i6_FormstripesError => rfl)
    (case i7_FormstripesError => first | rfl | decide +kernel)
    (case i8_FormstripesError => first | k_is | kernel_rfl)
    (case i9_FormstripesError => first | k_is | kernel_rfl)
    (case i0_InvalidText => first | k_is | kernel_rfl)
    (case i1_InvalidText => first | k_is | kernel_rfl)
    (case i2_InvalidText => first | k_is | kernel_rfl)
    (case i3_InvalidText => first | k_is | kernel_rfl)
    (case i4_InvalidText => first | k_is | kernel_rfl)
    (case i5_InvalidText => first | k_is | kernel_rfl)
    (case i6_InvalidText => rfl)
    (case i7_InvalidText => first | rfl | decide +kernel)
    (case i8_InvalidText => first | k_is | kernel_rfl)
    (case i9_InvalidText => first | k_is | kernel_rfl)
    (case zs => first | k_is | kernel_rfl)
    (case zt => first | rfl | decide +kernel)
    (case z3 => first | k_is | kernel_rfl)
    (case j0_InvalidText => first | k_is | kernel_rfl)
    (case j1_InvalidText => first | rfl | decide +kernel)
    (case j2_InvalidText => first | k_is | kernel_rfl)
    (case j3_InvalidText => first | k_is | kernel_rfl)
    (case j4_InvalidText => first | k_is | kernel_rfl)
    (case j5_InvalidText => first | k_is | kernel_rfl)
    (case j6_InvalidText => first | k_is | kernel_rfl)
    (case j7_InvalidText => first | k_is | kernel_rfl)
    (case j8_InvalidText => first | k_is | kernel_rfl)
    (case j9_InvalidText => first | k_is | kernel_rfl)
    (case l0_InvalidText => ks_is)
    (case l1_InvalidText => first | k_is | kernel_rfl)
    (case l2_InvalidText => ks_is)
    (case l3_InvalidText => first | k_is | kernel_rfl)
    (case l4_InvalidText => first | k_is | kernel_rfl)
    (case l5_InvalidText => first | k_is | kernel_rfl)
    (case m0_InvalidText => first | k_is | kernel_rfl)
    (case m3_InvalidText => first | k_is | kernel_rfl)
    (case kv_InvalidText => kit_is)
    (case em_InvalidText_FormstripesError => first | k_is | kx_is | rfl | kernel_rfl)
    (case ko_InvalidText_FormstripesError => kit_is)
    (case em_InvalidText_InvalidJson => first | k_is | kx_is | rfl | kernel_rfl)
    (case ko_InvalidText_InvalidJson => kit_is)
    (case em_InvalidText_InvalidText => first | k_is | kx_is | rfl | kernel_rfl)
    (case ko_InvalidText_InvalidText => kit_is)
    (case m1 => first | k_is | kernel_rfl)
    (case m2 => first | k_is | kernel_rfl)
    (case d0 => k_is)

