import PyProof.Rows.All
import Wide.All
import OpenK.AllK
import Wide.FinOn
import HandS.ForMost
import HandS.Wide
import HandS.WideBits
import HandS.IsInst
import HandS.Flow
import HandS.More
import KE.OsArith
import KE.KExcSuper
import KE.KSuper
import HandS.ExcInit
import HandS.Nested
import HandS.TryOnly
import HandS.TryMany
import HandS.WordsExc
import HandS.SuiteRaise
import HandS.ExcIs
import HandS.ExcField
import HandS.ExcOwn
import HandS.CallSlots
import KE.KExcIs
import HandS.Defaults
import PySem.Challenge.RW_formstripes_k09_numbers_as_octets
set_option Elab.async false
set_option linter.all false
set_option maxRecDepth 100000
set_option maxHeartbeats 4000000
/-! R: rules joined by kinds of values, with the equations of their readings. -/
namespace R
open PySem PySem.Spec PyProof.Rows L2

section
variable {X : Cx}
theorem opImp {f : Value → Value → Sem Value} {r r' : R2} (h : OpR X f r) (i : ∀ x y H Q, r' x y H Q → r x y H Q) : OpR X f r' :=
  fun pins s σ H x y u v Q I rx ry q => h pins s σ H x y u v Q I rx ry (i _ _ _ _ q)
theorem unImp {f : Value → Sem Value} {r r' : V → Hp → VK → Prop} (h : UnR X f r) (i : ∀ x H Q, r' x H Q → r x H Q) : UnR X f r' :=
  fun pins s σ H x v Q I rx q => h pins s σ H x v Q I rx (i _ _ _ q)
theorem callImp {f : Value} {r r' : List V → Hp → VK → Prop} (h : CallR X f r) (i : ∀ xs H Q, r' xs H Q → r xs H Q) : CallR X f r' :=
  fun pins s σ H xs us Q I rx q => h pins s σ H xs us Q I rx (i _ _ _ q)
theorem ixImp {r r' : R2} (h : IxR X r) (i : ∀ x y H Q, r' x y H Q → r x y H Q) : IxR X r' :=
  fun a b pins s σ H x y u v Q I rx ry q e => h a b pins s σ H x y u v Q I rx ry (i _ _ _ _ q) e
theorem mtImp {id : String} {r r' : V → List V → Hp → VK → Prop} (h : MtR X id r) (i : ∀ x xs H Q, r' x xs H Q → r x xs H Q) : MtR X id r' :=
  fun pins s σ H x xs u us Q I rx ry q => h pins s σ H x xs u us Q I rx ry (i _ _ _ _ q)
end

/-! ### ints -/
def mI (C : Int → Int → Prop) (g : Int → Int → V) : R2 := fun x y H Q => match x, y with
  | .int i, .int j => C i j ∧ Q (g i j) H
  | _, _ => False
def mI0 (g : Int → Int → V) : R2 := fun x y H Q => match x, y with
  | .int i, .int j => Q (g i j) H
  | _, _ => False
theorem mI_e {C g i j H Q} : mI C g (.int i) (.int j) H Q = (C i j ∧ Q (g i j) H) := rfl
theorem mI0_e {g i j H Q} : mI0 g (.int i) (.int j) H Q = Q (g i j) H := rfl
theorem mI_of {X : Cx} {f : Value → Value → Sem Value} {C g} (h : OpR X f (rI C g)) : OpR X f (mI C g) := opImp h fun x y H Q q => by
  cases x <;> cases y <;> first | exact q.elim | exact ⟨_, _, rfl, rfl, q.1, q.2⟩
theorem mI0_of {X : Cx} {f : Value → Value → Sem Value} {g} (h : OpR X f (rI0 g)) : OpR X f (mI0 g) := opImp h fun x y H Q q => by
  cases x <;> cases y <;> first | exact q.elim | exact ⟨_, _, rfl, rfl, q⟩
/-- a product's sizes -/
def CM (i j : Int) : Prop := CMul i j ∨ CMulW i j
/-- a divisor's size -/
def CD (i j : Int) : Prop := 0 < j ∧ (j < 1073741824 ∨ j.natAbs.log2 < 9000)
/-- a shift's sizes -/
def CS (i j : Int) : Prop := 0 ≤ j ∧ ((j ≤ 1000000 ∧ i.natAbs < 2 ^ 64) ∨ (Builtin.Int.intBits i : Int) + j ≤ 2 ^ 27)
section
variable {X : Cx}
theorem orI {f : Value → Value → Sem Value} {C C' g} (h : OpR X f (rI C g)) (h' : OpR X f (rI C' g)) : OpR X f (rI (fun i j => C i j ∨ C' i j) g) :=
  opImp (h.or h') fun x y H Q ⟨i, j, e1, e2, c, q⟩ => c.elim (fun c => .inl ⟨i, j, e1, e2, c, q⟩) fun c => .inr ⟨i, j, e1, e2, c, q⟩
theorem cI {f : Value → Value → Sem Value} {C C' : Int → Int → Prop} {g} (h : OpR X f (rI C g)) (i : ∀ i j, C' i j → C i j) : OpR X f (rI C' g) :=
  opImp h fun x y H Q ⟨a, b, e1, e2, c, q⟩ => ⟨a, b, e1, e2, i _ _ c, q⟩
def rSubI : R2 := mI0 fun i j => .int (i - j)
def rMulI : R2 := mI CM fun i j => .int (i * j)
def rFdiv : R2 := mI CD fun i j => .int (i / j)
def rMod : R2 := mI (fun _ j => 0 < j) fun i j => .int (i % j)
def rShl : R2 := mI CS fun i j => .int (i * 2 ^ j.toNat)
def rShr : R2 := mI (fun _ j => 0 ≤ j) fun i j => .int (i / 2 ^ j.toNat)
def rXor : R2 := mI0 fun i j => .int (Builtin.bitXor i j)
def rAndB : R2 := mI0 fun i j => .int (Builtin.bitAnd i j)
def rOrB : R2 := mI0 fun i j => .int (Builtin.bitOr i j)
def rPow : R2 := mI CPow fun i j => .int (i ^ j.toNat)
theorem u_sub : OpR X (binaryOp .Sub) rSubI := mI0_of op_sub
theorem u_mulI : OpR X (binaryOp .Mult) rMulI := mI_of (orI op_mul op_mulW)
theorem u_fdiv : OpR X (binaryOp .FloorDiv) rFdiv := mI_of (cI (orI op_fdiv op_fdivW) fun i j c => c.2.elim (fun h => .inl ⟨c.1, h⟩) fun h => .inr ⟨c.1, h⟩)
theorem u_mod : OpR X (binaryOp .Mod) rMod := mI_of op_mod
theorem u_shl : OpR X (binaryOp .LShift) rShl := mI_of (cI (orI op_shl op_shlW) fun i j c => c.2.elim (fun h => .inl ⟨c.1, h.1, h.2⟩) fun h => .inr ⟨c.1, h⟩)
theorem u_shr : OpR X (binaryOp .RShift) rShr := mI_of op_shr
theorem u_xor : OpR X (binaryOp .BitXor) rXor := mI0_of op_xor
theorem u_and : OpR X (binaryOp .BitAnd) rAndB := mI0_of op_and
theorem u_or : OpR X (binaryOp .BitOr) rOrB := mI0_of op_or
theorem u_pow : OpR X (binaryOp .Pow) rPow := mI_of op_pow
theorem i_sub : OpR X (inplaceOp .Sub) rSubI := mI0_of iop_sub
theorem i_mod : OpR X (inplaceOp .Mod) rMod := mI_of iop_mod
theorem i_shl : OpR X (inplaceOp .LShift) rShl := mI_of (cI (orI iop_shl iop_shlW) fun i j c => c.2.elim (fun h => .inl ⟨c.1, h.1, h.2⟩) fun h => .inr ⟨c.1, h⟩)
theorem i_shr : OpR X (inplaceOp .RShift) rShr := mI_of iop_shr
theorem i_xor : OpR X (inplaceOp .BitXor) rXor := mI0_of iop_xor
theorem i_and : OpR X (inplaceOp .BitAnd) rAndB := mI0_of iop_and
theorem i_or : OpR X (inplaceOp .BitOr) rOrB := mI0_of iop_or
end
/-! ### new objects -/
def Nw (H : Hp) (o : HO) (Q : VK) : Prop := ∀ p, H p = none → Q (.ref p) (upd H p o)
/-- all that was tracked is as it was -/
theorem Same.new {H : Hp} {p : Addr} {o : HO} (h : H p = none) : Same H (upd H p o) := fun a u e => by
  rw [upd_ne (ne_of_none e h)]
  exact e
theorem nw {H : Hp} {o : HO} {Q : VK} (h : ∀ p H', H p = none → Same H H' → H' p = some o → Q (.ref p) H') : Nw H o Q := fun p hp => h p _ hp (Same.new hp) upd_same

/-! ### lists and tuples that are read -/
open Classical in
noncomputable def klst (K : PySem.W.Frag) (p : Addr) : Option (List V) := if h : ∃ xs, SqL K (fun _ => none) p xs then some (Classical.choose h) else none
open Classical in
noncomputable def ktup (K : PySem.W.Frag) (p : Addr) : Option (List V) := if h : ∃ xs, SqT K (fun _ => none) p xs then some (Classical.choose h) else none
noncomputable def lstv (K : PySem.W.Frag) (H : Hp) (p : Addr) : Option (List V) := match H p with
  | some (.lst xs) => some xs
  | some (.frz _ (.lst xs)) => some xs
  | none => klst K p
  | _ => none
noncomputable def tupv (K : PySem.W.Frag) (H : Hp) (p : Addr) : Option (List V) := match H p with
  | some (.tup xs) => some xs
  | some (.frz _ (.tup xs)) => some xs
  | none => ktup K p
  | _ => none
section
variable {K : PySem.W.Frag} {H H' : Hp} {p : Addr} {xs : List V}
theorem lstv_of (h : H p = some (.lst xs)) : lstv K H p = some xs := by unfold lstv; rw [h]
theorem lstv_frz {o} (h : H p = some (.frz o (.lst xs))) : lstv K H p = some xs := by unfold lstv; rw [h]
theorem tupv_of (h : H p = some (.tup xs)) : tupv K H p = some xs := by unfold tupv; rw [h]
theorem lstv_tup (h : H p = some (.tup xs)) : lstv K H p = none := by unfold lstv; rw [h]
theorem tupv_lst (h : H p = some (.lst xs)) : tupv K H p = none := by unfold tupv; rw [h]
theorem tupv_frz {o} (h : H p = some (.frz o (.lst xs))) : tupv K H p = none := by unfold tupv; rw [h]
theorem lstv_sq (h : lstv K H p = some xs) : SqL K H p xs := by
  unfold lstv at h
  split at h
  · cases h; exact .inl (.inl ‹_›)
  · cases h; exact .inl (.inr ⟨_, ‹_›⟩)
  · unfold klst at h
    split at h
    · rename_i hn he
      have q := Classical.choose_spec he
      cases h
      rcases q with (q | ⟨_, q⟩) | q
      · cases q
      · cases q
      · exact .inr q
    · cases h
  · cases h
theorem tupv_sq (h : tupv K H p = some xs) : SqT K H p xs := by
  unfold tupv at h
  split at h
  · cases h; exact .inl (.inl ‹_›)
  · cases h; exact .inl (.inr ⟨_, ‹_›⟩)
  · unfold ktup at h
    split at h
    · rename_i hn he
      have q := Classical.choose_spec he
      cases h
      rcases q with (q | ⟨_, q⟩) | q
      · cases q
      · cases q
      · exact .inr q
    · cases h
  · cases h
end
/-- a list or a tuple -/
noncomputable def sqv (K : PySem.W.Frag) (H : Hp) (p : Addr) : Option (List V) := match lstv K H p with
  | some xs => some xs
  | none => tupv K H p
theorem sqv_sq {K : PySem.W.Frag} {H : Hp} {p : Addr} {xs : List V} (h : sqv K H p = some xs) : SqL K H p xs ∨ SqT K H p xs := by
  unfold sqv at h
  split at h
  · cases h; exact .inl (lstv_sq ‹_›)
  · exact .inr (tupv_sq h)
theorem sqv_l {K : PySem.W.Frag} {H : Hp} {p : Addr} {xs : List V} (h : lstv K H p = some xs) : sqv K H p = some xs := by unfold sqv; rw [h]
theorem sqv_t {K : PySem.W.Frag} {H : Hp} {p : Addr} {xs : List V} (h : H p = some (.tup xs)) : sqv K H p = some xs := by unfold sqv; rw [lstv_tup h]; exact tupv_of h

/-! ### + -/
def rAddU : R2 := fun x y H Q => match x, y with
  | .int i, .int j => Q (.int (i + j)) H
  | .str a, .str b => a.length + b.length ≤ sizeLine ∧ Q (.str (a ++ b)) H
  | .byt a, .byt b => a.size + b.size ≤ 16777216 ∧ Q (.byt (a ++ b)) H
  | .ref a, .ref b => match H a, H b with
    | some (.lst xs), some (.lst ys) => xs.length + ys.length ≤ sizeLine ∧ Nw H (.lst (xs ++ ys)) Q
    | some (.tup xs), some (.tup ys) => xs ≠ [] ∧ xs.length + ys.length ≤ sizeLine ∧ (ys = [] → Q (.ref a) H) ∧ (ys ≠ [] → Nw H (.tup (xs ++ ys)) Q)
    | _, _ => False
  | _, _ => False
theorem rAddU_int {i j H Q} : rAddU (.int i) (.int j) H Q = Q (.int (i + j)) H := rfl
theorem rAddU_str {i j H Q} : rAddU (.str i) (.str j) H Q = (i.length + j.length ≤ sizeLine ∧ Q (.str (i ++ j)) H) := rfl
theorem rAddU_lst {a b : Addr} {xs ys : List V} {H : Hp} {Q} (ha : H a = some (.lst xs)) (hb : H b = some (.lst ys)) : rAddU (.ref a) (.ref b) H Q = (xs.length + ys.length ≤ sizeLine ∧ Nw H (.lst (xs ++ ys)) Q) := by
  unfold rAddU; simp only [ha, hb]
section
variable {X : Cx}
theorem u_add : OpR X (binaryOp .Add) rAddU := opImp (((op_add.or op_add_str).or op_add_byt).or (op_cat.or op_catT)) fun x y H Q q => by
  unfold rAddU at q
  split at q
  · exact .inl (.inl (.inl ⟨_, _, rfl, rfl, q⟩))
  · exact .inl (.inl (.inr ⟨_, _, rfl, rfl, q⟩))
  · exact .inl (.inr ⟨_, _, rfl, rfl, q⟩)
  · split at q
    · exact .inr (.inl ⟨_, _, _, _, rfl, rfl, ‹_›, ‹_›, q⟩)
    · exact .inr (.inr ⟨_, _, _, _, rfl, rfl, SqT.of ‹_›, SqT.of ‹_›, q⟩)
    · exact q.elim
  · exact q.elim
def rIaddU : R2 := fun x y H Q => match x, y with
  | .int i, .int j => Q (.int (i + j)) H
  | .str a, .str b => a.length + b.length ≤ sizeLine ∧ Q (.str (a ++ b)) H
  | _, _ => False
theorem i_add : OpR X (inplaceOp .Add) rIaddU := opImp (iop_add.or iop_add_str) fun x y H Q q => by
  unfold rIaddU at q
  split at q
  · exact .inl ⟨_, _, rfl, rfl, q⟩
  · exact .inr ⟨_, _, rfl, rfl, q⟩
  · exact q.elim
def rMulU : R2 := fun x y H Q => match x, y with
  | .int i, .int j => CM i j ∧ Q (.int (i * j)) H
  | .ref a, .int k => match H a with
    | some (.lst xs) => -(2 ^ 63) ≤ k ∧ k < 2 ^ 63 ∧ xs.length * k.toNat ≤ sizeLine ∧ Nw H (.lst (List.replicate k.toNat xs).flatten) Q
    | _ => False
  | _, _ => False
theorem u_mul : OpR X (binaryOp .Mult) rMulU := opImp (u_mulI.or op_rep) fun x y H Q q => by
  unfold rMulU at q
  split at q
  · exact .inl q
  · split at q
    · exact .inr ⟨_, _, _, rfl, rfl, ‹_›, q⟩
    · exact q.elim
  · exact q.elim

/-! ### comparisons -/
def rLtU : R2 := fun x y H Q => match x, y with
  | .int i, .int j => Q (.bl (decide (i < j))) H
  | .str a, .str b => Q (.bl (decide (a.cps.toList < b.cps.toList))) H
  | _, _ => False
def rLeU : R2 := fun x y H Q => match x, y with
  | .int i, .int j => Q (.bl (decide (i ≤ j))) H
  | .str a, .str b => Q (.bl (!decide (b.cps.toList < a.cps.toList))) H
  | _, _ => False
def rGtU : R2 := fun x y H Q => match x, y with
  | .int i, .int j => Q (.bl (decide (j < i))) H
  | .str a, .str b => Q (.bl (decide (b.cps.toList < a.cps.toList))) H
  | _, _ => False
def rGeU : R2 := fun x y H Q => match x, y with
  | .int i, .int j => Q (.bl (decide (j ≤ i))) H
  | .str a, .str b => Q (.bl (!decide (a.cps.toList < b.cps.toList))) H
  | _, _ => False
theorem u_lt : OpR X (compareOp .Lt) rLtU := opImp (op_lt.or op_lt_str) fun x y H Q q => by
  cases x <;> cases y <;> first | exact q.elim | exact .inl ⟨_, _, rfl, rfl, q⟩ | exact .inr ⟨_, _, rfl, rfl, q⟩
theorem u_le : OpR X (compareOp .LtE) rLeU := opImp (op_le.or op_le_str) fun x y H Q q => by
  cases x <;> cases y <;> first | exact q.elim | exact .inl ⟨_, _, rfl, rfl, q⟩ | exact .inr ⟨_, _, rfl, rfl, q⟩
theorem u_gt : OpR X (compareOp .Gt) rGtU := opImp (op_gt.or op_gt_str) fun x y H Q q => by
  cases x <;> cases y <;> first | exact q.elim | exact .inl ⟨_, _, rfl, rfl, q⟩ | exact .inr ⟨_, _, rfl, rfl, q⟩
theorem u_ge : OpR X (compareOp .GtE) rGeU := opImp (op_ge.or op_ge_str) fun x y H Q q => by
  cases x <;> cases y <;> first | exact q.elim | exact .inl ⟨_, _, rfl, rfl, q⟩ | exact .inr ⟨_, _, rfl, rfl, q⟩
def isRef : V → Bool
  | .ref _ => true
  | _ => false
def rEqU (K : PySem.W.Frag) : R2 := fun x y H Q => if (isRef x || isRef y) = true then rEqD K x y H Q else scal x y = true ∧ Q (.bl (decide (x = y))) H
def rNeU (K : PySem.W.Frag) : R2 := fun x y H Q => if (isRef x || isRef y) = true then rNeD K x y H Q else scal x y = true ∧ Q (.bl (!decide (x = y))) H
theorem u_eq (hu : X.A.units + 64 < cLine) : OpR X (compareOp .Eq) (rEqU X.K) := opImp (op_eq.or (op_eqD hu)) fun x y H Q q => by
  unfold rEqU at q
  split at q
  · exact .inr q
  · exact .inl q
theorem u_ne (hu : X.A.units + 64 < cLine) : OpR X (compareOp .NotEq) (rNeU X.K) := opImp (op_ne.or (op_neD hu)) fun x y H Q q => by
  unfold rNeU at q
  split at q
  · exact .inr q
  · exact .inl q
theorem rEqU_int {K i j H Q} : rEqU K (.int i) (.int j) H Q = Q (.bl (decide (i = j))) H := by unfold rEqU; simp [isRef, scal]
theorem rNeU_int {K i j H Q} : rNeU K (.int i) (.int j) H Q = Q (.bl (!decide (i = j))) H := by unfold rNeU; simp [isRef, scal]
theorem rEqU_str {K i j H Q} : rEqU K (.str i) (.str j) H Q = Q (.bl (decide (i = j))) H := by unfold rEqU; simp [isRef, scal]
theorem rNeU_str {K i j H Q} : rNeU K (.str i) (.str j) H Q = Q (.bl (!decide (i = j))) H := by unfold rNeU; simp [isRef, scal]
theorem rEqU_bl {K i j H Q} : rEqU K (.bl i) (.bl j) H Q = Q (.bl (decide (i = j))) H := by unfold rEqU; simp [isRef, scal]
theorem rNeU_bl {K i j H Q} : rNeU K (.bl i) (.bl j) H Q = Q (.bl (!decide (i = j))) H := by unfold rNeU; simp [isRef, scal]
theorem rEqU_ref {K a y H Q} : rEqU K (.ref a) y H Q = rEqD K (.ref a) y H Q := rfl
theorem rNeU_ref {K a y H Q} : rNeU K (.ref a) y H Q = rNeD K (.ref a) y H Q := rfl
/-- is -/
def rIsU : R2 := fun x y H Q => match x, y with
  | x, .non => Q (.bl (decide (x = .non))) H
  | _, _ => False
def rIsNU : R2 := fun x y H Q => match x, y with
  | x, .non => Q (.bl (!decide (x = .non))) H
  | _, _ => False
theorem u_is : OpR X (compareOp .Is) rIsU := opImp op_isN fun x y H Q q => by
  cases y <;> first | exact q.elim | exact ⟨rfl, q⟩
theorem u_isN : OpR X (compareOp .IsNot) rIsNU := opImp op_notN fun x y H Q q => by
  cases y <;> first | exact q.elim | exact ⟨rfl, q⟩
/-- in -/
def inS (a b : Str) : Bool := !(Builtin.Str.occurrences b a 0 b.length 1).isEmpty
theorem inS_one (c : Nat) (z : Str) : inS ⟨#[c]⟩ z = decide (c ∈ z.cps.toList) := PySem.StrLaws.found_one z c
noncomputable def rInU (K : PySem.W.Frag) (neg : Bool) : R2 := fun x y H Q => match y with
  | .str b => (match x with
    | .str a => Q (.bl (if neg then !inS a b else inS a b)) H
    | _ => False)
  | .ref p => (match sqv K H p with
    | some xs => flatV x = true ∧ xs.all flatV = true ∧ Q (.bl (if neg then !inV x xs else inV x xs)) H
    | none => False)
  | _ => False
theorem u_in : OpR X (compareOp .In) (rInU X.K false) := opImp (op_in_str.or op_in_seq) fun x y H Q q => by
  unfold rInU at q
  split at q
  · split at q
    · exact .inl ⟨_, _, rfl, rfl, q⟩
    · exact q.elim
  · split at q
    · exact .inr ⟨_, _, rfl, sqv_sq ‹_›, q⟩
    · exact q.elim
  · exact q.elim
theorem u_nin : OpR X (compareOp .NotIn) (rInU X.K true) := opImp (op_notin_str.or op_notIn_seq) fun x y H Q q => by
  unfold rInU at q
  split at q
  · split at q
    · exact .inl ⟨_, _, rfl, rfl, q⟩
    · exact q.elim
  · split at q
    · exact .inr ⟨_, _, rfl, sqv_sq ‹_›, q⟩
    · exact q.elim
  · exact q.elim
theorem rInU_str {K neg a b H Q} : rInU K neg (.str a) (.str b) H Q = Q (.bl (if neg then !inS a b else inS a b)) H := rfl

/-! ### - and not -/
def mU (g : Int → V) : V → Hp → VK → Prop := fun x H Q => match x with
  | .int i => Q (g i) H
  | _ => False
theorem u_neg : UnR X (unaryOp .USub) (mU fun i => .int (-i)) := unImp un_neg fun x H Q q => by
  cases x <;> first | exact q.elim | exact ⟨_, rfl, q⟩

/-! ### items, slices -/
noncomputable def rIxU (K : PySem.W.Frag) : R2 := fun x y H Q => match x, y with
  | .str z, .int i => z.length ≤ sizeLine ∧ (match atI z.cps.toList i with
    | some c => Q (.str ⟨#[c]⟩) H
    | none => False)
  | .ref p, .int i => (match sqv K H p with
    | some xs => (match atI xs i with
      | some v => Q v H
      | none => False)
    | none => False)
  | _, _ => False
theorem u_ix : IxR X (rIxU X.K) := ixImp ix_seq fun x y H Q q => by
  unfold rIxU at q
  split at q
  · split at q
    · exact .inr (.inr ⟨_, _, _, rfl, rfl, q.1, ‹_›, q.2⟩)
    · exact q.2.elim
  · split at q
    · rename_i h
      split at q
      · rcases sqv_sq h with h | h
        · exact .inl ⟨_, _, _, _, rfl, rfl, h, ‹_›, q⟩
        · exact .inr (.inl ⟨_, _, _, _, rfl, rfl, h, ‹_›, q⟩)
      · exact q.elim
    · exact q.elim
  · exact q.elim
noncomputable def rSlU (K : PySem.W.Frag) : V → Option Int → Option Int → Hp → VK → Prop := fun x lo hi H Q => match x with
  | .str z => z.length ≤ sizeLine ∧ Q (.str (cutS z lo hi)) H
  | .ref p => (match lstv K H p with
    | some xs => Nw H (.lst (cutV xs lo hi)) Q
    | none => False)
  | _ => False
theorem slImp {r r' : V → Option Int → Option Int → Hp → VK → Prop} (h : SlR X r) (i : ∀ x lo hi H Q, r' x lo hi H Q → r x lo hi H Q) : SlR X r' := by
  intro pins s σ H x v lo hi
  intros
  apply h <;> first | assumption | (apply i; assumption)
theorem u_sl : SlR X (rSlU X.K) := slImp (sl_str.or sl_list) fun x lo hi H Q q => by
  unfold rSlU at q
  split at q
  · exact .inl ⟨_, rfl, q⟩
  · split at q
    · exact .inr ⟨_, _, rfl, lstv_sq ‹_›, q⟩
    · exact q.elim
  · exact q.elim
end

/-! ### built-in calls -/
section
variable {X : Cx}
noncomputable def rLenU (K : PySem.W.Frag) : List V → Hp → VK → Prop := fun xs H Q => match xs with
  | [.str z] => z.length ≤ sizeLine ∧ Q (.int z.length) H
  | [.byt z] => z.size ≤ sizeLine ∧ Q (.int z.size) H
  | [.ref p] => (match sqv K H p with
    | some xs => Q (.int xs.length) H
    | none => (match H p with
      | some (.dK kvs) => Q (.int kvs.length) H
      | _ => False))
  | _ => False
theorem c_len : CallR X (.builtin "len") (rLenU X.K) := callImp (call_len.or call_lenD) fun xs H Q q => by
  unfold rLenU at q
  split at q
  · exact .inl ⟨_, _, rfl, ⟨q.1, rfl⟩, q.2⟩
  · exact .inl ⟨_, _, rfl, ⟨q.1, rfl⟩, q.2⟩
  · split at q
    · rename_i h
      refine .inl ⟨_, _, rfl, ?_, q⟩
      rcases sqv_sq h with h | h
      · exact .inl ⟨_, h, rfl⟩
      · exact .inr ⟨_, h, rfl⟩
    · split at q
      · exact .inr ⟨_, _, rfl, ‹_›, q⟩
      · exact q.elim
  · exact q.elim
def rInt : List V → Hp → VK → Prop := fun xs H Q => match xs with
  | [.int i] => Q (.int i) H
  | [.bl k] => Q (.int (if k then 1 else 0)) H
  | [.str a] => (match PySem.intText? a with
    | some n => a.length ≤ 640 ∧ Q (.int n) H
    | none => False)
  | _ => False
theorem c_int : CallR X (.type "int") rInt := callImp (call_int1.or call_int_str) fun xs H Q q => by
  unfold rInt at q
  split at q
  · exact .inl (.inl ⟨_, rfl, q⟩)
  · exact .inl (.inr ⟨_, rfl, q⟩)
  · split at q
    · exact .inr ⟨_, _, rfl, ‹_›, q.1, q.2⟩
    · exact q.elim
  · exact q.elim
def rAbs : List V → Hp → VK → Prop := fun xs H Q => match xs with
  | [.int i] => Q (.int (if i < 0 then -i else i)) H
  | _ => False
theorem c_abs : CallR X (.builtin "abs") rAbs := callImp call_abs fun xs H Q q => by
  unfold rAbs at q
  split at q
  · exact ⟨_, rfl, q⟩
  · exact q.elim
def rMax2 : List V → Hp → VK → Prop := fun xs H Q => match xs with
  | [.int i, .int j] => Q (.int (if j > i then j else i)) H
  | _ => False
def rMin2 : List V → Hp → VK → Prop := fun xs H Q => match xs with
  | [.int i, .int j] => Q (.int (if j < i then j else i)) H
  | _ => False
theorem c_max2 (hc : X.calm = true) : CallR X (.builtin "max") rMax2 := callImp (call_max2 hc) fun xs H Q q => by
  unfold rMax2 at q
  split at q
  · exact ⟨_, _, rfl, q⟩
  · exact q.elim
theorem c_min2 (hc : X.calm = true) : CallR X (.builtin "min") rMin2 := callImp (call_min2 hc) fun xs H Q q => by
  unfold rMin2 at q
  split at q
  · exact ⟨_, _, rfl, q⟩
  · exact q.elim
noncomputable def rListOf (K : PySem.W.Frag) : List V → Hp → VK → Prop := fun xs H Q => match xs with
  | [.ref p] => (match sqv K H p with
    | some ys => Nw H (.lst ys) Q
    | none => (match H p with
      | some (.dK kvs) => Nw H (.lst (kvs.map fun kv => kV kv.1)) Q
      | _ => False))
  | _ => False
theorem c_list (hc : X.calm = true) : CallR X (.type "list") (rListOf X.K) := callImp (call_list_of.or (call_listD hc)) fun xs H Q q => by
  unfold rListOf at q
  split at q
  · split at q
    · exact .inl ⟨_, _, rfl, sqv_sq ‹_›, q⟩
    · split at q
      · exact .inr ⟨_, _, rfl, .inl ‹_›, q⟩
      · exact q.elim
  · exact q.elim
/-- a value's type by name -/
def tyN (H : Hp) : V → Option String
  | .non => some "NoneType"
  | .bl _ => some "bool"
  | .int _ => some "int"
  | .str _ => some "str"
  | .byt _ => some "bytes"
  | .ref p => (match H p with
    | some (.lst _) => some "list"
    | some (.frz _ (.lst _)) => some "list"
    | some (.tup _) => some "tuple"
    | some (.dK _) => some "dict"
    | some (.dT _) => some "dict"
    | _ => none)
  | _ => none
theorem tyN_x {K : PySem.W.Frag} {H : Hp} {x : V} {t : String} (h : tyN H x = some t) : TyX K H x (.type t) := by
  cases x with
  | non => cases h; exact .base .non
  | bl b => cases h; exact .base (.bl b)
  | int b => cases h; exact .base (.int b)
  | str b => cases h; exact .base (.str b)
  | byt b => cases h; exact .byt b
  | flt b => cases h
  | ty b => cases h
  | ref p =>
    unfold tyN at h
    simp only at h
    split at h
    · cases h; exact .base (.lst ‹_›)
    · cases h; exact .base (.frz ‹_›)
    · cases h; exact .base (.tup ‹_›)
    · cases h; exact .base (.dK ‹_›)
    · cases h; exact .base (.dT ‹_›)
    · cases h
def rIsiB : List V → Hp → VK → Prop := fun xs H Q => match xs with
  | [x, .ty T] => (match tyN H x with
    | some t => (match kitB t T with
      | some b => Q (.bl b) H
      | none => False)
    | none => False)
  | _ => False
theorem c_isi : CallR X (.builtin "isinstance") rIsiB := callImp call_isi fun xs H Q q => by
  unfold rIsiB at q
  split at q
  · split at q
    · split at q
      · exact ⟨_, _, _, _, _, rfl, .ty _, tyN_x ‹_›, kit_ty ‹_›, q⟩
      · exact q.elim
    · exact q.elim
  · exact q.elim
theorem kit_NoneType_bool : kitB "NoneType" "bool" = some false := by decide +kernel
theorem kit_NoneType_int : kitB "NoneType" "int" = some false := by decide +kernel
theorem kit_NoneType_str : kitB "NoneType" "str" = some false := by decide +kernel
theorem kit_NoneType_bytes : kitB "NoneType" "bytes" = some false := by decide +kernel
theorem kit_NoneType_list : kitB "NoneType" "list" = some false := by decide +kernel
theorem kit_NoneType_tuple : kitB "NoneType" "tuple" = some false := by decide +kernel
theorem kit_NoneType_dict : kitB "NoneType" "dict" = some false := by decide +kernel
theorem kit_bool_bool : kitB "bool" "bool" = some true := by decide +kernel
theorem kit_bool_int : kitB "bool" "int" = some true := by decide +kernel
theorem kit_bool_str : kitB "bool" "str" = some false := by decide +kernel
theorem kit_bool_bytes : kitB "bool" "bytes" = some false := by decide +kernel
theorem kit_bool_list : kitB "bool" "list" = some false := by decide +kernel
theorem kit_bool_tuple : kitB "bool" "tuple" = some false := by decide +kernel
theorem kit_bool_dict : kitB "bool" "dict" = some false := by decide +kernel
theorem kit_int_bool : kitB "int" "bool" = some false := by decide +kernel
theorem kit_int_int : kitB "int" "int" = some true := by decide +kernel
theorem kit_int_str : kitB "int" "str" = some false := by decide +kernel
theorem kit_int_bytes : kitB "int" "bytes" = some false := by decide +kernel
theorem kit_int_list : kitB "int" "list" = some false := by decide +kernel
theorem kit_int_tuple : kitB "int" "tuple" = some false := by decide +kernel
theorem kit_int_dict : kitB "int" "dict" = some false := by decide +kernel
theorem kit_str_bool : kitB "str" "bool" = some false := by decide +kernel
theorem kit_str_int : kitB "str" "int" = some false := by decide +kernel
theorem kit_str_str : kitB "str" "str" = some true := by decide +kernel
theorem kit_str_bytes : kitB "str" "bytes" = some false := by decide +kernel
theorem kit_str_list : kitB "str" "list" = some false := by decide +kernel
theorem kit_str_tuple : kitB "str" "tuple" = some false := by decide +kernel
theorem kit_str_dict : kitB "str" "dict" = some false := by decide +kernel
theorem kit_bytes_bool : kitB "bytes" "bool" = some false := by decide +kernel
theorem kit_bytes_int : kitB "bytes" "int" = some false := by decide +kernel
theorem kit_bytes_str : kitB "bytes" "str" = some false := by decide +kernel
theorem kit_bytes_bytes : kitB "bytes" "bytes" = some true := by decide +kernel
theorem kit_bytes_list : kitB "bytes" "list" = some false := by decide +kernel
theorem kit_bytes_tuple : kitB "bytes" "tuple" = some false := by decide +kernel
theorem kit_bytes_dict : kitB "bytes" "dict" = some false := by decide +kernel
theorem kit_list_bool : kitB "list" "bool" = some false := by decide +kernel
theorem kit_list_int : kitB "list" "int" = some false := by decide +kernel
theorem kit_list_str : kitB "list" "str" = some false := by decide +kernel
theorem kit_list_bytes : kitB "list" "bytes" = some false := by decide +kernel
theorem kit_list_list : kitB "list" "list" = some true := by decide +kernel
theorem kit_list_tuple : kitB "list" "tuple" = some false := by decide +kernel
theorem kit_list_dict : kitB "list" "dict" = some false := by decide +kernel
theorem kit_tuple_bool : kitB "tuple" "bool" = some false := by decide +kernel
theorem kit_tuple_int : kitB "tuple" "int" = some false := by decide +kernel
theorem kit_tuple_str : kitB "tuple" "str" = some false := by decide +kernel
theorem kit_tuple_bytes : kitB "tuple" "bytes" = some false := by decide +kernel
theorem kit_tuple_list : kitB "tuple" "list" = some false := by decide +kernel
theorem kit_tuple_tuple : kitB "tuple" "tuple" = some true := by decide +kernel
theorem kit_tuple_dict : kitB "tuple" "dict" = some false := by decide +kernel
theorem kit_dict_bool : kitB "dict" "bool" = some false := by decide +kernel
theorem kit_dict_int : kitB "dict" "int" = some false := by decide +kernel
theorem kit_dict_str : kitB "dict" "str" = some false := by decide +kernel
theorem kit_dict_bytes : kitB "dict" "bytes" = some false := by decide +kernel
theorem kit_dict_list : kitB "dict" "list" = some false := by decide +kernel
theorem kit_dict_tuple : kitB "dict" "tuple" = some false := by decide +kernel
theorem kit_dict_dict : kitB "dict" "dict" = some true := by decide +kernel
end

/-! ### tests -/
noncomputable def truV (K : PySem.W.Frag) (x : V) (H : Hp) (Q : Bool → Hp → Prop) : Prop := match x with
  | .non => Q false H
  | .bl b => Q b H
  | .int i => Q (i != 0) H
  | .str y => y.length ≤ sizeLine ∧ Q ((y.length : Int) != 0) H
  | .ref p => (match sqv K H p with
    | some xs => Q (!xs.isEmpty) H
    | none => (match H p with
      | some (.dK kvs) => Q (!kvs.isEmpty) H
      | _ => False))
  | _ => False
theorem truV_k {K : PySem.W.Frag} {x : V} {H : Hp} {Q : Bool → Hp → Prop} (q : truV K x H Q) : ∃ k, TruV K x H k ∧ Q k H := by
  unfold truV at q
  split at q
  · exact ⟨_, rfl, q⟩
  · exact ⟨_, rfl, q⟩
  · exact ⟨_, rfl, q⟩
  · exact ⟨_, ⟨q.1, rfl⟩, q.2⟩
  · split at q
    · rename_i h
      refine ⟨_, ?_, q⟩
      rcases sqv_sq h with h | h
      · exact .inl ⟨_, h, rfl⟩
      · exact .inr (.inl ⟨_, h, rfl⟩)
    · split at q
      · exact ⟨_, .inr (.inr ⟨_, ‹_›, rfl⟩), q⟩
      · exact q.elim
  · exact q.elim
def tTr (K : PySem.W.Frag) (ta : TE) : TT := fun σ H Q => ta σ H fun x H' => truV K x H' Q
section
variable {X : Cx} {a b : Expr} {ta tb : TE} {pos : Pos} {rest : List Expr}
theorem pt_tr (ha : PE X a ta) (he : ∀ whole, isTrue a X.env whole = (do let v ← whole; standAt a.pos; holding [v] (truthy v)) := by intro _; rfl) : PT X a (tTr X.K ta) := by
  refine ⟨fun pins s σ H Q I h => ?_⟩
  exact isTrue_plain (thn (ha.run pins s σ H _ I h) fun v s1 ⟨x, H1, I1, r1, q1⟩ => tru_ok pins s1 σ H1 x v Q I1 r1 (truV_k q1)) (he _)
/-- not, as a value -/
def tNotU (K : PySem.W.Frag) (ta : TE) : TE := fun σ H Q => ta σ H fun x H1 => truV K x H1 fun k H2 => Q (.bl (!k)) H2
/-- a comparison as a test -/
def tTe (t : TE) : TT := fun σ H Q => t σ H fun x H' => match x with
  | .bl k => Q k H'
  | _ => False
end

/-! ### readings closed upward -/
def clE (t : TE) : TE := fun σ H Q => ∃ Q0 : VK, t σ H Q0 ∧ ∀ v H', Q0 v H' → Q v H'
def clA (t : TA) : TA := fun σ H Q => ∃ Q0 : List V → Hp → Prop, t σ H Q0 ∧ ∀ v H', Q0 v H' → Q v H'
section
variable {X : Cx} {e : Expr} {es : List Expr} {t : TE} {ta : TA}
theorem peCl (h : PE X e t) : PE X e (clE t) := ⟨fun pins s σ H Q I ⟨Q0, q, m⟩ =>
  thn (h.run pins s σ H Q0 I q) fun _ _ ⟨v, H', I', r, q'⟩ => ⟨v, H', I', r, m _ _ q'⟩⟩
theorem paCl (h : PA X es ta) : PA X es (clA ta) := ⟨fun pos pins s σ H Q I ⟨Q0, q, m⟩ =>
  thn (h.run pos pins s σ H Q0 I q) fun _ _ ⟨v, H', I', r, q'⟩ => ⟨v, H', I', r, m _ _ q'⟩⟩
theorem peImp {t' : TE} (h : PE X e t) (i : ∀ σ H Q, t' σ H Q → t σ H Q) : PE X e t' := ⟨fun pins s σ H Q I q => h.run pins s σ H Q I (i _ _ _ q)⟩
end

/-! ### what is walked -/
noncomputable def iLst (K : PySem.W.Frag) (tl : TE) : TI := fun σ H R => tl σ H fun x H1 => match x with
  | .ref a => (match lstv K H1 a with
    | some _ => R (Itl K a) H1
    | none => False)
  | _ => False
noncomputable def iTp (K : PySem.W.Frag) (tl : TE) : TI := fun σ H R => tl σ H fun x H1 => match x with
  | .ref a => (match tupv K H1 a with
    | some _ => R (Itt K a) H1
    | none => False)
  | _ => False
def iSt (tl : TE) : TI := fun σ H R => tl σ H fun x H1 => match x with
  | .str z => R (Its z) H1
  | _ => False
section
variable {X : Cx} {tg l : Expr} {tl : TE}
theorem pi_lst (hl : PE X l tl) : PI X tg l (iLst X.K tl) := ⟨fun pins s σ H R I h => (pi_list (peCl hl)).run pins s σ H R I ⟨_, h, fun x H1 q => by
  cases x <;> first | exact q.elim | skip
  simp only at q
  split at q
  · exact ⟨_, rfl, ⟨_, lstv_sq ‹_›⟩, q⟩
  · exact q.elim⟩⟩
theorem pi_tp (hl : PE X l tl) : PI X tg l (iTp X.K tl) := ⟨fun pins s σ H R I h => (pi_tup (peCl hl)).run pins s σ H R I ⟨_, h, fun x H1 q => by
  cases x <;> first | exact q.elim | skip
  simp only at q
  split at q
  · exact ⟨_, rfl, ⟨_, tupv_sq ‹_›⟩, q⟩
  · exact q.elim⟩⟩
theorem pi_st (hl : PE X l tl) : PI X tg l (iSt tl) := ⟨fun pins s σ H R I h => (pi_str (peCl hl)).run pins s σ H R I ⟨_, h, fun x H1 q => by
  cases x <;> first | exact q.elim | skip
  exact ⟨_, rfl, q⟩⟩⟩
end

/-! ### methods of lists and texts -/
noncomputable def tML (K : PySem.W.Frag) (r : V → List V → Hp → VK → Prop) (to : TE) (t : TA) : TE := fun σ H Q => to σ H fun x H1 => match x with
  | .ref p => (match lstv K H1 p with
    | some _ => t σ H1 fun vs H2 => r (.ref p) vs H2 Q
    | none => False)
  | _ => False
def tMS (r : V → List V → Hp → VK → Prop) (to : TE) (t : TA) : TE := fun σ H Q => to σ H fun x H1 => match x with
  | .str z => t σ H1 fun vs H2 => r (.str z) vs H2 Q
  | _ => False
theorem tml_of {K : PySem.W.Frag} {r : V → List V → Hp → VK → Prop} {to : TE} {t : TA} (σ : L2.St) (H : Hp) (Q : VK) (h : tML K r to t σ H Q) : tBM K "list" r (clE to) (clA t) σ H Q := ⟨_, h, fun x H1 q => by
  cases x <;> first | exact q.elim | skip
  simp only at q
  split at q
  · exact ⟨.inl ⟨rfl, _, lstv_sq ‹_›⟩, _, q, fun _ _ z => z⟩
  · exact q.elim⟩
theorem tml0_of {K : PySem.W.Frag} {r : V → List V → Hp → VK → Prop} {to : TE} (σ : L2.St) (H : Hp) (Q : VK) (h : tML K r to tNil σ H Q) : tBM0 K "list" r (clE to) σ H Q := ⟨_, h, fun x H1 q => by
  cases x <;> first | exact q.elim | skip
  simp only at q
  split at q
  · exact ⟨.inl ⟨rfl, _, lstv_sq ‹_›⟩, q⟩
  · exact q.elim⟩
theorem tms_of {K : PySem.W.Frag} {r : V → List V → Hp → VK → Prop} {to : TE} {t : TA} (σ : L2.St) (H : Hp) (Q : VK) (h : tMS r to t σ H Q) : tBM K "str" r (clE to) (clA t) σ H Q := ⟨_, h, fun x H1 q => by
  cases x <;> first | exact q.elim | skip
  exact ⟨rfl, _, q, fun _ _ z => z⟩⟩
theorem tms0_of {K : PySem.W.Frag} {r : V → List V → Hp → VK → Prop} {to : TE} (σ : L2.St) (H : Hp) (Q : VK) (h : tMS r to tNil σ H Q) : tBM0 K "str" r (clE to) σ H Q := ⟨_, h, fun x H1 q => by
  cases x <;> first | exact q.elim | skip
  exact ⟨rfl, q⟩⟩
def rApp : V → List V → Hp → VK → Prop := fun x vs H Q => match x, vs with
  | .ref l, [y] => (match H l with
    | some (.lst xs) => xs.length < sizeLine ∧ Q .non (upd H l (.lst (xs ++ [y])))
    | _ => False)
  | _, _ => False
theorem m_append {X : Cx} : MtM X "list.append" rApp := fun pins s σ H x xs v us Q I rx rs h => mt_append pins s σ H x xs v us Q I rx rs (by
  unfold rApp at h
  split at h
  · split at h
    · exact ⟨_, _, _, rfl, rfl, ‹_›, h⟩
    · exact h.elim
  · exact h.elim)
section
variable {X : Cx} {o e : Expr} {es : List Expr} {to : TE} {t : TA} {apos pos : Pos}
theorem pe_bitlen (ho : PE X o to) (hbase : attributeBase o "bit_length" X.env (eval o X.env) = eval o X.env := by rfl) (hline : (apos.endLine == pos.line) = true := by rfl) :
    PE X (.Call (.Attribute o "bit_length" apos) [] [] pos) (tUn (mU fun i => .int (Builtin.Int.intBits i : Nat)) to) :=
  peImp (pe_bits (peCl ho) hbase hline) fun σ H Q q => ⟨_, q, fun x H1 q => by cases x <;> first | exact q.elim | exact ⟨_, rfl, q⟩⟩
variable {T id : String} {r : V → List V → Hp → VK → Prop} {name : Str}
theorem pe_ml (slot : Slot "list" name id) (hty : typeOf (.builtin id) = pure (.type "method_descriptor")) (hm : MtR X id r) (ho : PE X o to) (ha : PA X (e :: es) t)
    (hb : attributeBase o name X.env (eval o X.env) = eval o X.env := by rfl)
    (hf : ((backTo pos (starEach (e :: es) X.env)).all (fun x => !x.1) && (backToKw pos (keywordEach [] X.env)).all (fun x => x.1.isSome) && decide ((e :: es).length + ([] : List Keyword).length + (if ([] : List Keyword).isEmpty then 0 else 1) < 30)) = true := by rfl)
    (hl : (apos.endLine == pos.line) = true := by rfl) (hs : starEach (e :: es) X.env = (false, eval e X.env) :: starEach es X.env := by rfl) (hp : (backTo pos (starEach es X.env)).any (·.1) = false := by rfl) :
    PE X (.Call (.Attribute o name apos) (e :: es) [] pos) (tML X.K r to t) := peImp (pe_bm PySem.F.plainAttrs_list slot hty hm (peCl ho) (paCl ha) hb hf hl hs hp) tml_of
theorem pe_ml0 (slot : Slot "list" name id) (hty : typeOf (.builtin id) = pure (.type "method_descriptor")) (hm : MtR X id r) (ho : PE X o to)
    (hb : attributeBase o name X.env (eval o X.env) = eval o X.env := by rfl) (hl : (apos.endLine == pos.line) = true := by rfl) :
    PE X (.Call (.Attribute o name apos) [] [] pos) (tML X.K r to tNil) := peImp (pe_bm0 PySem.F.plainAttrs_list slot hty hm (peCl ho) hb hl) tml0_of
theorem pe_ms (pa : PlainAttrs "str") (slot : Slot "str" name id) (hty : typeOf (.builtin id) = pure (.type "method_descriptor")) (hm : MtR X id r) (ho : PE X o to) (ha : PA X (e :: es) t)
    (hb : attributeBase o name X.env (eval o X.env) = eval o X.env := by rfl)
    (hf : ((backTo pos (starEach (e :: es) X.env)).all (fun x => !x.1) && (backToKw pos (keywordEach [] X.env)).all (fun x => x.1.isSome) && decide ((e :: es).length + ([] : List Keyword).length + (if ([] : List Keyword).isEmpty then 0 else 1) < 30)) = true := by rfl)
    (hl : (apos.endLine == pos.line) = true := by rfl) (hs : starEach (e :: es) X.env = (false, eval e X.env) :: starEach es X.env := by rfl) (hp : (backTo pos (starEach es X.env)).any (·.1) = false := by rfl) :
    PE X (.Call (.Attribute o name apos) (e :: es) [] pos) (tMS r to t) := peImp (pe_bm pa slot hty hm (peCl ho) (paCl ha) hb hf hl hs hp) (tms_of (K := X.K))
theorem pe_ms0 (pa : PlainAttrs "str") (slot : Slot "str" name id) (hty : typeOf (.builtin id) = pure (.type "method_descriptor")) (hm : MtR X id r) (ho : PE X o to)
    (hb : attributeBase o name X.env (eval o X.env) = eval o X.env := by rfl) (hl : (apos.endLine == pos.line) = true := by rfl) :
    PE X (.Call (.Attribute o name apos) [] [] pos) (tMS r to tNil) := peImp (pe_bm0 pa slot hty hm (peCl ho) hb hl) (tms0_of (K := X.K))
theorem pe_append (ho : PE X o to) (ha : PA X (e :: es) t)
    (hb : attributeBase o "append" X.env (eval o X.env) = eval o X.env := by rfl)
    (hf : ((backTo pos (starEach (e :: es) X.env)).all (fun x => !x.1) && (backToKw pos (keywordEach [] X.env)).all (fun x => x.1.isSome) && decide ((e :: es).length + ([] : List Keyword).length + (if ([] : List Keyword).isEmpty then 0 else 1) < 30)) = true := by rfl)
    (hl : (apos.endLine == pos.line) = true := by rfl) (hs : starEach (e :: es) X.env = (false, eval e X.env) :: starEach es X.env := by rfl) (hp : (backTo pos (starEach es X.env)).any (·.1) = false := by rfl) :
    PE X (.Call (.Attribute o "append" apos) (e :: es) [] pos) (tML X.K rApp to t) := pe_ml PySem.F.slot_list_append PySem.F.type_list_append m_append ho ha hb hf hl hs hp
end

/-! ### defs of the text -/
/-- the def x keeps its promise -/
structure FnE (P : Program) (w : World) (K : PySem.W.Frag) (mg : Str → Option Value) (base : Heap) (CX : CXT) (x : Str) (k : Nat) (ps : List Str) (sp : Sp) : Prop where
  ex : ∃ f fd, mg x = some (.ref f) ∧ PySem.W.keepIn K (.ref f) = true ∧ Binds K fd ps [] ∧ FnOk P w K mg base CX k f fd ps sp
/-- a module's constant -/
def Cst (mg : Str → Option Value) (x : Str) (v : V) : Prop := ∃ u, mg x = some u ∧ RelV v u
section
variable {X : Cx} {CX : CXT} {k : Nat} {x : Str} {ps : List Str} {sp : Sp} {E : XK} {p pos : Pos} {e : Expr} {es : List Expr} {t : TA}
theorem pe_fn (F : FnE X.prog X.w X.K X.mg X.base CX x k ps sp) (hr : Room k X.A) (hg : Gl X x) (hx : Passes CX X E) (ha : PA X (e :: es) t)
    (hdb : (x == ("__debug__" : Str)) = false := by decide) (he : starEach (e :: es) X.env = (false, eval e X.env) :: starEach es X.env := by rfl) (hp : (backTo pos (starEach es X.env)).any (·.1) = false := by rfl) :
    PE X (.Call (.Name x p) (e :: es) [] pos) (tCall sp [] E t) := by
  obtain ⟨f, fd, h1, h2, h3, h4⟩ := F.ex
  exact pe_call h4 hr hg h1 h2 h3 .nil hx ha hdb he hp
theorem pe_fn0 (F : FnE X.prog X.w X.K X.mg X.base CX x k ps sp) (hr : Room k X.A) (hg : Gl X x) (hx : Passes CX X E) (hdb : (x == ("__debug__" : Str)) = false := by decide) :
    PE X (.Call (.Name x p) [] [] pos) (tCall sp [] E tNil) := by
  obtain ⟨f, fd, h1, h2, h3, h4⟩ := F.ex
  exact pe_call0 h4 hr hg h1 h2 h3 .nil hx hdb
theorem pe_cst {v : V} (h : Cst X.mg x v) (hg : Gl X x) (hd : (x == ("__debug__" : Str)) = false := by decide) : PE X (.Name x p) (tC v) := by
  obtain ⟨u, h1, h2⟩ := h
  exact pe_glob hg h1 h2 hd
end

/-! ### loops -/
section
variable {K : PySem.W.Frag} {a : Addr} {xs : List V} {g : TG} {tb : TS} {D : Ends} {σ : L2.St} {H : Hp}
/-- what a turn over a known row is to do -/
def Goes (J : It) (g : TG) (tb : TS) (D : Ends) (σ : L2.St) (H : Hp) : Prop := ∃ W : Nat → Nat → L2.St → Hp → Prop, (∃ m, W 0 m σ H) ∧ ∀ i m σ H, W i m σ H →
  (J.stop i H ∧ D.nx σ H) ∨ (J.go i H ∧ ∃ N : L2.St → Hp → Prop, (∀ σ' H', N σ' H' → ∃ m', m' < m ∧ W (i + 1) m' σ' H') ∧ ∀ x H', J.yld i H x H' → g x σ H' fun σ2 H2 => tb { D with nx := N, ct := N, bk := D.nx } σ2 H2)
def tForU (wi : TI) (g : TG) (tb : TS) : TS := fun D σ H => wi σ H fun J H1 => Goes J g tb D σ H1
theorem goesL (Pv : Nat → L2.St → Hp → Prop) (h0 : Pv 0 σ H) (hl : ∀ i σ H, i ≤ xs.length → Pv i σ H → lstv K H a = some xs)
    (hs : ∀ i x σ H, xs[i]? = some x → Pv i σ H → g x σ H fun σ2 H2 => tb { D with nx := Pv (i + 1), ct := Pv (i + 1), bk := D.nx } σ2 H2) (hd : ∀ σ H, Pv xs.length σ H → D.nx σ H) : Goes (Itl K a) g tb D σ H :=
  for_list (K := K) (a := a) (xs := xs) Pv h0 (fun i σ H hi p => lstv_sq (hl i σ H hi p)) hs hd
theorem goesT (Pv : Nat → L2.St → Hp → Prop) (h0 : Pv 0 σ H) (hl : ∀ i σ H, i ≤ xs.length → Pv i σ H → tupv K H a = some xs)
    (hs : ∀ i x σ H, xs[i]? = some x → Pv i σ H → g x σ H fun σ2 H2 => tb { D with nx := Pv (i + 1), ct := Pv (i + 1), bk := D.nx } σ2 H2) (hd : ∀ σ H, Pv xs.length σ H → D.nx σ H) : Goes (Itt K a) g tb D σ H :=
  for_tup (K := K) (a := a) (xs := xs) Pv h0 (fun i σ H hi p => tupv_sq (hl i σ H hi p)) hs hd
theorem goesR {lo : Int} {n : Nat} (Pv : Nat → L2.St → Hp → Prop) (h0 : Pv 0 σ H)
    (hs : ∀ i σ H, i < n → Pv i σ H → g (.int (lo + i)) σ H fun σ2 H2 => tb { D with nx := Pv (i + 1), ct := Pv (i + 1), bk := D.nx } σ2 H2) (hd : ∀ σ H, Pv n σ H → D.nx σ H) : Goes (Itr lo n) g tb D σ H :=
  for_range (lo := lo) (n := n) Pv h0 hs hd
end

/-! ### built-in names -/
theorem bt_len : bootBuiltins "len" = some (.builtin "len") := by decide +kernel
theorem bt_abs : bootBuiltins "abs" = some (.builtin "abs") := by decide +kernel
theorem bt_max : bootBuiltins "max" = some (.builtin "max") := by decide +kernel
theorem bt_min : bootBuiltins "min" = some (.builtin "min") := by decide +kernel
theorem bt_isinstance : bootBuiltins "isinstance" = some (.builtin "isinstance") := by decide +kernel
theorem bt_all : bootBuiltins "all" = some (.builtin "all") := by decide +kernel
theorem bt_any : bootBuiltins "any" = some (.builtin "any") := by decide +kernel
theorem bt_sorted : bootBuiltins "sorted" = some (.builtin "sorted") := by decide +kernel
theorem bt_sum : bootBuiltins "sum" = some (.builtin "sum") := by decide +kernel
theorem bt_ord : bootBuiltins "ord" = some (.builtin "ord") := by decide +kernel
theorem bt_chr : bootBuiltins "chr" = some (.builtin "chr") := by decide +kernel
theorem bt_repr : bootBuiltins "repr" = some (.builtin "repr") := by decide +kernel
theorem bt_divmod : bootBuiltins "divmod" = some (.builtin "divmod") := by decide +kernel
theorem bt_int : bootBuiltins "int" = some (.type "int") := by decide +kernel
theorem bt_bool : bootBuiltins "bool" = some (.type "bool") := by decide +kernel
theorem bt_str : bootBuiltins "str" = some (.type "str") := by decide +kernel
theorem bt_list : bootBuiltins "list" = some (.type "list") := by decide +kernel
theorem bt_tuple : bootBuiltins "tuple" = some (.type "tuple") := by decide +kernel
theorem bt_dict : bootBuiltins "dict" = some (.type "dict") := by decide +kernel
theorem bt_bytes : bootBuiltins "bytes" = some (.type "bytes") := by decide +kernel
theorem bt_set : bootBuiltins "set" = some (.type "set") := by decide +kernel
theorem bt_range : bootBuiltins "range" = some (.type "range") := by decide +kernel
theorem bt_enumerate : bootBuiltins "enumerate" = some (.type "enumerate") := by decide +kernel
theorem bt_zip : bootBuiltins "zip" = some (.type "zip") := by decide +kernel
theorem bt_reversed : bootBuiltins "reversed" = some (.type "reversed") := by decide +kernel
theorem bt_type : bootBuiltins "type" = some (.type "type") := by decide +kernel

/-! ### list comprehensions -/
section
/-- the block over a known row -/
def LcGo (J : It) (g : TG) (tt : TT) (te : TE) (vs : List Nat) (σ : L2.St) (H1 : Hp) (Q : VK) : Prop := ∀ D, H1 D = none → ∃ W : Nat → Nat → Hp → Prop, (∃ m, W 0 m (upd H1 D (.lst []))) ∧ ∀ i m H, W i m H →
  (J.stop i H ∧ Q (.ref D) H) ∨ (J.go i H ∧ ∃ Nx : Hp → Prop, (∀ H', Nx H' → ∃ m', m' < m ∧ W (i + 1) m' H') ∧ ∀ x H', J.yld i H x H' → g x (wipe σ vs) H' fun σ2 H2 => wipe σ2 vs = wipe σ vs ∧ tt σ2 H2 fun b H3 =>
    if b = true then te σ2 H3 fun y H4 => ∃ acc, H4 D = some (.lst acc) ∧ acc.length < sizeLine ∧ Nx (upd H4 D (.lst (acc ++ [y]))) else Nx H3)
def tLcU (wi : TI) (g : TG) (tt : TT) (te : TE) (vs : List Nat) : TE := fun σ H Q => wi σ H fun J H1 => LcGo J g tt te vs σ H1 Q
/-- a turn's shape -/
abbrev LTurn (g : TG) (tt : TT) (te : TE) (vs : List Nat) (σ : L2.St) (x : V) (H : Hp) (Qy : VK) (Qn : Hp → Prop) : Prop :=
  g x (wipe σ vs) H fun σ2 H2 => wipe σ2 vs = wipe σ vs ∧ tt σ2 H2 fun b H3 => if b = true then te σ2 H3 Qy else Qn H3
theorem filterMap_snoc {α β : Type} (f : α → Option β) (l : List α) (x : α) : (l ++ [x]).filterMap f = l.filterMap f ++ (match f x with | some y => [y] | none => []) := by
  rw [List.filterMap_append]
  cases h : f x <;> simp [h]
theorem take_snoc {α : Type} {l : List α} {i : Nat} {x : α} (h : l[i]? = some x) : l.take (i + 1) = l.take i ++ [x] := by
  rw [List.take_add_one, h]; rfl
theorem filterMap_len {α β : Type} (f : α → Option β) (l : List α) (i : Nat) (h : i < l.length) : ((l.take i).filterMap f).length < l.length := by
  refine Nat.lt_of_le_of_lt (List.length_filterMap_le _ _) ?_
  rw [List.length_take]; omega
variable {K : PySem.W.Frag} {a : Addr} {xs : List V} {g : TG} {tt : TT} {te : TE} {vs : List Nat} {σ : L2.St} {H1 : Hp} {Q : VK}
/-- each item gives a value of its own, or is passed over -/
theorem lcL (F : V → Option V) (hx : ∀ H', Same H1 H' → lstv K H' a = some xs) (hz : xs.length ≤ sizeLine)
    (step : ∀ x ∈ xs, ∀ H', Same H1 H' → ∀ (Qy : VK) (Qn : Hp → Prop), (∀ y, F x = some y → ∀ H'', Same H' H'' → Qy y H'') → (F x = none → ∀ H'', Same H' H'' → Qn H'') → LTurn g tt te vs σ x H' Qy Qn)
    (hq : ∀ p H', H1 p = none → Same H1 H' → H' p = some (.lst (xs.filterMap F)) → Q (.ref p) H') : LcGo (Itl K a) g tt te vs σ H1 Q := by
  intro D hD
  refine lc_list (K := K) (a := a) (xs := xs) (fun i H => Same H1 H ∧ H D = some (.lst ((xs.take i).filterMap F))) ⟨Same.new hD, by rw [upd_same]; rfl⟩ (fun i H _ h => lstv_sq (hx H h.1)) ?_ (fun H h => ?_)
  · rintro i x H hi ⟨h1, h2⟩
    have hlt : i < xs.length := (List.getElem?_eq_some_iff.mp hi).1
    refine step x (List.mem_of_getElem? hi) H h1 _ _ (fun y hy H2 s2 => ?_) (fun hy H2 s2 => ?_)
    · refine ⟨_, s2 _ _ h2, Nat.lt_of_lt_of_le (filterMap_len F xs i hlt) hz, fun b o hb => ?_, ?_⟩
      · rw [upd_ne (ne_of_none hb hD)]
        exact s2 _ _ (h1 _ _ hb)
      · rw [upd_same, take_snoc hi, filterMap_snoc, hy]
    · refine ⟨h1.trans s2, ?_⟩
      rw [take_snoc hi, filterMap_snoc, hy, s2 _ _ h2]
      simp
  · rw [List.take_length] at h
    exact hq D H hD h.1 h.2
/-- over a range -/
theorem lcR {lo : Int} {n : Nat} (F : Int → Option V) (hz : n ≤ sizeLine)
    (step : ∀ j : Nat, j < n → ∀ H', Same H1 H' → ∀ (Qy : VK) (Qn : Hp → Prop), (∀ y, F (lo + j) = some y → ∀ H'', Same H' H'' → Qy y H'') → (F (lo + j) = none → ∀ H'', Same H' H'' → Qn H'') → LTurn g tt te vs σ (.int (lo + j)) H' Qy Qn)
    (hq : ∀ p H', H1 p = none → Same H1 H' → H' p = some (.lst ((List.range n).filterMap fun j => F (lo + (j : Nat)))) → Q (.ref p) H') : LcGo (Itr lo n) g tt te vs σ H1 Q := by
  intro D hD
  refine lc_range (lo := lo) (n := n) (fun i H => Same H1 H ∧ H D = some (.lst ((List.range i).filterMap fun j => F (lo + (j : Nat))))) ⟨Same.new hD, by rw [upd_same]; rfl⟩ ?_ (fun H h => hq D H hD h.1 h.2)
  rintro i H hi ⟨h1, h2⟩
  have hl : ((List.range i).filterMap fun j => F (lo + (j : Nat))).length < sizeLine := by
    refine Nat.lt_of_le_of_lt (List.length_filterMap_le _ _) ?_
    rw [List.length_range]; omega
  refine step i hi H h1 _ _ (fun y hy H2 s2 => ?_) (fun hy H2 s2 => ?_)
  · refine ⟨_, s2 _ _ h2, hl, fun b o hb => ?_, ?_⟩
    · rw [upd_ne (ne_of_none hb hD)]
      exact s2 _ _ (h1 _ _ hb)
    · rw [upd_same, List.range_succ, filterMap_snoc, hy]
  · refine ⟨h1.trans s2, ?_⟩
    rw [List.range_succ, filterMap_snoc, hy, s2 _ _ h2]
    simp
end
section
variable {X : Cx} {a : Expr} {ta : TE} {pos : Pos}
theorem pe_notU (ha : PE X a ta) : PE X (.UnaryOp .Not a pos) (tNotU X.K ta) := peImp (pe_notT (peCl ha)) fun σ H Q q => by
  exact ⟨_, q, fun v H' q => truV_k q⟩
end

/-! ### equations -/
section
variable {i : Nat} {v : V} {o : Option V} {l : List (Option V)} {H : Hp} {Q : VK} {K : PySem.W.Frag}
theorem tv0 : tVar 0 (some v :: l) H Q = Q v H := by simp [tVar]
theorem tvs : tVar (i + 1) (o :: l) H Q = tVar i l H Q := by simp [tVar]
theorem tAug_e {te : TE} {ti : TIp} {D : Ends} {σ : L2.St} : tAug i te ti D σ H = tVar i σ H (fun x H1 => te σ H1 fun y H2 => ti x y H2 fun z H3 => D.nx (σ.set i (some z)) H3) := rfl
theorem tBool {b : Bool} {Q : Bool → Hp → Prop} : (∃ k, V.bl b = V.bl k ∧ Q k H) = Q b H := by simp
theorem exBl {b : Bool} {P : Bool → Prop} : (∃ k, V.bl b = V.bl k ∧ P k) = P b := by simp
theorem truV_bl {b : Bool} {Q : Bool → Hp → Prop} : truV K (.bl b) H Q = Q b H := rfl
theorem truV_int {b : Int} {Q : Bool → Hp → Prop} : truV K (.int b) H Q = Q (b != 0) H := rfl
theorem truV_non {Q : Bool → Hp → Prop} : truV K .non H Q = Q false H := rfl
theorem truV_lst {p : Addr} {xs : List V} {Q : Bool → Hp → Prop} (h : lstv K H p = some xs) : truV K (.ref p) H Q = Q (!xs.isEmpty) H := by
  unfold truV; simp only [sqv_l h]
theorem rInt_int {j : Int} : rInt [.int j] H Q = Q (.int j) H := rfl
theorem rAbs_int {j : Int} : rAbs [.int j] H Q = Q (.int (if j < 0 then -j else j)) H := rfl
theorem rLt_int {i j : Int} : rLtU (.int i) (.int j) H Q = Q (.bl (decide (i < j))) H := rfl
theorem rLe_int {i j : Int} : rLeU (.int i) (.int j) H Q = Q (.bl (decide (i ≤ j))) H := rfl
theorem rGt_int {i j : Int} : rGtU (.int i) (.int j) H Q = Q (.bl (decide (j < i))) H := rfl
theorem rGe_int {i j : Int} : rGeU (.int i) (.int j) H Q = Q (.bl (decide (j ≤ i))) H := rfl
theorem rMul_int {i j : Int} : rMulU (.int i) (.int j) H Q = (CM i j ∧ Q (.int (i * j)) H) := rfl
theorem rIadd_int {i j : Int} : rIaddU (.int i) (.int j) H Q = Q (.int (i + j)) H := rfl
theorem rIadd_str {i j : Str} : rIaddU (.str i) (.str j) H Q = (i.length + j.length ≤ sizeLine ∧ Q (.str (i ++ j)) H) := rfl
theorem mU_int {g : Int → V} {j : Int} : mU g (.int j) H Q = Q (g j) H := rfl
theorem rMax2_int {i j : Int} : rMax2 [.int i, .int j] H Q = Q (.int (if j > i then j else i)) H := rfl
theorem rMin2_int {i j : Int} : rMin2 [.int i, .int j] H Q = Q (.int (if j < i then j else i)) H := rfl
theorem rIsi_int {T : String} {b : Bool} {j : Int} (h : kitB "int" T = some b) : rIsiB [.int j, .ty T] H Q = Q (.bl b) H := by unfold rIsiB; simp only [tyN, h]
theorem rIsi_bl {T : String} {b : Bool} {j : Bool} (h : kitB "bool" T = some b) : rIsiB [.bl j, .ty T] H Q = Q (.bl b) H := by unfold rIsiB; simp only [tyN, h]
theorem rIsi_str {T : String} {b : Bool} {j : Str} (h : kitB "str" T = some b) : rIsiB [.str j, .ty T] H Q = Q (.bl b) H := by unfold rIsiB; simp only [tyN, h]
theorem rIsi_non {T : String} {b : Bool} (h : kitB "NoneType" T = some b) : rIsiB [.non, .ty T] H Q = Q (.bl b) H := by unfold rIsiB; simp only [tyN, h]
theorem rIsi_lst {T : String} {b : Bool} {p : Addr} {xs : List V} (hp : H p = some (.lst xs)) (h : kitB "list" T = some b) : rIsiB [.ref p, .ty T] H Q = Q (.bl b) H := by unfold rIsiB; simp only [tyN, hp, h]
theorem rIsi_tup {T : String} {b : Bool} {p : Addr} {xs : List V} (hp : H p = some (.tup xs)) (h : kitB "tuple" T = some b) : rIsiB [.ref p, .ty T] H Q = Q (.bl b) H := by unfold rIsiB; simp only [tyN, hp, h]
theorem rLen_lst {p : Addr} {xs : List V} (h : lstv K H p = some xs) : rLenU K [.ref p] H Q = Q (.int xs.length) H := by unfold rLenU; simp only [sqv_l h]
theorem rLen_tup {p : Addr} {xs : List V} (h : H p = some (.tup xs)) : rLenU K [.ref p] H Q = Q (.int xs.length) H := by unfold rLenU; simp only [sqv_t h]
theorem rLen_str {z : Str} : rLenU K [.str z] H Q = (z.length ≤ sizeLine ∧ Q (.int z.length) H) := rfl
theorem rListOf_lst {p : Addr} {xs : List V} (h : lstv K H p = some xs) : rListOf K [.ref p] H Q = Nw H (.lst xs) Q := by unfold rListOf; simp only [sqv_l h]
theorem rIx_lst {p : Addr} {xs : List V} {j : Int} (h : lstv K H p = some xs) : rIxU K (.ref p) (.int j) H Q = (match atI xs j with | some v => Q v H | none => False) := by unfold rIxU; simp only [sqv_l h]
theorem rIx_tup {p : Addr} {xs : List V} {j : Int} (h : H p = some (.tup xs)) : rIxU K (.ref p) (.int j) H Q = (match atI xs j with | some v => Q v H | none => False) := by unfold rIxU; simp only [sqv_t h]
theorem rIx_str {z : Str} {j : Int} : rIxU K (.str z) (.int j) H Q = (z.length ≤ sizeLine ∧ (match atI z.cps.toList j with | some c => Q (.str ⟨#[c]⟩) H | none => False)) := rfl
theorem rSl_lst {p : Addr} {xs : List V} {lo hi : Option Int} (h : lstv K H p = some xs) : rSlU K (.ref p) lo hi H Q = Nw H (.lst (cutV xs lo hi)) Q := by unfold rSlU; simp only [h]
theorem rSl_str {z : Str} {lo hi : Option Int} : rSlU K (.str z) lo hi H Q = (z.length ≤ sizeLine ∧ Q (.str (cutS z lo hi)) H) := rfl
theorem rApp_lst {p : Addr} {xs : List V} {y : V} (h : H p = some (.lst xs)) : rApp (.ref p) [y] H Q = (xs.length < sizeLine ∧ Q .non (upd H p (.lst (xs ++ [y])))) := by unfold rApp; simp only [h]
theorem exInt {n : Int} {P : Int → Prop} : (∃ j, [V.int n] = [V.int j] ∧ P j) = P n := by simp
theorem exInt2 {m n : Int} {P : Int → Int → Prop} : (∃ i j, [V.int m, V.int n] = [V.int i, V.int j] ∧ P i j) = P m n := propext ⟨fun ⟨_, _, h, p⟩ => by cases h; exact p, fun p => ⟨_, _, rfl, p⟩⟩
theorem tPart_e {t : TE} {σ : L2.St} {Q : Option Int → Hp → Prop} : tPart t σ H Q = t σ H fun x H1 => ∃ i, x = .int i ∧ Q (some i) H1 := rfl
theorem exIntV {n : Int} {P : Int → Prop} : (∃ j, V.int n = V.int j ∧ P j) = P n := by simp
theorem lst_nil {H : Hp} {Q : VK} : tLst tNil ([] : L2.St) H Q = (0 ≤ sizeLine ∧ Nw H (.lst []) Q) := rfl
theorem tLst_e {t : TA} {σ : L2.St} : tLst t σ H Q = t σ H fun xs H1 => xs.length ≤ sizeLine ∧ Nw H1 (.lst xs) Q := rfl
theorem tTup_e {t : TA} {σ : L2.St} : tTup t σ H Q = t σ H fun xs H1 => xs.length ≤ sizeLine ∧ Nw H1 (.tup xs) Q := rfl
end
section
variable {K : PySem.W.Frag} {H : Hp} {Q : VK} {p : Addr}
theorem rSub_int {i j : Int} : rSubI (.int i) (.int j) H Q = Q (.int (i - j)) H := rfl
theorem rFdiv_int {i j : Int} : rFdiv (.int i) (.int j) H Q = (CD i j ∧ Q (.int (i / j)) H) := rfl
theorem rMod_int {i j : Int} : rMod (.int i) (.int j) H Q = (0 < j ∧ Q (.int (i % j)) H) := rfl
theorem rShl_int {i j : Int} : rShl (.int i) (.int j) H Q = (CS i j ∧ Q (.int (i * 2 ^ j.toNat)) H) := rfl
theorem rShr_int {i j : Int} : rShr (.int i) (.int j) H Q = (0 ≤ j ∧ Q (.int (i / 2 ^ j.toNat)) H) := rfl
theorem rXor_int {i j : Int} : rXor (.int i) (.int j) H Q = Q (.int (Builtin.bitXor i j)) H := rfl
theorem rAndB_int {i j : Int} : rAndB (.int i) (.int j) H Q = Q (.int (Builtin.bitAnd i j)) H := rfl
theorem rOrB_int {i j : Int} : rOrB (.int i) (.int j) H Q = Q (.int (Builtin.bitOr i j)) H := rfl
theorem rPow_int {i j : Int} : rPow (.int i) (.int j) H Q = (CPow i j ∧ Q (.int (i ^ j.toNat)) H) := rfl
theorem sqv_e : sqv K H p = (match lstv K H p with | some xs => some xs | none => tupv K H p) := rfl
theorem rLenU_ref : rLenU K [.ref p] H Q = (match sqv K H p with | some xs => Q (.int xs.length) H | none => (match H p with | some (.dK kvs) => Q (.int kvs.length) H | _ => False)) := rfl
theorem rListOf_ref : rListOf K [.ref p] H Q = (match sqv K H p with | some ys => Nw H (.lst ys) Q | none => (match H p with | some (.dK kvs) => Nw H (.lst (kvs.map fun kv => kV kv.1)) Q | _ => False)) := rfl
theorem rIxU_ref {j : Int} : rIxU K (.ref p) (.int j) H Q = (match sqv K H p with | some xs => (match atI xs j with | some v => Q v H | none => False) | none => False) := rfl
theorem rSlU_ref {lo hi : Option Int} : rSlU K (.ref p) lo hi H Q = (match lstv K H p with | some xs => Nw H (.lst (cutV xs lo hi)) Q | none => False) := rfl
theorem rApp_ref {y : V} : rApp (.ref p) [y] H Q = (match H p with | some (.lst xs) => xs.length < sizeLine ∧ Q .non (upd H p (.lst (xs ++ [y]))) | _ => False) := rfl
theorem rAddU_ref {b : Addr} : rAddU (.ref p) (.ref b) H Q = (match H p, H b with
    | some (.lst xs), some (.lst ys) => xs.length + ys.length ≤ sizeLine ∧ Nw H (.lst (xs ++ ys)) Q
    | some (.tup xs), some (.tup ys) => xs ≠ [] ∧ xs.length + ys.length ≤ sizeLine ∧ (ys = [] → Q (.ref p) H) ∧ (ys ≠ [] → Nw H (.tup (xs ++ ys)) Q)
    | _, _ => False) := rfl
theorem truV_ref {Q : Bool → Hp → Prop} : truV K (.ref p) H Q = (match sqv K H p with | some xs => Q (!xs.isEmpty) H | none => (match H p with | some (.dK kvs) => Q (!kvs.isEmpty) H | _ => False)) := rfl
theorem rInU_ref {neg : Bool} {x : V} : rInU K neg x (.ref p) H Q = (match sqv K H p with | some xs => flatV x = true ∧ xs.all flatV = true ∧ Q (.bl (if neg then !inV x xs else inV x xs)) H | none => False) := by cases x <;> rfl
theorem rMulU_ref {k : Int} : rMulU (.ref p) (.int k) H Q = (match H p with
    | some (.lst xs) => -(2 ^ 63) ≤ k ∧ k < 2 ^ 63 ∧ xs.length * k.toNat ≤ sizeLine ∧ Nw H (.lst (List.replicate k.toNat xs).flatten) Q
    | _ => False) := rfl
theorem rIsi_ref {T : String} : rIsiB [.ref p, .ty T] H Q = (match tyN H (.ref p) with | some t => (match kitB t T with | some b => Q (.bl b) H | none => False) | none => False) := rfl
end
theorem lstv_same {K : PySem.W.Frag} {H H' : Hp} {p : Addr} {xs : List V} (s : Same H H') (h : H p = some (.lst xs)) : lstv K H' p = some xs := lstv_of (s _ _ h)
theorem sz (n : Nat) (h : n ≤ 10000000) : n ≤ sizeLine := by rw [sizeLine_eq]; omega
theorem szl (n : Nat) (h : n ≤ 10000000) : n < sizeLine := by rw [sizeLine_eq]; omega
/-- lists to be read stay where H' grows; K's own are apart from what is tracked -/
def Apart (K : PySem.W.Frag) (H : Hp) : Prop := ∀ b o, K.lookup b = some o → H b = none
theorem klst_uniq {K : PySem.W.Frag} {p : Addr} {xs : List V} (h : SqL K (fun _ => none) p xs) : klst K p = some xs := by
  unfold klst
  have he : ∃ ys, SqL K (fun _ => none) p ys := ⟨xs, h⟩
  rw [dif_pos he]
  have q := Classical.choose_spec he
  generalize Classical.choose he = ys at q
  rcases h with (h | ⟨_, h⟩) | ⟨o, its, n, h1, _, _, h4, _, h6⟩
  · cases h
  · cases h
  · rcases q with (q | ⟨_, q⟩) | ⟨o', its', n', q1, _, _, q4, _, q6⟩
    · cases q
    · cases q
    · rw [h1] at q1; cases q1
      rw [h4] at q4; cases q4
      rw [Vals.inj q6 h6]
theorem lstv_of_sq {K : PySem.W.Frag} {H : Hp} {p : Addr} {xs : List V} (ap : Apart K H) (h : SqL K H p xs) : lstv K H p = some xs := by
  rcases h with (h | ⟨_, h⟩) | ⟨o, its, n, h1, h2⟩
  · exact lstv_of h
  · exact lstv_frz h
  · unfold lstv
    rw [ap _ _ h1]
    exact klst_uniq (.inr ⟨o, its, n, h1, h2⟩)
theorem fnApart {P : Program} {w : World} {K : PySem.W.Frag} {mg : Str → Option Value} {base : Heap} {CX : CXT} {k : Nat} {f : Addr} {fd : FuncData} {ps : List Str} {sp sp' : Sp} (F : FnOk P w K mg base CX k f fd ps sp)
    (hl : ∀ vs H Q E, sp' vs H Q E → vs.length = ps.length) (h : ∀ vs H Q E, Apart K H → sp' vs H Q E → sp vs H Q E) : FnOk P w K mg base CX k f fd ps sp' :=
  ⟨hl, fun A outer s H args us vs Q E hr he hb hv hs => F.run A outer s H args us vs Q E hr he hb hv (h _ _ _ _ (fun b o e => (he.bs b o (he.mod.kin b o e)).2) hs)⟩

/-! ### lists of ints compared -/
theorem dp_ints {K : PySem.W.Frag} {H : Hp} : ∀ ns : List Int, DpAll K H (ns.map V.int) (ns.map PyData.int)
  | [] => .nil
  | n :: ns => .cons (.int n) (dp_ints ns)
theorem eqv_ints : ∀ ns ms : List Int, PyData.eqvAll (ns.map PyData.int) (ms.map PyData.int) = decide (ns = ms)
  | [], [] => rfl
  | [], _ :: _ => rfl
  | _ :: _, [] => rfl
  | n :: ns, m :: ms => by
    show ((n == m) && PyData.eqvAll (ns.map PyData.int) (ms.map PyData.int)) = _
    rw [eqv_ints ns ms]
    by_cases h : n = m <;> by_cases h2 : ns = ms <;> simp [h, h2]
theorem rEq_ints {K : PySem.W.Frag} {a b : Addr} {H : Hp} {Q : VK} {ns ms : List Int} (ha : lstv K H a = some (ns.map V.int)) (hb : lstv K H b = some (ms.map V.int)) (q : Q (.bl (decide (ns = ms))) H) : rEqU K (.ref a) (.ref b) H Q := by
  rw [rEqU_ref]
  refine ⟨.list (ns.map PyData.int), .list (ms.map PyData.int), .lst (lstv_sq ha) (dp_ints ns), .lst (lstv_sq hb) (dp_ints ms), PySem.W.ke_shaped_ints _, PySem.W.ke_shaped_ints _, ?_⟩
  show Q (.bl (PyData.eqvAll (ns.map PyData.int) (ms.map PyData.int))) H
  rw [eqv_ints]
  exact q
theorem rNe_ints {K : PySem.W.Frag} {a b : Addr} {H : Hp} {Q : VK} {ns ms : List Int} (ha : lstv K H a = some (ns.map V.int)) (hb : lstv K H b = some (ms.map V.int)) (q : Q (.bl (!decide (ns = ms))) H) : rNeU K (.ref a) (.ref b) H Q := by
  rw [rNeU_ref]
  refine ⟨.list (ns.map PyData.int), .list (ms.map PyData.int), .lst (lstv_sq ha) (dp_ints ns), .lst (lstv_sq hb) (dp_ints ms), PySem.W.ke_shaped_ints _, PySem.W.ke_shaped_ints _, ?_⟩
  show Q (.bl (!PyData.eqvAll (ns.map PyData.int) (ms.map PyData.int))) H
  rw [eqv_ints]
  exact q
/-! ### octets -/
def octs (ns : List Nat) : List V := ns.map fun (n : Nat) => V.int n
theorem octs_int (ns : List Nat) : octs ns = (ns.map fun (n : Nat) => (n : Int)).map V.int := by unfold octs; rw [List.map_map]; rfl
theorem octs_inj {ns ms : List Nat} : (ns.map fun (n : Nat) => (n : Int)) = (ms.map fun (n : Nat) => (n : Int)) ↔ ns = ms := by
  constructor
  · intro h
    exact List.map_inj_right (fun a b e => Int.ofNat.inj e) |>.mp h
  · intro h; rw [h]
theorem rEq_octs {K : PySem.W.Frag} {a b : Addr} {H : Hp} {Q : VK} {ns ms : List Nat} (ha : lstv K H a = some (octs ns)) (hb : lstv K H b = some (octs ms)) (q : Q (.bl (decide (ns = ms))) H) : rEqU K (.ref a) (.ref b) H Q := by
  rw [octs_int] at ha hb
  refine rEq_ints ha hb ?_
  rw [decide_eq_decide.mpr octs_inj]
  exact q
theorem rNe_octs {K : PySem.W.Frag} {a b : Addr} {H : Hp} {Q : VK} {ns ms : List Nat} (ha : lstv K H a = some (octs ns)) (hb : lstv K H b = some (octs ms)) (q : Q (.bl (!decide (ns = ms))) H) : rNeU K (.ref a) (.ref b) H Q := by
  rw [octs_int] at ha hb
  refine rNe_ints ha hb ?_
  rw [decide_eq_decide.mpr octs_inj]
  exact q
theorem octs_at {ns : List Nat} {i : Nat} {x : V} (h : (octs ns)[i]? = some x) : ∃ n : Nat, ns[i]? = some n ∧ x = .int n := by
  unfold octs at h
  rw [List.getElem?_map] at h
  cases e : ns[i]? with
  | none => rw [e] at h; cases h
  | some n => rw [e] at h; cases h; exact ⟨n, rfl, rfl⟩
theorem octs_len (ns : List Nat) : (octs ns).length = ns.length := by simp [octs]
theorem octs_snoc {ns : List Nat} {n : Nat} {i : Int} (h : i = n) : octs ns ++ [V.int i] = octs (ns ++ [n]) := by
  subst h; simp [octs]
theorem cs_small {i j : Int} (h1 : 0 ≤ j) (h2 : j ≤ 1000000) (h3 : i.natAbs < 2 ^ 64) : CS i j := ⟨h1, .inl ⟨h2, h3⟩⟩
theorem cm_l {i j : Int} (h1 : -(2 ^ 64) < i) (h2 : i < 2 ^ 64) : CM i j := .inl (.inl ⟨h1, h2⟩)
theorem cm_r {i j : Int} (h1 : -(2 ^ 64) < j) (h2 : j < 2 ^ 64) : CM i j := .inl (.inr ⟨h1, h2⟩)
theorem cd_small {i j : Int} (h1 : 0 < j) (h2 : j < 1073741824) : CD i j := ⟨h1, .inl h2⟩
theorem cd_wide {i j : Int} {b : Nat} (h : 0 < j) (hb : j.natAbs < 2 ^ b) (h0 : 0 < b) (h9 : b ≤ 9000) : CD i j := ⟨h, .inr (wide_div (i := i) h hb h0 h9).2⟩
theorem Same.upd {H H' : Hp} {l : Addr} {o : HO} (s : Same H H') (h : H l = none) : Same H (upd H' l o) := fun b u e => by
  rw [upd_ne (ne_of_none e h)]
  exact s _ _ e
/-! ### bits -/
theorem xor_nat (a b : Nat) : Builtin.bitXor (a : Int) (b : Int) = ((a ^^^ b : Nat) : Int) := by
  rw [PyProof.Rows.bitXor_and, PySem.W.os_band]
  have h : ∀ n : Nat, ∀ a b : Nat, a ≤ n → a + b = (a ^^^ b) + 2 * (a &&& b) := by
    intro n
    induction n with
    | zero =>
      intro a b h
      have : a = 0 := by omega
      subst this
      simp
    | succ n ih =>
      intro a b h
      by_cases ha : a = 0
      · subst ha; simp
      · have e := ih (a / 2) (b / 2) (by omega)
        have x1 : (a ^^^ b) % 2 = (a % 2 + b % 2) % 2 := by
          have := Nat.xor_mod_two_pow (a := a) (b := b) (n := 1)
          simp at this
          rw [this]
          rcases Nat.mod_two_eq_zero_or_one a with h1 | h1 <;> rcases Nat.mod_two_eq_zero_or_one b with h2 | h2 <;> rw [h1, h2] <;> decide
        have x2 : (a ^^^ b) / 2 = (a / 2) ^^^ (b / 2) := by
          have := Nat.xor_div_two_pow (a := a) (b := b) (n := 1); simpa using this
        have y1 : (a &&& b) % 2 = (a % 2) * (b % 2) := by
          have := Nat.and_mod_two_pow (a := a) (b := b) (n := 1)
          simp at this
          rw [this]
          rcases Nat.mod_two_eq_zero_or_one a with h1 | h1 <;> rcases Nat.mod_two_eq_zero_or_one b with h2 | h2 <;> rw [h1, h2] <;> decide
        have y2 : (a &&& b) / 2 = (a / 2) &&& (b / 2) := by
          have := Nat.and_div_two_pow (a := a) (b := b) (n := 1); simpa using this
        rw [← x2, ← y2] at e
        rcases Nat.mod_two_eq_zero_or_one a with h1 | h1 <;> rcases Nat.mod_two_eq_zero_or_one b with h2 | h2 <;> rw [h1, h2] at x1 y1 <;> omega
  have := h a a b (Nat.le_refl _)
  omega

/-! ### what K holds is not tracked: told at the head of each named block -/
def tAp (K : PySem.W.Frag) (t : TS) : TS := fun D σ H => Apart K H → t D σ H
theorem pssAp {X : Cx} {sts : List Stmt} {t : TS} (h : PSs X sts t) : PSs X sts (tAp X.K t) :=
  ⟨fun pins s σ H D I q => h.run pins s σ H D I (q fun b o e => (I.bs b o (I.ok.mod.kin b o e)).2)⟩
theorem tAp_e {K : PySem.W.Frag} {t : TS} {D : Ends} {σ : L2.St} {H : Hp} : tAp K t D σ H = (Apart K H → t D σ H) := rfl
theorem klst_in {K : PySem.W.Frag} {p : Addr} {xs : List V} (h : klst K p = some xs) : ∃ o, K.lookup p = some o := by
  unfold klst at h
  split at h
  · rename_i he
    rcases Classical.choose_spec he with (q | ⟨_, q⟩) | ⟨o, _, _, q, _⟩
    · cases q
    · cases q
    · exact ⟨o, q⟩
  · cases h
theorem ktup_in {K : PySem.W.Frag} {p : Addr} {xs : List V} (h : ktup K p = some xs) : ∃ o, K.lookup p = some o := by
  unfold ktup at h
  split at h
  · rename_i he
    rcases Classical.choose_spec he with (q | ⟨_, q⟩) | ⟨o, _, _, q, _⟩
    · cases q
    · cases q
    · exact ⟨o, q⟩
  · cases h
theorem lstv_mono {K : PySem.W.Frag} {H H' : Hp} {p : Addr} {xs : List V} (s : Same H H') (ap : Apart K H') (h : lstv K H p = some xs) : lstv K H' p = some xs := by
  unfold lstv at h
  split at h
  · cases h; exact lstv_of (s _ _ ‹_›)
  · cases h; exact lstv_frz (s _ _ ‹_›)
  · obtain ⟨o, q⟩ := klst_in h
    unfold lstv
    rw [ap _ _ q]
    exact h
  · cases h
theorem tupv_mono {K : PySem.W.Frag} {H H' : Hp} {p : Addr} {xs : List V} (s : Same H H') (ap : Apart K H') (h : tupv K H p = some xs) : tupv K H' p = some xs := by
  unfold tupv at h
  split at h
  · cases h; exact tupv_of (s _ _ ‹_›)
  · cases h
    unfold tupv
    rw [s _ _ ‹_›]
  · obtain ⟨o, q⟩ := ktup_in h
    unfold tupv
    rw [ap _ _ q]
    exact h
  · cases h

/-! ### the law's own promise -/
noncomputable def spLaw (K : PySem.W.Frag) : Sp := fun vs H Q _ => ∃ (a : Addr) (ns : List Int), vs = [.ref a] ∧ lstv K H a = some (ns.map V.int) ∧ ns.length ≤ 63 ∧ ∀ H', Q (.bl true) H'
def spLawS (K : PySem.W.Frag) : Sp := fun vs H Q _ => ∃ (a : Addr) (ns : List Int), vs = [.ref a] ∧ SqL K H a (ns.map V.int) ∧ ns.length ≤ 63 ∧ ∀ H', Q (.bl true) H'
theorem lawS {P : Program} {w : World} {K : PySem.W.Frag} {mg : Str → Option Value} {base : Heap} {CX : CXT} {k : Nat} {f : Addr} {fd : FuncData} {x : Str} (F : FnOk P w K mg base CX k f fd [x] (spLaw K)) : FnOk P w K mg base CX k f fd [x] (spLawS K) :=
  fnApart F (fun vs H Q E ⟨a, ns, e, _⟩ => by rw [e]; rfl) fun vs H Q E ap ⟨a, ns, e, h, z, q⟩ => ⟨a, ns, e, lstv_of_sq ap h, z, q⟩
end R

/-! E: own exceptions over ValueError whose __init__ says super().__init__(..), two classes deep. -/
namespace R
open PySem PySem.Spec PyProof.Rows L2 NdefX
/-- what the written part says of a method that closes over its class -/
structure SupF (P : Program) (K : PySem.W.Frag) (mg : Str → Option Value) (name qual : Str) (st : Stmt) (f : Addr) (D : Addr) (fd : FuncData) (cda cc : Addr) : Prop where
  ex : ∃ (oc : Value) (od : Option Addr) (dV kV doc pm : Value) (an : Option Addr) (ct : Value) (osl : Array (Option Value)),
    fd = PySem.W.ksFn name qual (defArgs st) (defBody st) (defScope st) dV kV doc pm an (.ref cda) ct cc ∧ K.lookup f = some ⟨oc, od, .func fd, osl⟩
  cd : PySem.W.codeIn K (.ref cda) qual = true
  fl : ∃ (ccl : Value) (cdd : Option Addr) (vs : Array Value) (ccs : Array (Option Value)) (file : Str) (tf : Tok), K.lookup cda = some ⟨ccl, cdd, .fields vs, ccs⟩ ∧ vs[2]? = some (.str file tf) ∧ ((P.main.file : Str) == file) = true
  ce : ∃ (cl : Value) (cld : Option Addr) (csl : Array (Option Value)), K.lookup cc = some ⟨cl, cld, .cell (some (.ref D)), csl⟩
  dc : ∃ cdD, PySem.W.clsIn K D = some cdD
  sg : mg "super" = none
  tp : (P.main.scope.names.lookup ("super" : Str)).isSome = false
  tst : PySem.W.nsIn K cStatics "thirdparty.any" = some none
abbrev supNF (qual : Str) (st : Stmt) (cda cc : Addr) : NF := ⟨"__init__", qual, defArgs st, defBody st, defScope st, [("__class__", cc)], cda⟩
/-- .. of a class of such exceptions, below D -/
structure SupC (K : PySem.W.Frag) (C D : Addr) : Prop where
  ox : OexC K C
  sub : PySem.W.mroIn K C (.ref D) = some true
section
variable {P : Program} {w : World} {K : PySem.W.Frag} {mg : Str → Option Value} {base : Heap}
theorem ncx_env {CX : CXT} {N : List Str} {F : NF} {f : Addr} {A : Around} {outer : List Env} {s : Shared} {H : Hp} {E : XK} : (ncx CX P w K mg base N F f A outer s H E).env = envF F f s.heap.objs.size := rfl
variable {X : Cx} {σ : L2.St} {H : Hp} {s : Shared} {pins : List (Addr × Obj)}
theorem exo_obj (I : Inv X pins σ H s) {a C : Addr} {d : Option Addr} (e : H a = some (exo a C d)) : ∃ t1 : Addr, s.heap.get? a = some ({ cls := .ref C, dict := d, data := .fields #[.ref t1, .none, .none, .none, .bool false, .none] } : Obj) := exo_at I.hok e
/-- super() in such a method: the object that looks behind D -/
theorem sup_node {name qual : Str} {st : Stmt} {f D : Addr} {fd : FuncData} {cda cc a C L : Addr} {body : List Stmt} {p0 p1 : Pos} {attr : Str} {whole : Sem Value} {ar : Arg} {Q : Value → Shared → Prop} {E : Value → Shared → Prop}
    (S : SupF X.prog X.K X.mg name qual st f D fd cda cc) (hX : X.env = envF (supNF qual st cda cc) f L) (I : Inv X pins σ H s)
    (hp : (fd.params.posonlyargs ++ fd.params.args).head? = some ar) (h0 : X.N[0]? = some ar.arg) (hs : σ[0]? = some (some (.ref a))) (e : H a = some (exo a C none)) (hsub : PySem.W.mroIn X.K C (.ref D) = some true)
    (hat : (attr == ("__class__" : Str)) = false) (hks : (defScope st).names.lookup ("super" : Str) = some .globalImplicit) (hkc : (defScope st).names.lookup ("__class__" : Str) = some .free) (hka : (defScope st).names.lookup ar.arg = some .local)
    (hk : (defScope st).kind = .function)
    (h : ∀ so h', (∀ b o, s.heap.get? b = some o → h'.get? b = some o) → h'.get? so = some (PySem.W.ks_superObj D a C) → Q (.ref so) { s with heap := h' }) :
    _root_.PySem.wpAt (model X.prog X.w) X.A (.func body X.env) (attributeBase (.Call (.Name "super" p0) [] [] p1) attr X.env whole) Q E s := by
  obtain ⟨oc, od, dV, kV, doc, pm, an, ct, osl, hfd, lk⟩ := S.ex
  obtain ⟨ccl, cdd, vs, ccs, file, tf, hcode, hvs, hfile⟩ := S.fl
  obtain ⟨cl, cld, csl, hcell⟩ := S.ce
  obtain ⟨cdD, hD⟩ := S.dc
  have KX := I.kIn
  obtain ⟨t1, ho⟩ := exo_obj I e
  obtain ⟨mb, hb1, hb2⟩ := I.mod.blt
  obtain ⟨m, hns, hloc⟩ := id I.loc
  have hv : m ar.arg = some (.ref a) := by
    obtain ⟨u, ru, lu⟩ := hloc 0 ar.arg (.ref a) h0 hs (.inl (by rw [hX]; exact hka))
    obtain rfl : u = Value.ref a := ru
    rcases lu with ⟨_, z⟩ | ⟨z, _⟩
    · exact z
    · have z' : (defScope st).names.lookup ar.arg = some .cell ∨ (defScope st).names.lookup ar.arg = some .free := by rw [hX] at z; exact z
      rw [hka] at z'; rcases z' with z' | z' <;> cases z'
  obtain ⟨oD, hD1, hD2⟩ : ∃ oD, s.heap.get? D = some oD ∧ oD.data = .cls cdD := by
    unfold PySem.W.clsIn at hD
    split at hD
    · rename_i q
      cases hD
      exact ⟨_, KX _ _ q, rfl⟩
    · cases hD
  have gl : s.heap.Ns X.env.globals X.mg := by rw [I.ok.glob]; exact I.mod.glob.keeps I.bk
  have bl : s.heap.Ns X.env.builtins mb := by rw [I.ok.blt]; exact hb1.keeps I.bk
  obtain ⟨hh, g, d, t, os⟩ := s
  rw [hX] at hns gl bl ⊢
  refine PySem.ks_wpAt_super_base (env := envF (supNF qual st cda cc) f L) hks hkc hat rfl (KX _ _ lk) rfl hp rfl (KX _ _ hcode) rfl hvs hfile S.tp ?_
  refine PySem.W.ks_loadName_global hk hks (Calls.loadGlobal_builtin gl S.sg bl ((hb2 "super" (by decide)).trans (by decide +kernel : bootBuiltins "super" = some (.type "super"))) ⟨rfl, ?_⟩)
  refine wpAny_loadName_free hk hkc rfl ⟨_, KX _ _ hcell, rfl⟩ ?_
  refine wpAny_loadName_local hk hka hns hv ?_
  refine PySem.ks_wpAny_isType_cls hD1 hD2 ⟨rfl, ?_⟩
  refine PySem.ks_wpAny_call_super hD1 hD2 ho rfl (fun c z => ?_) (PySem.W.looks_mroIn KX hsub) (fun h' e k => ?_)
  · cases z
  · exact h _ h' k e

/-- a new object that nobody tracks, pinned -/
theorem pin_new {q : Addr} {o : Obj} {h' : Heap} {t' : Nat} (I : Inv X pins σ H s) (k : ∀ b u, s.heap.get? b = some u → h'.get? b = some u) (hq : s.heap.objs.size ≤ q) (ho : h'.get? q = some o) (hc : ∀ v, o.data ≠ .cell v) :
    Inv X ((q, o) :: pins) σ H { s with heap := h', toks := t' } := by
  have J := I.kept (t' := t') k
  have fp := I.fpOk hq (I.hok.fresh hq)
  refine J.pins_of fun p hp => ?_
  rcases List.mem_cons.mp hp with rfl | hp
  · exact ⟨ho, fp.1, fp.2.1, fp.2.2.1, hc⟩
  · exact J.pin p (List.mem_append_right _ hp)
theorem unpin {q : Addr × Obj} (I : Inv X (q :: pins) σ H s) : Inv X pins σ H s := I.pins_of fun p hp => I.pin p (List.mem_append_right _ (List.mem_cons_of_mem _ hp))
/-- the bound built-in __init__ is called -/
theorem call_mw {u a C t0 : Addr} {rest : List Value} {Q : Value → Shared → Prop} {E : Value → Shared → Prop} {A : Around} (T : OexC X.K C) (I : Inv X pins σ H s) (hu : s.heap.get? u = some (PySem.W.kxs_mw "ValueError.__init__" a)) (he : H a = some (exo a C none)) (hz : rest.length ≤ sizeLine)
    (h : ∀ s', Inv X pins σ H s' → Q .none s') : wpAny (model X.prog X.w) A (call (.ref u) rest) Q E s := by
  obtain ⟨nm, q, N, bs, bm, sn, sub, ab, col, dd, k0, k1, k2, k3, k5, hC, hbm⟩ := T.cls
  obtain ⟨t1, ho⟩ := exo_obj I he
  have KX := I.kIn
  obtain ⟨hh, g, d, tk, os⟩ := s
  refine wpAny_call (codeAny_of_tree ?_)
  show wpAny (model X.prog X.w) A.in1 (callAny (.ref u) ⟨rest, []⟩) _ _ _
  simp only [callAny]
  refine wpAny_bind (wpAny_load hu ?_)
  simp only [PySem.W.kxs_mw, show (Value.type "method-wrapper" == Value.type "method" || Value.type "method-wrapper" == Value.type "builtin_function_or_method" || Value.type "method-wrapper" == Value.type "method-wrapper") = true by decide, if_true]
  refine PySem.W.KFB.if_so (by decide) ?_
  refine wpAny_bind (PySem.W.check_bound_init PySem.F.excBase_ValueError.toExcCallFacts (KX _ _ hC) ho rfl ?_)
  refine wpAny_bind (wpAny_pure (wpAny_pure ⟨plainId_quiet PySem.F.excBase_ValueError.init.plain _, codeAny_builtin PySem.F.excBase_ValueError.initEntry ?_⟩))
  refine PySem.W.exc_init_tree (cls := .ref C) (t0 := t1) (dv := none) (c2 := .none) (c3 := .none) (b4 := .bool false) ho hz fun h' k hx _ => ?_
  have J := I.write (t' := tk) (x := a) (e := a) (o := exo a C none) (by rw [he]; exact True.intro) (.inl rfl) k ⟨_, hx⟩ (exo_ok hx)
  have eu : upd H a (exo a C none) = H := by
    funext b
    by_cases hb : b = a
    · rw [hb, upd_same, he]
    · rw [upd_ne hb]
  rw [eu] at J
  exact h _ J
section
variable {name qual : Str} {st : Stmt} {f D : Addr} {fd : FuncData} {cda cc a C L : Addr} {body : List Stmt} {p0 p1 ap cp ep : Pos} {ar : Arg} {e0 : Expr} {es : List Expr} {ta : TA} {Dn : Ends} {pl : Sem Bool}
/-- super().__init__(..) that comes to ValueError's -/
theorem sup_base (S : SupF X.prog X.K X.mg name qual st f D fd cda cc) (hX : X.env = envF (supNF qual st cda cc) f L) (I : Inv X pins σ H s)
    (hp : (fd.params.posonlyargs ++ fd.params.args).head? = some ar) (h0 : X.N[0]? = some ar.arg) (hs : σ[0]? = some (some (.ref a))) (T : SupC X.K C D) (e : H a = some (exo a C none))
    (hsu : PySem.W.ks_superIn X.K C D "__init__" = some (some (.builtin "ValueError.__init__"))) (hB : PySem.W.subIn X.K (.ref C) (.type "ValueError") = some true)
    (ha : PA X (e0 :: es) ta) (hks : (defScope st).names.lookup ("super" : Str) = some .globalImplicit) (hkc : (defScope st).names.lookup ("__class__" : Str) = some .free) (hka : (defScope st).names.lookup ar.arg = some .local)
    (hk : (defScope st).kind = .function) (he : starEach (e0 :: es) X.env = (false, eval e0 X.env) :: starEach es X.env) (hpl : (backTo cp (starEach es X.env)).any (·.1) = false)
    (hq : ta σ H fun vs H1 => vs.length ≤ 1000 ∧ H1 a = some (exo a C none) ∧ Dn.nx σ H1)
    (hev : eval (.Call (.Attribute (.Call (.Name "super" p0) [] [] p1) "__init__" ap) (e0 :: es) [] cp) X.env = (do
      let ov ← attributeBase (.Call (.Name "super" p0) [] [] p1) "__init__" X.env (eval (.Call (.Name "super" p0) [] [] p1) X.env)
      standAt ap.atName
      let (f, first) ← holding [ov] (getMethod ov "__init__" pl)
      callWith cp f first (backTo cp (starEach (e0 :: es) X.env)) [])) :
    _root_.PySem.wpAt (model X.prog X.w) X.A (.func body X.env) (exec (.Expr (.Call (.Attribute (.Call (.Name "super" p0) [] [] p1) "__init__" ap) (e0 :: es) [] cp) ep) X.env) (SP X pins Dn) X.xe s := by
  refine PySem.ks_wpAt_Expr_any (PySem.ks_wpAt_MethodCall (sup_node S hX I hp h0 hs e T.sub (by decide) hks hkc hka hk fun so h' k hso => ?_) hev) I.quiet rfl
  have I1 := I.kept (t' := s.toks) k
  obtain ⟨t1, ho⟩ := exo_obj I1 e
  have KX := I1.kIn
  have hxC : a ≠ C := by
    obtain ⟨nm, q, N, bs, bm, sn, sub, ab, col, dd, k0, k1, k2, k3, k5, hC, _⟩ := T.ox.cls
    intro z
    rw [z] at ho
    have := KX _ _ hC
    rw [ho] at this
    cases this
  cases hcl : PySem.W.clsIn X.K C with
  | none => unfold PySem.W.ks_superIn at hsu; rw [hcl] at hsu; cases hsu
  | some cd =>
    unfold PySem.W.ks_superIn at hsu
    rw [hcl] at hsu
    have hI : PySem.W.Looks (model X.prog X.w) h' (isInstance (.ref a) (.type "ValueError")) true := by
      have LT : PySem.W.Looks (model X.prog X.w) h' (typeOf (.ref a)) (.ref C) := fun A Q E s k q => wpAny_typeOf_ref (k _ _ ho) q
      exact LT.andThen (PySem.W.looks_subIn KX hB)
    refine PySem.W.kxs_getMethod (h := h') (g := s.gens) (d := s.drawn) (t := s.toks) (os := s.os) PySem.W.kxs_ValueError hso (PySem.W.looks_opaque KX S.tst) (l₀ := cd.mro) (fun A Q E s k q => wpAny_bind ((PySem.W.looks_clsIn KX hcl) A _ E s k (wpAny_pure q))) rfl KX hsu hI hxC (by decide) ?_
    have I2 := pin_new (o := PySem.W.kxs_mw "ValueError.__init__" a) (h' := h'.push (PySem.W.kxs_mw "ValueError.__init__" a)) (t' := s.toks + 1) I1 (fun b u z => Heap.get?_push_of_some _ z) (Nat.le_refl _) (Heap.get?_push_at rfl rfl) (fun v z => by cases z)
    refine PySem.W.kxs_callWith1 (i := "ValueError.__init__") (x := a) (h₀ := X.base) (L := X.env.locals) (news := [(h'.objs.size, PySem.W.kxs_mw "ValueError.__init__" a)]) (fun p hp => ?_) (by simp) ?_ he hpl
    · simp at hp
      subst hp
      obtain ⟨g1, g2, g3, _⟩ := I2.pin (h'.objs.size, PySem.W.kxs_mw "ValueError.__init__" a) (by simp)
      refine ⟨g1, g3, ?_⟩
      cases z : X.base.get? h'.objs.size with
      | none => rfl
      | some o => exact absurd (Heap.lt_size (I1.bk _ _ z)) (Nat.lt_irrefl _)
    · refine thn (ha.run cp _ _ σ H _ I2 hq) fun us s3 ⟨vs, H3, I3, r3, q3⟩ => ?_
      obtain ⟨hl, e3, q3⟩ := q3
      have hu := (I3.pin (h'.objs.size, PySem.W.kxs_mw "ValueError.__init__" a) (by simp)).1
      refine ⟨hu, call_mw (t0 := t1) T.ox I3 hu e3 (by rw [← Paired.length r3, sizeLine_eq]; omega) fun s4 I4 => ?_⟩
      exact ⟨σ, H3, unpin I4, q3⟩
/-- super().__init__(..) that comes to an own class's -/
theorem sup_own {CX : CXT} {k2 : Nat} {f2 : Addr} {fd2 : FuncData} {ps2 : List Str} {sp2 : Sp} {Ex : XK} (S : SupF X.prog X.K X.mg name qual st f D fd cda cc) (hX : X.env = envF (supNF qual st cda cc) f L) (I : Inv X pins σ H s)
    (hp : (fd.params.posonlyargs ++ fd.params.args).head? = some ar) (h0 : X.N[0]? = some ar.arg) (hs : σ[0]? = some (some (.ref a))) (T : SupC X.K C D) (e : H a = some (exo a C none))
    (hsu : PySem.W.ks_superIn X.K C D "__init__" = some (some (.ref f2))) (ht : PySem.W.typeIn X.K (.ref f2) = some (.type "function")) (hfn : PySem.W.fnIn X.K f2 = true)
    (F2 : FnOk X.prog X.w X.K X.mg X.base CX k2 f2 fd2 ps2 sp2) (hr : Room k2 X.A) (hb : Binds X.K fd2 ps2 []) (hx : Passes CX X Ex)
    (ha : PA X (e0 :: es) ta) (hks : (defScope st).names.lookup ("super" : Str) = some .globalImplicit) (hkc : (defScope st).names.lookup ("__class__" : Str) = some .free) (hka : (defScope st).names.lookup ar.arg = some .local)
    (hk : (defScope st).kind = .function) (he : starEach (e0 :: es) X.env = (false, eval e0 X.env) :: starEach es X.env) (hpl : (backTo cp (starEach es X.env)).any (·.1) = false)
    (hq : ta σ H fun vs H1 => sp2 (.ref a :: vs) H1 (fun _ H2 => Dn.nx σ H2) Ex)
    (hev : eval (.Call (.Attribute (.Call (.Name "super" p0) [] [] p1) "__init__" ap) (e0 :: es) [] cp) X.env = (do
      let ov ← attributeBase (.Call (.Name "super" p0) [] [] p1) "__init__" X.env (eval (.Call (.Name "super" p0) [] [] p1) X.env)
      standAt ap.atName
      let (f, first) ← holding [ov] (getMethod ov "__init__" pl)
      callWith cp f first (backTo cp (starEach (e0 :: es) X.env)) [])) :
    _root_.PySem.wpAt (model X.prog X.w) X.A (.func body X.env) (exec (.Expr (.Call (.Attribute (.Call (.Name "super" p0) [] [] p1) "__init__" ap) (e0 :: es) [] cp) ep) X.env) (SP X pins Dn) X.xe s := by
  refine PySem.ks_wpAt_Expr_any (PySem.ks_wpAt_MethodCall (sup_node S hX I hp h0 hs e T.sub (by decide) hks hkc hka hk fun so h' k hso => ?_) hev) I.quiet rfl
  have I1 := I.kept (t' := s.toks) k
  obtain ⟨t1, ho⟩ := exo_obj I1 e
  have KX := I1.kIn
  have hxC : a ≠ C := by
    obtain ⟨nm, q, N, bs, bm, sn, sub, ab, col, dd, k0, k1, k2, k3, k5, hC, _⟩ := T.ox.cls
    intro z
    rw [z] at ho
    have := KX _ _ hC
    rw [ho] at this
    cases this
  cases hcl : PySem.W.clsIn X.K C with
  | none => unfold PySem.W.ks_superIn at hsu; rw [hcl] at hsu; cases hsu
  | some cd =>
    unfold PySem.W.ks_superIn at hsu
    rw [hcl] at hsu
    obtain ⟨of, hof, hofc⟩ : ∃ of, h'.get? f2 = some of ∧ of.cls = .type "function" := by
      have ht' : (X.K.lookup f2).map (·.cls) = some (.type "function") := ht
      cases z : X.K.lookup f2 with
      | none => rw [z] at ht'; cases ht'
      | some of => rw [z] at ht'; exact ⟨of, KX _ _ z, Option.some.inj ht'⟩
    refine PySem.ks_wpAny_getMethod_super (h := h') (g := s.gens) (d := s.drawn) (t := s.toks) (os := s.os) hso (PySem.W.looks_opaque KX S.tst) (l₀ := cd.mro) (fun A Q E s k q => wpAny_bind ((PySem.W.looks_clsIn KX hcl) A _ E s k (wpAny_pure q))) rfl KX hsu hof hofc hxC (by decide) ?_
    have I2 := pin_new (o := PySem.W.methodObj (.ref f2) (.ref a)) (h' := h'.push (PySem.W.methodObj (.ref f2) (.ref a))) (t' := s.toks + 1) I1 (fun b u z => Heap.get?_push_of_some _ z) (Nat.le_refl _) (Heap.get?_push_at rfl rfl) (fun v z => by cases z)
    refine PySem.W.callWith_M (K := X.K) (g := f2) (self := .ref a) (h₀ := X.base) (L := X.env.locals) (news := [(h'.objs.size, PySem.W.methodObj (.ref f2) (.ref a))]) I.ok.mod.kin (fun p hp => ?_) (by simp) hfn ?_ he hpl
    · simp at hp
      subst hp
      obtain ⟨g1, g2, g3, _⟩ := I2.pin (h'.objs.size, PySem.W.methodObj (.ref f2) (.ref a)) (by simp)
      refine ⟨g1, g3, ?_⟩
      cases z : X.base.get? h'.objs.size with
      | none => rfl
      | some o => exact absurd (Heap.lt_size (I1.bk _ _ z)) (Nat.lt_irrefl _)
    · refine thn (ha.run cp _ _ σ H _ I2 hq) fun us s3 ⟨vs, H3, I3, r3, q3⟩ => ?_
      have hu := (I3.pin (h'.objs.size, PySem.W.methodObj (.ref f2) (.ref a)) (by simp)).1
      refine ⟨⟨hu, I3.kIn⟩, ?_⟩
      have rr : Vals (V.ref a :: vs) (Value.ref a :: us) := .cons rfl r3
      have hl : (Value.ref a :: us ++ []).length = ps2.length := by
        rw [List.append_nil, ← rr.length]; exact F2.len _ _ _ _ q3
      have hbd := hb s3 (Value.ref a :: us) I3.kIn hl
      rw [List.append_nil] at hbd
      refine wpAny_call (PySem.ks_codeAny_call_bound hu (codeAny_mono (F2.run X.A X.stack s3 H3 ⟨Value.ref a :: us, []⟩ (Value.ref a :: us) (V.ref a :: vs) _ Ex hr I3.env0 hbd rr q3) fun r s' hq' => ?_))
      cases r with
      | error er => exact hx _ σ H3 s3 er s' I3 hq'
      | ok fl =>
        cases fl with
        | ret u =>
          obtain ⟨v, H4, I4, _, q4⟩ := I3.after hq'
          exact ⟨σ, H4, unpin I4, q4⟩
        | next => exact False.elim hq'
        | brk => exact False.elim hq'
        | cont => exact False.elim hq'
end
end

/-! ### such an __init__ keeps its promise -/
/-- the call node's tree: by rfl where the places are written -/
def SupEv (p0 p1 ap cp : Pos) (args : List Expr) (pl : Sem Bool) : Prop := ∀ env : Env, eval (.Call (.Attribute (.Call (.Name "super" p0) [] [] p1) "__init__" ap) args [] cp) env = (do
  let ov ← attributeBase (.Call (.Name "super" p0) [] [] p1) "__init__" env (eval (.Call (.Name "super" p0) [] [] p1) env)
  standAt ap.atName
  let (f, first) ← holding [ov] (getMethod ov "__init__" pl)
  callWith cp f first (backTo cp (starEach args env)) [])
section
variable {P : Program} {w : World} {K : PySem.W.Frag} {mg : Str → Option Value} {base : Heap} {CX : CXT} {name qual : Str} {st : Stmt} {f D : Addr} {fd : FuncData} {cda cc : Addr} {N ps : List Str} {k : Nat} {sp : Sp}
theorem fn_sup (S : SupF P K mg name qual st f D fd cda cc) (NS : NScope N ps ["__class__"] (defScope st)) (len : ∀ vs H Q E, sp vs H Q E → vs.length = ps.length)
    (hbody : ∀ (A : Around) (outer : List Env) (s : Shared) (H : Hp) (vs : List V) (Q : VK) (E : XK), Room k (A.deeper (envF (supNF qual st cda cc) f s.heap.objs.size)) → sp vs H Q E →
      ∀ s1, Inv (ncx CX P w K mg base N (supNF qual st cda cc) f A outer s H E) [] (startF N vs [some (.ref D)]) H s1 →
        _root_.PySem.wpAt (model P w) (A.deeper (envF (supNF qual st cda cc) f s.heap.objs.size)) (.func (defBody st) (envF (supNF qual st cda cc) f s.heap.objs.size)) (execs (defBody st) (envF (supNF qual st cda cc) f s.heap.objs.size))
          (SP (ncx CX P w K mg base N (supNF qual st cda cc) f A outer s H E) [] { nx := fun _ H' => Q .non H', rt := Q }) (ncx CX P w K mg base N (supNF qual st cda cc) f A outer s H E).xe s1) :
    FnOk P w K mg base CX (k + 1) f fd ps sp := by
  refine ⟨len, fun A outer s H args us vs Q E hr e0 hb r hsp => ?_⟩
  obtain ⟨oc, od, dV, kV, doc, pm, an, ct, osl, rfl, lk⟩ := S.ex
  obtain ⟨cl, cld, csl, hcell⟩ := S.ce
  have hl := len _ _ _ _ hsp
  have KX : K.In s.heap := e0.mod.kin.keeps fun b o z => (e0.bs b o z).1
  have lim : s.heap.NoLimit := e0.mod.nolimit.keeps fun b o z => (e0.bs b o z).1
  refine codeAny_call_function hr.depth (KX _ _ lk) rfl NS.co NS.gen rfl (PySem.W.codeRec_of KX S.cd) (hb _ _ _ _ ?_)
  refine wpAny_newFunctionEnv NS.nocell (fun ⟨n, _⟩ hy => NS.par n (List.of_mem_zip hy).1) (fun h₁ hns hsb => ⟨lim.fresh _ hsb, ?_⟩) NS.kind
  refine PySem.ks_codeAny_funcAt (env := envF (supNF qual st cda cc) f s.heap.objs.size) ?_
  have kp : ∀ b o, s.heap.get? b = some o → h₁.get? b = some o := fun b o z => hsb.extBut b o (Nat.ne_of_lt (Heap.lt_size z)) (Heap.get?_push_of_some _ z)
  have C : CellsAt (supNF qual st cda cc).cl ["__class__"] [some (.ref D)] s.heap H := by
    refine ⟨rfl, fun y c z => ?_, fun x y c z1 z2 => ?_, fun i y hi => ?_⟩
    · have z' : List.lookup y [(("__class__" : Str), cc)] = some c := z
      have hc : c = cc := by
        rw [List.lookup_cons] at z'
        split at z'
        · cases z'; rfl
        · cases z'
      subst hc
      exact ⟨(e0.bs _ _ (e0.mod.kin _ _ hcell)).2, _, _, KX _ _ hcell, rfl⟩
    · have one : ∀ {u : Str}, List.lookup u [(("__class__" : Str), cc)] = some c → u = "__class__" := fun {u} q => by
        rw [List.lookup_cons] at q
        split at q
        · rename_i q2; simpa using q2
        · cases q
      rw [one z1, one z2]
    · cases i with
      | zero =>
        cases hi
        refine ⟨cc, rfl, fun v hv => ?_⟩
        cases hv
        exact ⟨_, rfl, _, KX _ _ hcell, rfl⟩
      | succ i => simp at hi
  have I : Inv (ncx CX P w K mg base N (supNF qual st cda cc) f A outer s H E) [] (startF N vs [some (.ref D)]) H { s with heap := h₁, toks := s.toks + (ps.zip us).length } := inv_startN NS hr.hd e0 hl r C hns kp
  refine PySem.ks_wpAt_mono (hbody A outer s H vs Q E (hr.deeper _) hsp _ I) (fun fl s' hs => ?_) fun e s' hs => hs
  have fin : ∀ {σ' : L2.St} {H' : Hp} {v : V} {u : Value}, Inv (ncx CX P w K mg base N (supNF qual st cda cc) f A outer s H E) [] σ' H' s' → L2.RelV v u → Q v H' → CE outer P w H s Q u s' :=
    fun {σ' H' v u} J rv q => ⟨v, H', J.os, J.bare, J.base, J.hok, rv, q⟩
  cases fl with
  | ret u => obtain ⟨v, σ', H', J, rv, q⟩ := hs; exact fin J rv q
  | next => obtain ⟨σ', H', J, q⟩ := hs; exact fin (v := V.non) (u := Value.none) J rfl q
  | brk => obtain ⟨_, _, _, q⟩ := hs; exact False.elim q
  | cont => obtain ⟨_, _, _, q⟩ := hs; exact False.elim q
end

/-! ### FormstripesError and its kin -/
/-- what is known of the class C below the class D whose __init__ is a def of one's own over ValueError -/
structure FormC (K : PySem.W.Frag) (C D : Addr) : Prop extends SupC K C D where
  nP : PySem.W.findIn K (.ref C) "place" = some none
  nN : PySem.W.findIn K (.ref C) "name" = some none
  su : PySem.W.ks_superIn K C D "__init__" = some (some (.builtin "ValueError.__init__"))
  vE : PySem.W.subIn K (.ref C) (.type "ValueError") = some true
/-- the promise of FormstripesError.__init__ -/
def spForm (K : PySem.W.Frag) (D : Addr) : Sp := fun vs H Q _ => ∃ (a C : Addr) (y z : V), vs = [.ref a, y, z] ∧ FormC K C D ∧ H a = some (exo a C none) ∧
  ∀ dx H', H dx = none → dx ≠ a → H' a = some (exo a C (some dx)) → H' dx = some (exd dx [("name", z), ("place", y)]) → (∀ b, b ≠ a → b ≠ dx → H' b = H b) → Q .non H'
/-- .. of a kin's -/
def spKin (K : PySem.W.Frag) (D D0 : Addr) (nm : Str) : Sp := fun vs H Q _ => ∃ (a : Addr) (y : V), vs = [.ref a, y] ∧ H a = some (exo a D none) ∧
  ∀ dx H', H dx = none → dx ≠ a → H' a = some (exo a D (some dx)) → H' dx = some (exd dx [("name", .str nm), ("place", y)]) → (∀ b, b ≠ a → b ≠ dx → H' b = H b) → Q .non H'
section
variable {P : Program} {w : World} {K : PySem.W.Frag} {mg : Str → Option Value} {base : Heap} {CX : CXT} {name qual : Str} {st : Stmt} {f D : Addr} {fd : FuncData} {cda cc : Addr} {ar : Arg} {p0 p1 ap cp ep p2 p3 p4 p5 p6 p7 p8 p9 p10 : Pos}
/-- def __init__(self, place, name): super().__init__(place); self.place = place; self.name = name -/
theorem ok_form (S : SupF P K mg name qual st f D fd cda cc) (NS : NScope ["self", "place", "name", "__class__"] ["self", "place", "name"] ["__class__"] (defScope st))
    (hb : defBody st = [.Expr (.Call (.Attribute (.Call (.Name "super" p0) [] [] p1) "__init__" ap) [.Name "place" p2] [] cp) ep,
      .Assign [.Attribute (.Name "self" p3) "place" p4] (.Name "place" p5) p6, .Assign [.Attribute (.Name "self" p7) "name" p8] (.Name "name" p9) p10]) {pl : Sem Bool} (hev : SupEv p0 p1 ap cp [.Name "place" p2] pl)
    (hp : (fd.params.posonlyargs ++ fd.params.args).head? = some ar) (har : ar.arg = "self") (hks : (defScope st).names.lookup ("super" : Str) = some .globalImplicit) (hkc : (defScope st).names.lookup ("__class__" : Str) = some .free) :
    FnOk P w K mg base CX 1 f fd ["self", "place", "name"] (spForm K D) := by
  refine fn_sup S NS (fun vs H Q E ⟨_, _, _, _, e, _⟩ => by rw [e]; rfl) fun A outer s H vs Q E hr h s1 I => ?_
  obtain ⟨a, C, y, z, rfl, T, e, hq⟩ := h
  rw [hb]
  have hka : (defScope st).names.lookup ("self" : Str) = some .local := NS.par "self" (by simp)
  have hkp : (defScope st).names.lookup ("place" : Str) = some .local := NS.par "place" (by simp)
  have hkn : (defScope st).names.lookup ("name" : Str) = some .local := NS.par "name" (by simp)
  refine PySem.ks_wpAt_execs_cons (PySem.ks_wpAt_mono (sup_base (Dn := ⟨fun σ' H' => σ' = [some (.ref a), some y, some z, some (.ref D)] ∧ H' = H, fun _ _ => False, fun _ _ => False, fun _ _ => False⟩) (ta := tCons (tVar 1) tNil) S rfl I hp (by rw [har]; rfl) rfl T.toSupC e T.su T.vE (pa_cons (pv 1 rfl (.inl hkp)) pa_nil) hks hkc (by rw [har]; exact hka) NS.kind rfl rfl
    ⟨y, rfl, by simp, e, rfl, rfl⟩ (hev _)) (fun fl s' hs => ?_) fun _ _ q => q)
  cases fl with
  | ret u => obtain ⟨_, _, _, _, _, q⟩ := hs; exact False.elim q
  | brk => obtain ⟨_, _, _, q⟩ := hs; exact False.elim q
  | cont => obtain ⟨_, _, _, q⟩ := hs; exact False.elim q
  | next =>
    obtain ⟨σ', H', I', rfl, rfl⟩ := hs
    refine wpAt_of_wpAny ((pss_cons (ps_ost (pv 0 rfl (.inl hka)) (pv 1 rfl (.inl hkp))) (pss_one (ps_ost (pv 0 rfl (.inl hka)) (pv 2 rfl (.inl hkn))))).run [] s' _ _ _ I' ?_)
    refine ⟨y, rfl, .ref a, rfl, a, C, rfl, T.ox, T.nP, .inl ⟨e, fun dx nd ne => ?_⟩⟩
    refine ⟨z, rfl, .ref a, rfl, a, C, rfl, T.ox, T.nN, .inr ⟨dx, [("place", y)], upd_same, by rw [upd_ne ne, upd_same], by simp, ?_⟩⟩
    refine hq dx _ nd ne ?_ upd_same ?_
    · rw [upd_ne (Ne.symm ne), upd_same]
    · intro b h1 h2
      rw [upd_ne h2, upd_ne h1, upd_ne h2]
/-- def __init__(self, place): super().__init__(place, nm) -/
theorem ok_kin {f0 D0 : Addr} {fd0 : FuncData} {nm : Str} {kk : Nat} (S : SupF P K mg name qual st f D fd cda cc) (NS : NScope ["self", "place", "__class__"] ["self", "place"] ["__class__"] (defScope st))
    (hb : defBody st = [.Expr (.Call (.Attribute (.Call (.Name "super" p0) [] [] p1) "__init__" ap) [.Name "place" p2, .Constant (.str nm) kk p3] [] cp) ep]) {pl : Sem Bool} (hev : SupEv p0 p1 ap cp [.Name "place" p2, .Constant (.str nm) kk p3] pl)
    (hp : (fd.params.posonlyargs ++ fd.params.args).head? = some ar) (har : ar.arg = "self") (hks : (defScope st).names.lookup ("super" : Str) = some .globalImplicit) (hkc : (defScope st).names.lookup ("__class__" : Str) = some .free)
    (T : SupC K D D) (T0 : FormC K D D0) (hsu : PySem.W.ks_superIn K D D "__init__" = some (some (.ref f0))) (ht : PySem.W.typeIn K (.ref f0) = some (.type "function")) (hfn : PySem.W.fnIn K f0 = true)
    (F0 : FnOk P w K mg base CX0 1 f0 fd0 ["self", "place", "name"] (spForm K D0)) (hb0 : Binds K fd0 ["self", "place", "name"] []) :
    FnOk P w K mg base CX0 2 f fd ["self", "place"] (spKin K D D0 nm) := by
  refine fn_sup S NS (fun vs H Q E ⟨_, _, e, _⟩ => by rw [e]; rfl) fun A outer s H vs Q E hr h s1 I => ?_
  obtain ⟨a, y, rfl, e, hq⟩ := h
  rw [hb]
  have hka : (defScope st).names.lookup ("self" : Str) = some .local := NS.par "self" (by simp)
  have hkp : (defScope st).names.lookup ("place" : Str) = some .local := NS.par "place" (by simp)
  refine PySem.ks_wpAt_execs_cons (PySem.ks_wpAt_mono (sup_own (Dn := ⟨fun σ' H' => Q .non H', fun _ _ => False, fun _ _ => False, fun _ _ => False⟩) (Ex := E0) (ta := tCons (tVar 1) (tCons (tC (.str nm)) tNil)) S rfl I hp (by rw [har]; rfl) rfl T e hsu ht hfn F0 hr hb0 pass0 (pa_cons (pv 1 rfl (.inl hkp)) (pa_cons pe_str pa_nil)) hks hkc (by rw [har]; exact hka) NS.kind rfl rfl
    ⟨y, rfl, a, D, y, .str nm, rfl, T0, e, hq⟩ (hev _)) (fun fl s' hs => ?_) fun _ _ q => q)
  cases fl with
  | ret u => obtain ⟨_, _, _, _, _, q⟩ := hs; exact False.elim q
  | brk => obtain ⟨_, _, _, q⟩ := hs; exact False.elim q
  | cont => obtain ⟨_, _, _, q⟩ := hs; exact False.elim q
  | next =>
    obtain ⟨σ', H', I', q⟩ := hs
    exact wpAt_of_wpAny (pss_nil.run [] s' σ' H' _ I' q)
end
/-- every parameter is given, though defaults stand -/
theorem binds_dfl {K : PySem.W.Frag} {fd : FuncData} {T : Addr} {o : Obj} {its : Array Value} {n : Nat} {ps : List Str} (lT : K.lookup T = some o) (oT : o.data = .seq its n)
    (h : ∀ us : List Value, us.length = ps.length → ∃ k, bindArgs fd ⟨us, []⟩ = seqItems? (.ref T) >>= k ∧ k (some its) = pure (ps.zip us)) : Binds K fd ps [] := by
  intro s us X hl
  rw [List.append_nil] at hl ⊢
  obtain ⟨k, e1, e2⟩ := h us hl
  refine BindsTo.of_looks fun M => ?_
  rw [e1]
  exact looks_items X lT oT (.of_pure e2)
/-- D(e), a kin made to be raised -/
def tMkF (D : Addr) (nm : Str) (te : TE) : L2.St → Hp → XK → Prop := fun σ H Q => te σ H fun y H1 => ∀ d H', H1 d = none → Same H1 H' → H' d = some (.xd [("name", .str nm), ("place", y)]) → Q (.ref D) (some d) H'
/-- what is asked of X and the class D to make one -/
structure KinE (P : Program) (w : World) (K : PySem.W.Frag) (mg : Str → Option Value) (base : Heap) (x : Str) (D D0 : Addr) (nm : Str) : Prop where
  ex : ∃ (fI : Addr) (fd : FuncData), PySem.W.findIn K (.ref D) "__init__" = some (some (.ref fI)) ∧ PySem.W.typeIn K (.ref fI) = some (.type "function") ∧ FnOk P w K mg base CX0 2 fI fd ["self", "place"] (spKin K D D0 nm) ∧ Binds K fd ["self", "place"] []
  ox : OexC K D
  mg : mg x = some (.ref D)
theorem pmk_kin {X : Cx} {x : Str} {D D0 : Addr} {nm : Str} {p pos : Pos} {e : Expr} {te : TE} (N : KinE X.prog X.w X.K X.mg X.base x D D0 nm) (hr : Room 3 X.A) (hg : Gl X x) (he : PE X e te)
    (hdb : (x == ("__debug__" : Str)) = false := by decide) (hs : starEach (e :: []) X.env = (false, eval e X.env) :: starEach [] X.env := by rfl) (hpl : (backTo pos (starEach [] X.env)).any (·.1) = false := by rfl) :
    PMk X (.Call (.Name x p) [e] [] pos) (tMkF D nm te) := by
  obtain ⟨fI, fd, h1, h2, h3, h4⟩ := N.ex
  intro pins s σ H Q I h
  refine pmk_oex (dvs := []) N.ox h1 h2 h3 hr h4 .nil pass0 hg N.mg (pa_cons (peCl he) pa_nil hs) hdb hs hpl pins s σ H Q I ?_
  refine ⟨_, h, fun y H1 q => ⟨by simp, fun a na => ⟨a, y, rfl, upd_same, fun dx H' nd ne e1 e2 e3 => ⟨rfl, dx, _, e1, e2, ?_, ?_⟩⟩⟩⟩
  · rw [upd_ne ne] at nd
    exact nd
  · rw [upd_ne ne] at nd
    refine q dx _ nd (fun b o hb => ?_) upd_same
    have ba : b ≠ a := ne_of_none hb na
    have bd : b ≠ dx := ne_of_none hb nd
    rw [upd_ne bd, del_ne ba, e3 b ba bd, upd_ne ba]
    exact hb

/-! ### raise, calls that may raise, try -/
def tRs (W : WX) (t : L2.St → Hp → XK → Prop) : TS := fun _ σ H => t σ H fun cls d H' => W cls d σ H'
theorem ps_rs {X : Cx} {W : WX} {e : Expr} {t : L2.St → Hp → XK → Prop} {pos : Pos} (hc : X.calm = true) (tk : Takes X W) (he : PMk X e t) : PS X (.Raise (some e) none pos) (tRs W t) := ps_raise hc tk he
theorem tRs_e {W : WX} {D : Ends} {σ : L2.St} {H : Hp} {t : L2.St → Hp → XK → Prop} : tRs W t D σ H = t σ H fun cls d H' => W cls d σ H' := rfl
def tCallW (sp : Sp) (W : WX) (t : TA) : TE := fun σ H Q => t σ H fun vs H1 => sp vs H1 Q (fun cls d H' => W cls d σ H')
section
variable {X : Cx} {W : WX} {k : Nat} {x : Str} {ps : List Str} {sp : Sp} {p pos : Pos} {e : Expr} {es : List Expr} {t : TA}
theorem pe_fnW (F : FnE X.prog X.w X.K X.mg X.base (L2.CX X.prog X.w) x k ps sp) (hr : Room k X.A) (hg : Gl X x) (tk : Takes X W) (ha : PA X (e :: es) t)
    (hdb : (x == ("__debug__" : Str)) = false := by decide) (he : starEach (e :: es) X.env = (false, eval e X.env) :: starEach es X.env := by rfl) (hp : (backTo pos (starEach es X.env)).any (·.1) = false := by rfl) :
    PE X (.Call (.Name x p) (e :: es) [] pos) (tCallW sp W t) := by
  obtain ⟨f, fd, h1, h2, h3, h4⟩ := F.ex
  refine peImp (pe_callSD (dvs := []) (E := fun σ => WE W σ) h4 hr hg h1 h2 h3 .nil (fun σ => passAt tk σ) ha hdb he hp) fun σ H Q q => ?_
  show t σ H fun vs H1 => sp (vs ++ []) H1 Q (WE W σ)
  simp only [List.append_nil]
  exact q
theorem tCallW_e {σ : L2.St} {H : Hp} {Q : VK} : tCallW sp W t σ H Q = t σ H fun vs H1 => sp vs H1 Q (fun cls d H' => W cls d σ H') := rfl
end
/-- the slots' wish of a try .. except C as n -/
def tTryAs (K : PySem.W.Frag) (c : Value) (i : Nat) (ts : Addr → Value → Option Addr → TS) (Wout : WX) (tb : WX → TS) : TS := fun D σ H => tb (wAs K c i ts Wout D) D σ H
def tTryOnly (K : PySem.W.Frag) (c : Value) (ts : Addr → Value → Option Addr → TS) (Wout : WX) (tb : WX → TS) : TS := fun D σ H => tb (wOnly K c ts Wout D) D σ H
section
variable {X : Cx} {x n : Str} {c : Value} {i : Nat} {body suite : List Stmt} {b₀ : Stmt} {np pos pos' : Pos} {tb : WX → TS} {ts : Addr → Value → Option Addr → TS} {Wout : WX}
theorem ps_tryAs (hs : X.stack = X.env :: X.outer) (hf : X.env.frame = some X.env.locals) (hN : X.N.Nodup) (hi : X.N[i]? = some n) (hln : X.env.kindOf n = some .local) (hc : Names X x c) (tk : Takes X Wout)
    (hb : ∀ (W : WX) (pn : List (Addr × Obj)) (xe : Value → Shared → Prop), Takes (X.tr pn xe) W → PassesOwn (model X.prog X.w) X.A X.env xe → PSs (X.tr pn xe) body (tb W))
    (hsu : ∀ (a : Addr) (oe : Obj) (cls : Value) (d : Option Addr) (pn : List (Addr × Obj)), Zc cls d oe → (∃ vs, oe.data = .fields vs) → PSs (X.suite a ((a, oe) :: pn)) (b₀ :: suite) (ts a cls d)) :
    PS X (.Try body [.ExceptHandler (some (.Name x np)) (some n) (b₀ :: suite) pos'] [] [] pos) (tTryAs X.K c i ts Wout tb) := ps_try_as hs hf hN hi hln hc tk hb hsu
theorem ps_tryOnly (hs : X.stack = X.env :: X.outer) (hf : X.env.frame = some X.env.locals) (hc : Names X x c) (tk : Takes X Wout)
    (hb : ∀ (W : WX) (pn : List (Addr × Obj)) (xe : Value → Shared → Prop), Takes (X.tr pn xe) W → PassesOwn (model X.prog X.w) X.A X.env xe → PSs (X.tr pn xe) body (tb W))
    (hsu : ∀ (a : Addr) (oe : Obj) (cls : Value) (d : Option Addr) (pn : List (Addr × Obj)), Zc cls d oe → (∃ vs, oe.data = .fields vs) → PSs (X.suite a ((a, oe) :: pn)) (b₀ :: suite) (ts a cls d)) :
    PS X (.Try body [.ExceptHandler (some (.Name x np)) none (b₀ :: suite) pos'] [] [] pos) (tTryOnly X.K c ts Wout tb) := ps_try_only hs hf hc tk hb hsu
end
/-- err.f in the suite -/
def tXfU (K : PySem.W.Frag) (a : Addr) (cls : Value) (d : Option Addr) (f : Str) (te : TE) : TE := fun σ H Q => ∃ C, cls = .ref C ∧ XfC K C ∧ PySem.W.findIn K (.ref C) f = some none ∧ te σ H fun x H1 => x = .ref a ∧ ∃ (dd : Addr) (fs : List (Str × V)) (v : V), d = some dd ∧ H1 dd = some (.xd fs) ∧ fs.lookup f = some v ∧ Q v H1
theorem pe_xfU {X : Cx} {a : Addr} {oe : Obj} {cls : Value} {d : Option Addr} {pn : List (Addr × Obj)} {e : Expr} {te : TE} {pos : Pos} {n : Str} (hz : Zc cls d oe) (hf : ∃ vs, oe.data = .fields vs) (he : PE (X.suite a ((a, oe) :: pn)) e te)
    (hb : attributeBase e n X.env (eval e X.env) = eval e X.env := by rfl) : PE (X.suite a ((a, oe) :: pn)) (.Attribute e n pos) (tXfU X.K a cls d n te) := by
  refine ⟨fun pins s σ H Q I ⟨C, ec, T, hno, h⟩ => ?_⟩
  refine (pe_xf T hno hz hf (peCl he) hb).run pins s σ H Q I ⟨_, h, fun x H1 ⟨e1, dd, fs, v, e2, e3, e4, q⟩ => ⟨e1, ec, dd, fs, v, e2, e3, e4, q⟩⟩
/-- isinstance(err, C) in the suite -/
def rIsX (K : PySem.W.Frag) (a : Addr) (cls : Value) (d : Option Addr) : List V → Hp → VK → Prop := fun xs H Q => match xs with
  | [.ref a', .ref C'] => a' = a ∧ ∃ D dd fs, cls = .ref D ∧ d = some dd ∧ H dd = some (.xd fs) ∧ ExcC K D ∧ (match PySem.W.kitOne K (.ref D) (.ref C') with | some b => Q (.bl b) H | none => False)
  | [.ref a', .ty T] => a' = a ∧ ∃ D dd fs, cls = .ref D ∧ d = some dd ∧ H dd = some (.xd fs) ∧ ExcC K D ∧ (match PySem.W.kitOne K (.ref D) (.type T) with | some b => Q (.bl b) H | none => False)
  | _ => False
theorem c_isX {X : Cx} {a : Addr} {oe : Obj} {cls : Value} {d : Option Addr} {pn : List (Addr × Obj)} (hz : Zc cls d oe) (hf : ∃ vs, oe.data = .fields vs) : CallR (X.suite a ((a, oe) :: pn)) (.builtin "isinstance") (rIsX X.K a cls d) := by
  intro pins s σ H xs us Q I r h
  have key : ∀ (D dd : Addr) (fs : List (Str × V)) (cv : Value) (b : Bool), cls = .ref D → d = some dd → H dd = some (.xd fs) → ExcC X.K D → PySem.W.kitOne X.K (.ref D) cv = some b → Q (.bl b) H →
      wpAny (model X.prog X.w) (X.A.mark (some (.ref a))) (call (.builtin "isinstance") [.ref a, cv]) (EP (X.suite a ((a, oe) :: pn)) pins σ Q) (fun _ _ => False) s := by
    intro D dd fs cv b e1 e2 e3 C e4 q
    subst e1 e2
    obtain ⟨hget, _⟩ := I.pin (a, oe) (List.mem_append.mpr (.inl List.mem_cons_self))
    obtain ⟨vs, hv⟩ := hf
    have hx : ObjOk X.prog X.w H s.heap dd (.xd fs) := I.hok dd _ e3
    obtain ⟨mA, ⟨od, es, ep, hod, _⟩, _⟩ := hx
    have J : PySem.W.InstAt s.heap a oe D (some od) := by
      obtain ⟨oc, odd, oda, osl⟩ := oe
      obtain ⟨h1, h2⟩ := hz
      dsimp only at h1 h2 hv
      subst h1 h2 hv
      exact ⟨hget, rfl, rfl, hod⟩
    have hcl : (PySem.W.clsIn X.K D).isSome = true := by
      have z := C.hd
      unfold PySem.W.hasDictIn at z
      cases e : PySem.W.clsIn X.K D with
      | none => rw [e] at z; cases z
      | some cd => rfl
    exact PySem.W.kia_one (PySem.W.kitx_exc hcl C.hg C.hk C.hs C.ha C.hn C.ht C.hm) I.kIn J e4 (fun z => nomatch z) fun tk => ⟨.bl b, H, I.kept (t' := tk) fun _ _ z => z, rfl, q⟩
  unfold rIsX at h
  split at h
  · obtain ⟨rfl, D, dd, fs, e1, e2, e3, C, q⟩ := h
    split at q
    · obtain ⟨u1, u2, rfl, r1, r2⟩ := vals2 r
      cases r1
      cases r2
      exact key D dd fs _ _ e1 e2 e3 C ‹_› q
    · exact q.elim
  · obtain ⟨rfl, D, dd, fs, e1, e2, e3, C, q⟩ := h
    split at q
    · obtain ⟨u1, u2, rfl, r1, r2⟩ := vals2 r
      cases r1
      cases r2
      exact key D dd fs _ _ e1 e2 e3 C ‹_› q
    · exact q.elim
  · exact h.elim
/-- nothing is let out -/
abbrev W0 : WX := fun _ _ _ _ => False
/-! ### the same data -/
theorem rNe_same {K : PySem.W.Frag} {H : Hp} {Q : VK} {x y : V} (d : PyData) (hr : (isRef x || isRef y) = true) (hx : Dp K H x d) (hy : Dp K H y d) (sh : SeqAt.shaped d = true) (q : Q (.bl false) H) : rNeU K x y H Q := by
  unfold rNeU
  rw [if_pos hr]
  refine ⟨d, d, hx, hy, sh, sh, ?_⟩
  rw [SeqAt.eqv_refl d (SeqAt.canLay_of_shaped sh)]
  exact q
theorem rEq_same {K : PySem.W.Frag} {H : Hp} {Q : VK} {x y : V} (d : PyData) (hr : (isRef x || isRef y) = true) (hx : Dp K H x d) (hy : Dp K H y d) (sh : SeqAt.shaped d = true) (q : Q (.bl true) H) : rEqU K x y H Q := by
  unfold rEqU
  rw [if_pos hr]
  refine ⟨d, d, hx, hy, sh, sh, ?_⟩
  rw [SeqAt.eqv_refl d (SeqAt.canLay_of_shaped sh)]
  exact q
theorem rIsX_i {K : PySem.W.Frag} {a C C' d : Addr} {fs : List (Str × V)} {b : Bool} {H : Hp} {Q : VK} (hd : H d = some (.xd fs)) (hx : ExcC K C) (hk : PySem.W.kitOne K (.ref C) (.ref C') = some b) (q : Q (.bl b) H) : rIsX K a (.ref C) (some d) [.ref a, .ref C'] H Q := by
  refine ⟨rfl, C, d, fs, rfl, rfl, hd, hx, ?_⟩
  rw [hk]
  exact q
/-! ### rows of octets -/
theorem cutV_map {α : Type} (f : α → V) (xs : List α) (lo hi : Option Int) : ∃ ys : List α, cutV (xs.map f) lo hi = ys.map f ∧ ys.length ≤ xs.length ∧ ∀ y ∈ ys, y ∈ xs := by
  refine ⟨(xs.drop (HT.sIx xs.length 0 lo)).take (HT.sIx xs.length xs.length hi - HT.sIx xs.length 0 lo), ?_, ?_, ?_⟩
  · unfold cutV
    rw [List.map_take, List.map_drop, List.length_map]
  · rw [List.length_take, List.length_drop]; omega
  · intro y hy
    exact List.mem_of_mem_drop (List.mem_of_mem_take hy)
theorem cut_octs (ns : List Nat) (lo hi : Option Int) : ∃ ms : List Nat, cutV (octs ns) lo hi = octs ms ∧ ms.length ≤ ns.length ∧ ∀ m ∈ ms, m ∈ ns := cutV_map _ ns lo hi
theorem octs_get {ns : List Nat} {i : Nat} {n : Nat} (h : ns[i]? = some n) : atI (octs ns) (i : Int) = some (.int n) := by
  have hi : i < ns.length := (List.getElem?_eq_some_iff.mp h).1
  unfold atI ixN
  rw [if_pos (by omega), octs_len, if_pos (by omega)]
  unfold octs
  simp [h]
theorem oat {ns : List Nat} {j : Int} (h0 : 0 ≤ j) (h : j < ns.length) : ∃ n : Nat, ns[j.toNat]? = some n ∧ atI (octs ns) j = some (.int n) := by
  refine ⟨ns[j.toNat]'(by omega), by simp, ?_⟩
  have := octs_get (ns := ns) (i := j.toNat) (n := ns[j.toNat]'(by omega)) (by simp)
  rw [show ((j.toNat : Nat) : Int) = j by omega] at this
  exact this
section
variable {K : PySem.W.Frag} {a : Addr} {g : TG} {tt : TT} {te : TE} {vs : List Nat} {σ : L2.St} {H1 : Hp} {Q : VK}
theorem lcO {ns : List Nat} (f : Nat → Nat) (hx : ∀ H', Same H1 H' → lstv K H' a = some (octs ns)) (hz : ns.length ≤ 10000000)
    (step : ∀ n ∈ ns, ∀ H', Same H1 H' → ∀ (Qy : VK) (Qn : Hp → Prop), (∀ H'', Same H' H'' → Qy (.int (f n)) H'') → LTurn g tt te vs σ (.int n) H' Qy Qn)
    (hq : ∀ p H', H1 p = none → Same H1 H' → H' p = some (.lst (octs (ns.map f))) → Q (.ref p) H') : LcGo (Itl K a) g tt te vs σ H1 Q := by
  refine lcL (xs := octs ns) (fun v => match v with | .int i => some (.int (f i.toNat)) | _ => none) hx (by rw [octs_len]; exact sz _ hz) ?_ ?_
  · intro x hx H' s Qy Qn hy hn
    obtain ⟨n, hn2, rfl⟩ := List.mem_map.mp hx
    exact step n hn2 H' s Qy Qn fun H'' s2 => hy _ (by simp) H'' s2
  · intro p H' h0 s e
    refine hq p H' h0 s ?_
    rw [e]
    congr 2
    unfold octs
    rw [List.filterMap_map, List.map_map]
    rw [← List.filterMap_eq_map]
    congr 1
end
end R

/-! numbers as octets: plain law -/
namespace N9
def dig (r : Nat) : List Nat := if h : r < 128 then [r] else (128 + r % 128) :: dig (r / 128)
termination_by r
decreasing_by omega
inductive Res
  | ok (n : Int) (p : Nat)
  | tr (l : Nat)
  | bad (a : Nat)
def unz (r : Nat) : Int := if r % 2 = 1 then -(((r + 1) / 2 : Nat) : Int) else ((r / 2 : Nat) : Int)
def zig (n : Int) : Nat := if 0 ≤ n then (2 * n).toNat else (-2 * n - 1).toNat
def rd (ns : List Nat) (a : Nat) : Nat → Nat → Nat → Res
  | 0, _, _ => .bad a
  | f + 1, k, rest => match ns[a + k]? with
    | none => .tr ns.length
    | some o => if o < 128 then (if (o = 0 ∧ 0 < k) ∨ 2 ^ 64 ≤ rest + o % 128 * 2 ^ (7 * k) then .bad a else .ok (unz (rest + o % 128 * 2 ^ (7 * k))) (a + k + 1)) else rd ns a f (k + 1) (rest + o % 128 * 2 ^ (7 * k))
def read (ns : List Nat) (a : Nat) : Res := rd ns a 10 0 0
theorem unz_zig (n : Int) : unz (zig n) = n := by
  unfold unz zig
  split <;> split <;> omega
theorem zig_lt (n : Int) (h1 : -(2 ^ 63) ≤ n) (h2 : n < 2 ^ 63) : zig n < 2 ^ 64 := by
  unfold zig
  split <;> omega
theorem dig_lt {r : Nat} (h : r < 128) : dig r = [r] := by rw [dig, dif_pos h]
theorem dig_ge {r : Nat} (h : 128 ≤ r) : dig r = (128 + r % 128) :: dig (r / 128) := by rw [dig, dif_neg (by omega)]
theorem dig_len : ∀ (m r : Nat), r < 128 ^ (m + 1) → (dig r).length ≤ m + 1
  | 0, r, h => by rw [dig_lt (by simpa using h)]; simp
  | m + 1, r, h => by
    by_cases h2 : r < 128
    · rw [dig_lt h2]; simp
    · rw [dig_ge (by omega)]
      have : r / 128 < 128 ^ (m + 1) := by
        rw [Nat.div_lt_iff_lt_mul (by decide)]
        rw [Nat.pow_succ] at h
        exact h
      have := dig_len m _ this
      simp only [List.length_cons]
      omega
theorem dig_pos (r : Nat) : 1 ≤ (dig r).length := by
  by_cases h : r < 128
  · rw [dig_lt h]; simp
  · rw [dig_ge (by omega)]; simp
theorem dig_len10 {r : Nat} (h : r < 2 ^ 64) : (dig r).length ≤ 10 := dig_len 9 r (Nat.lt_of_lt_of_le h (by decide))
theorem dig_oct : ∀ (m r : Nat), r ≤ m → ∀ n ∈ dig r, n < 256
  | m, r, hm, n, hn => by
    by_cases h : r < 128
    · rw [dig_lt h] at hn; simp at hn; omega
    · rw [dig_ge (by omega)] at hn
      rcases List.mem_cons.mp hn with e | e
      · omega
      · exact dig_oct (r / 128) (r / 128) (Nat.le_refl _) n e
termination_by m r => r
decreasing_by omega
/-- the last octet is below 128 -/
theorem dig_last : ∀ (r : Nat), ∃ ys y, dig r = ys ++ [y] ∧ y < 128
  | r => by
    by_cases h : r < 128
    · exact ⟨[], r, by rw [dig_lt h]; rfl, h⟩
    · obtain ⟨ys, y, e, hy⟩ := dig_last (r / 128)
      exact ⟨(128 + r % 128) :: ys, y, by rw [dig_ge (by omega), e]; rfl, hy⟩
termination_by r => r
decreasing_by omega
theorem rd_dig (ns c : List Nat) (a : Nat) : ∀ (r : Nat) (p : List Nat) (k f rest : Nat), ns = p ++ dig r ++ c → p.length = a + k → (dig r).length ≤ f → rest + r * 2 ^ (7 * k) < 2 ^ 64 → (k = 0 ∨ 0 < r) →
    rd ns a f k rest = .ok (unz (rest + r * 2 ^ (7 * k))) (a + k + (dig r).length)
  | r, p, k, 0, rest, hns, hp, hf, hb, hk => by have := dig_pos r; omega
  | r, p, k, f + 1, rest, hns, hp, hf, hb, hk => by
    by_cases h : r < 128
    · have e : ns[a + k]? = some r := by rw [hns, dig_lt h, ← hp]; simp
      rw [rd, e]
      simp only
      rw [if_pos h, Nat.mod_eq_of_lt h, if_neg (by omega), dig_lt h]
      rfl
    · have e : ns[a + k]? = some (128 + r % 128) := by rw [hns, dig_ge (by omega), ← hp]; simp
      rw [rd, e]
      simp only
      rw [if_neg (by omega)]
      have e2 : (128 + r % 128) % 128 = r % 128 := by omega
      have e3 : rest + r % 128 * 2 ^ (7 * k) + r / 128 * 2 ^ (7 * (k + 1)) = rest + r * 2 ^ (7 * k) := by
        rw [show 7 * (k + 1) = 7 * k + 7 by omega, Nat.pow_add]
        have := Nat.div_add_mod r 128
        have h7 : (2:Nat) ^ 7 = 128 := by decide
        rw [h7]
        generalize 2 ^ (7 * k) = P at *
        have : r * P = (128 * (r / 128) + r % 128) * P := by rw [this]
        rw [this, Nat.add_mul, Nat.add_assoc]
        congr 1
        rw [Nat.add_comm]
        congr 1
        rw [Nat.mul_comm P 128, ← Nat.mul_assoc, Nat.mul_comm (r / 128) 128]
      rw [e2, rd_dig ns c a (r / 128) (p ++ [128 + r % 128]) (k + 1) f _ (by rw [hns, dig_ge (by omega : 128 ≤ r)]; simp) (by simp; omega) (by rw [dig_ge (by omega : 128 ≤ r)] at hf; simp at hf; omega) (by rw [e3]; exact hb) (.inr (by omega)), e3, dig_ge (by omega : 128 ≤ r)]
      simp only [List.length_cons]
      congr 1
      omega
termination_by r => r
decreasing_by omega
theorem read_zig (b c : List Nat) (n : Int) (h1 : -(2 ^ 63) ≤ n) (h2 : n < 2 ^ 63) : read (b ++ dig (zig n) ++ c) b.length = .ok n (b.length + (dig (zig n)).length) := by
  unfold read
  have z := zig_lt n h1 h2
  rw [rd_dig _ c b.length (zig n) b 0 10 0 rfl rfl (dig_len10 z) (by simpa using z) (.inl rfl)]
  simp [unz_zig]
theorem and_m1 (x : Int) : PySem.Builtin.bitAnd x (-1) = x := by
  unfold PySem.Builtin.bitAnd
  have e : (PySem.Builtin.bitNot (-1)).toNat = 0 := by decide
  by_cases h : 0 ≤ x
  · simp only [decide_eq_true h, show decide ((0:Int) ≤ -1) = false by decide, e, Nat.and_zero]
    omega
  · simp only [decide_eq_false h, show decide ((0:Int) ≤ -1) = false by decide, e, Nat.or_zero]
    unfold PySem.Builtin.bitNot
    omega
theorem xor_m1 (x : Int) : PySem.Builtin.bitXor x (-1) = -x - 1 := by
  rw [PyProof.Rows.bitXor_and, and_m1]
  omega
theorem unz_xor (r : Nat) : PySem.Builtin.bitXor ((r : Int) / 2) (-(PySem.Builtin.bitAnd (r : Int) 1)) = unz r := by
  rw [PyProof.Rows.bitAnd_m1]
  unfold unz
  by_cases h : r % 2 = 1
  · rw [if_pos h, show (r : Int) % 2 = 1 by omega, xor_m1]
    omega
  · rw [if_neg h, show -((r : Int) % 2) = 0 by omega, PyProof.Rows.bitXor_zero]
    omega
end N9

namespace My
open PySem PySem.Spec PyProof.Rows L2 R
/-! ### the text by places -/
def top (i : Nat) : Stmt := PySem.Challenge.pw_formstripes_k09_numbers_as_octets.main.body.getD i (.Pass ⟨0, 0, 0, 0⟩)
abbrev s_write_number : Stmt := top 7
abbrev N_write_number : List Str := ["n", "rest", "octets"]
theorem sc_write_number : FnScope N_write_number ["n"] (defScope s_write_number) := ⟨rfl, rfl, rfl, by decide +kernel, rfl, by decide +kernel, by decide +kernel⟩
abbrev s_read_number : Stmt := top 8
abbrev N_read_number : List Str := ["octets", "at", "rest", "k", "octet"]
theorem sc_read_number : FnScope N_read_number ["octets", "at"] (defScope s_read_number) := ⟨rfl, rfl, rfl, by decide +kernel, rfl, by decide +kernel, by decide +kernel⟩
abbrev s__law_draw : Stmt := top 10
abbrev N__law_draw : List Str := ["cell", "many", "bound", "numbers", "k", "seed", "mixed"]
theorem sc__law_draw : FnScope N__law_draw ["cell", "many", "bound"] (defScope s__law_draw) := ⟨rfl, rfl, rfl, by decide +kernel, rfl, by decide +kernel, by decide +kernel⟩
abbrev s__law_is_integer : Stmt := top 11
abbrev N__law_is_integer : List Str := ["actual"]
theorem sc__law_is_integer : FnScope N__law_is_integer ["actual"] (defScope s__law_is_integer) := ⟨rfl, rfl, rfl, by decide +kernel, rfl, by decide +kernel, by decide +kernel⟩
abbrev s__law_same : Stmt := top 12
abbrev N__law_same : List Str := ["actual", "expected", "k"]
theorem sc__law_same : FnScope N__law_same ["actual", "expected"] (defScope s__law_same) := ⟨rfl, rfl, rfl, by decide +kernel, rfl, by decide +kernel, by decide +kernel⟩
abbrev s__law_octets_of : Stmt := top 13
abbrev N__law_octets_of : List Str := ["n", "rest", "octets", "k"]
theorem sc__law_octets_of : FnScope N__law_octets_of ["n"] (defScope s__law_octets_of) := ⟨rfl, rfl, rfl, by decide +kernel, rfl, by decide +kernel, by decide +kernel⟩
abbrev s__law_due : Stmt := top 14
abbrev N__law_due : List Str := ["octets", "at", "rest", "k"]
theorem sc__law_due : FnScope N__law_due ["octets", "at"] (defScope s__law_due) := ⟨rfl, rfl, rfl, by decide +kernel, rfl, by decide +kernel, by decide +kernel⟩
abbrev s__law_told : Stmt := top 15
abbrev N__law_told : List Str := ["octets", "at", "error", "names"]
theorem sc__law_told : FnScope N__law_told ["octets", "at"] (defScope s__law_told) := ⟨rfl, rfl, rfl, by decide +kernel, rfl, by decide +kernel, by decide +kernel⟩
abbrev s__law_number : Stmt := top 16
abbrev N__law_number : List Str := ["numbers", "size"]
theorem sc__law_number : FnScope N__law_number ["numbers"] (defScope s__law_number) := ⟨rfl, rfl, rfl, by decide +kernel, rfl, by decide +kernel, by decide +kernel⟩
abbrev s_law : Stmt := top 17
abbrev N_law : List Str := ["script", "cell", "numbers", "n", "octets", "before", "behind", "told", "data", "at", "handed", "number"]
theorem sc_law : FnScope N_law ["script"] (defScope s_law) := ⟨rfl, rfl, rfl, by decide +kernel, rfl, by decide +kernel, by decide +kernel⟩
/-- the written part, the classes -/
abbrev s_FormstripesError___init__ : Stmt := inClass (top 1) 0
abbrev s_InvalidData___init__ : Stmt := inClass (top 4) 0
abbrev s_InvalidText___init__ : Stmt := inClass (top 3) 0
abbrev s_Truncated___init__ : Stmt := inClass (top 2) 0
structure GG where
  K : PySem.W.Frag
  c_FormstripesError : Addr
  c_InvalidData : Addr
  c_InvalidText : Addr
  c_Truncated : Addr
structure Top (P : Program) (w : World) (G : GG) (mg : Str → Option Value) (base : Heap) : Prop where
  triv : True
  n_bool : mg "bool" = none
  n_int : mg "int" = none
  n_isinstance : mg "isinstance" = none
  n_len : mg "len" = none
  n_list : mg "list" = none
  n_max : mg "max" = none
  n_min : mg "min" = none
  n_range : mg "range" = none
  c_LONGEST_NUMBER : Cst mg "LONGEST_NUMBER" (.int 10)
  cl_FormstripesError : mg "FormstripesError" = some (.ref G.c_FormstripesError)
  cl_InvalidData : mg "InvalidData" = some (.ref G.c_InvalidData)
  cl_InvalidText : mg "InvalidText" = some (.ref G.c_InvalidText)
  cl_Truncated : mg "Truncated" = some (.ref G.c_Truncated)
  e_InvalidData : KinE P w G.K mg base "InvalidData" G.c_InvalidData G.c_FormstripesError "InvalidData"
  e_Truncated : KinE P w G.K mg base "Truncated" G.c_Truncated G.c_FormstripesError "Truncated"
  xf_InvalidData : XfC G.K G.c_InvalidData
  xf_Truncated : XfC G.K G.c_Truncated
  xc_InvalidData : ExcC G.K G.c_InvalidData
  xc_Truncated : ExcC G.K G.c_Truncated
  np_InvalidData : PySem.W.findIn G.K (.ref G.c_InvalidData) "place" = some none
  np_Truncated : PySem.W.findIn G.K (.ref G.c_Truncated) "place" = some none
  nn_InvalidData : PySem.W.findIn G.K (.ref G.c_InvalidData) "name" = some none
  nn_Truncated : PySem.W.findIn G.K (.ref G.c_Truncated) "name" = some none
  em_InvalidData_FormstripesError : PySem.W.exmOne G.K (.ref G.c_InvalidData) (.ref G.c_FormstripesError) = some true
  ko_InvalidData_FormstripesError : PySem.W.kitOne G.K (.ref G.c_InvalidData) (.ref G.c_FormstripesError) = some true
  em_InvalidData_InvalidData : PySem.W.exmOne G.K (.ref G.c_InvalidData) (.ref G.c_InvalidData) = some true
  ko_InvalidData_InvalidData : PySem.W.kitOne G.K (.ref G.c_InvalidData) (.ref G.c_InvalidData) = some true
  em_InvalidData_InvalidText : PySem.W.exmOne G.K (.ref G.c_InvalidData) (.ref G.c_InvalidText) = some false
  ko_InvalidData_InvalidText : PySem.W.kitOne G.K (.ref G.c_InvalidData) (.ref G.c_InvalidText) = some false
  em_InvalidData_Truncated : PySem.W.exmOne G.K (.ref G.c_InvalidData) (.ref G.c_Truncated) = some false
  ko_InvalidData_Truncated : PySem.W.kitOne G.K (.ref G.c_InvalidData) (.ref G.c_Truncated) = some false
  em_Truncated_FormstripesError : PySem.W.exmOne G.K (.ref G.c_Truncated) (.ref G.c_FormstripesError) = some true
  ko_Truncated_FormstripesError : PySem.W.kitOne G.K (.ref G.c_Truncated) (.ref G.c_FormstripesError) = some true
  em_Truncated_InvalidData : PySem.W.exmOne G.K (.ref G.c_Truncated) (.ref G.c_InvalidData) = some false
  ko_Truncated_InvalidData : PySem.W.kitOne G.K (.ref G.c_Truncated) (.ref G.c_InvalidData) = some false
  em_Truncated_InvalidText : PySem.W.exmOne G.K (.ref G.c_Truncated) (.ref G.c_InvalidText) = some false
  ko_Truncated_InvalidText : PySem.W.kitOne G.K (.ref G.c_Truncated) (.ref G.c_InvalidText) = some false
  em_Truncated_Truncated : PySem.W.exmOne G.K (.ref G.c_Truncated) (.ref G.c_Truncated) = some true
  ko_Truncated_Truncated : PySem.W.kitOne G.K (.ref G.c_Truncated) (.ref G.c_Truncated) = some true
/-! ### promises -/
open N9
/-- a new list of octets -/
def NL (H : Hp) (Q : VK) (ns : List Nat) : Prop := ∀ p H', Same H H' → H' p = some (.lst (octs ns)) → Q (.ref p) H'
def resV : Res → List V
  | .ok n p => [.int n, .int p]
  | .tr l => [.str "Truncated", .int l]
  | .bad a => [.str "InvalidData", .int a]
def NT (H : Hp) (Q : VK) (r : Res) : Prop := ∀ q H', Same H H' → H' q = some (.tup (resV r)) → Q (.ref q) H'
def sp_write_number (G : GG) : Sp := fun vs H Q _ => ∃ n : Int, vs = [.int n] ∧ -(2 ^ 63) ≤ n ∧ n < 2 ^ 63 ∧ NL H Q (dig (zig n))
abbrev sp__law_octets_of := sp_write_number
noncomputable def sp_read_number (G : GG) : Sp := fun vs H Q E => ∃ (a : Addr) (ns : List Nat) (at_ : Nat), vs = [.ref a, .int at_] ∧ lstv G.K H a = some (octs ns) ∧ (∀ n ∈ ns, n < 256) ∧ ns.length ≤ 100 ∧ at_ ≤ 100 ∧ match read ns at_ with
  | .ok n p => NT H Q (.ok n p)
  | .tr l => ∀ d H', Same H H' → H' d = some (.xd [("name", .str "Truncated"), ("place", .int l)]) → E (.ref G.c_Truncated) (some d) H'
  | .bad l => ∀ d H', Same H H' → H' d = some (.xd [("name", .str "InvalidData"), ("place", .int l)]) → E (.ref G.c_InvalidData) (some d) H'
noncomputable def sp__law_due (G : GG) : Sp := fun vs H Q _ => ∃ (a : Addr) (ns : List Nat) (at_ : Nat), vs = [.ref a, .int at_] ∧ lstv G.K H a = some (octs ns) ∧ (∀ n ∈ ns, n < 256) ∧ ns.length ≤ 100 ∧ at_ ≤ 100 ∧ NT H Q (read ns at_)
noncomputable abbrev sp__law_told := sp__law_due
def sp__law_is_integer (_ : GG) : Sp := fun vs H Q _ => ∃ i, vs = [.int i] ∧ Q (.bl true) H
noncomputable def sp__law_same (G : GG) : Sp := fun vs H Q _ => ∃ (a b : Addr) (ns : List Nat), vs = [.ref a, .ref b] ∧ ns.length ≤ 100 ∧ H a = some (.lst (octs ns)) ∧ H b = some (.lst (octs ns)) ∧ Q (.bl true) H
def sp__law_draw (_ : GG) : Sp := fun vs H Q _ => ∃ (cell b : Int), vs = [.int cell, .int 20, .int b] ∧ b = 1048576 ∧ ∀ ns : List Nat, ns.length = 20 → (∀ n ∈ ns, n < 1048576) → NL H Q ns
noncomputable def sp__law_number (G : GG) : Sp := fun vs H Q _ => ∃ (a : Addr) (ns : List Nat), vs = [.ref a] ∧ H a = some (.lst (octs ns)) ∧ ns.length = 20 ∧ (∀ n ∈ ns, n < 1048576) ∧ ∀ (n : Int) (H' : Hp), -(2 ^ 63) ≤ n → n < 2 ^ 63 → Same H H' → Q (.int n) H'
noncomputable abbrev sp_law : GG → Sp := fun G => spLaw G.K

noncomputable def t_write_number_1 (G : GG) : TS := tAp G.K (tSeq (tDrop (tML G.K rApp (tVar 2) (tCons (tOp rAddU (tC (.int 128)) (tOp rMod (tVar 1) (tC (.int 128)))) tNil)))
    (tAug 1 (tC (.int 7)) rShr))
noncomputable def t_write_number_2 (G : GG) : TS := tAp G.K (tSeq (tDrop (tML G.K rApp (tVar 2) (tCons (tVar 1) tNil)))
    (tRet (tVar 2)))
noncomputable def t_write_number (G : GG) : TS := (tSeq (tAsg (tIf (tTest (tOp rGeU (tVar 0) (tC (.int 0)))) (tOp rMulU (tC (.int 2)) (tVar 0)) (tOp rSubI (tOp rMulU (tUn (mU fun i => .int (-i)) (tC (.int 2))) (tVar 0)) (tC (.int 1)))) (gName 1))
    (tSeq (tAsg (tLst tNil) (gName 2))
    (tSeq (tWhile (tTest (tOp rGeU (tVar 1) (tC (.int 128)))) (t_write_number_1 G))
    (t_write_number_2 G))))
theorem dv_write_number {P : Program} {w : World} {G : GG} {mg : Str → Option Value} {base : Heap} {f : Addr} {cdv : Value} {A : Around} {outer : List Env} {s : Shared} {H : Hp} {E : XK} (T : Top P w G mg base) (hr : Room 0 (A.deeper (envOfC "write_number" (defScope s_write_number) s.heap.objs.size f cdv))) :
    PSs (cxOf CX0 P w G.K mg base N_write_number "write_number" (defScope s_write_number) f cdv A outer s H E).nox (defBody s_write_number) (t_write_number G) :=
  (pss_cons (ps_set (i := 1) sc_write_number.nd rfl (Or.inl rfl) (pe_ifExp (pt_cmpR u_ge (pv 0) pe_int rfl) (pe_op u_mul pe_int (pv 0)) (pe_op u_sub (pe_op u_mul (pe_un u_neg pe_int) (pv 0)) pe_int)))
    (pss_cons (ps_set (i := 2) sc_write_number.nd rfl (Or.inl rfl) (pe_lst pa_nil))
    (pss_cons (ps_while PassesOwn.never (pt_cmpR u_ge (pv 1) pe_int rfl) (pssAp (pss_cons (ps_expr (pe_append (pv 2) (pa_cons (pe_op u_add pe_int (pe_op u_mod (pv 1) pe_int)) pa_nil)))
    (pss_one (ps_aug (i := 1) sc_write_number.nd rfl (Or.inl rfl) pe_int i_shr)))))
    (pssAp (pss_cons (ps_expr (pe_append (pv 2) (pa_cons (pv 1) pa_nil)))
    (pss_one (ps_ret (pv 2))))))))
noncomputable def t_read_number_1 (G : GG) (W : WX) : TS := tAp G.K (tRet (tTup (tCons (tOp rXor (tOp rShr (tVar 2) (tC (.int 1))) (tUn (mU fun i => .int (-i)) (tOp rAndB (tVar 2) (tC (.int 1))))) (tCons (tOp rAddU (tOp rAddU (tVar 1) (tVar 3)) (tC (.int 1))) tNil))))
noncomputable def t_read_number_2 (G : GG) (W : WX) : TS := tAp G.K (tSeq (tIfS (tOr (tAnd (tTest (tOp (rEqU G.K) (tVar 4) (tC (.int 0)))) (tTest (tOp rGtU (tVar 3) (tC (.int 0))))) (tTest (tOp rGeU (tVar 2) (tOp rShl (tC (.int 1)) (tC (.int 64)))))) (tRs W (tMkF G.c_InvalidData "InvalidData" (tVar 1))) tNext)
    (t_read_number_1 G W))
noncomputable def t_read_number_3 (G : GG) (W : WX) : TS := tAp G.K (tSeq (tAsg (tOp (rIxU G.K) (tVar 0) (tOp rAddU (tVar 1) (tVar 3))) (gName 4))
    (tSeq (tAug 2 (tOp rShl (tOp rAndB (tVar 4) (tC (.int 127))) (tOp rMulU (tC (.int 7)) (tVar 3))) rIaddU)
    (tIfS (tTest (tOp rLtU (tVar 4) (tC (.int 128)))) (t_read_number_2 G W) tNext)))
noncomputable def t_read_number_4 (G : GG) (W : WX) : TS := tAp G.K (tSeq (tIfS (tTest (tOp rGeU (tOp rAddU (tVar 1) (tVar 3)) (tCB (rLenU G.K) (tCons (tVar 0) tNil)))) (tRs W (tMkF G.c_Truncated "Truncated" (tCB (rLenU G.K) (tCons (tVar 0) tNil)))) tNext)
    (t_read_number_3 G W))
noncomputable def t_read_number_5 (G : GG) (W : WX) : TS := tAp G.K (tRs W (tMkF G.c_InvalidData "InvalidData" (tVar 1)))
noncomputable def t_read_number (G : GG) (W : WX) : TS := (tSeq (tAsg (tC (.int 0)) (gName 2))
    (tSeq (tForU (iRng1 (tCons (tC (.int 10)) tNil)) (gName 3) (t_read_number_4 G W))
    (t_read_number_5 G W)))
theorem dv_read_number {P : Program} {w : World} {G : GG} {mg : Str → Option Value} {base : Heap} {f : Addr} {cdv : Value} {A : Around} {outer : List Env} {s : Shared} {H : Hp} {E : XK} (T : Top P w G mg base) (hr : Room 3 (A.deeper (envOfC "read_number" (defScope s_read_number) s.heap.objs.size f cdv))) :
    PSs (cxOf (L2.CX P w) P w G.K mg base N_read_number "read_number" (defScope s_read_number) f cdv A outer s H E) (defBody s_read_number) (t_read_number G (fun cls d _ H => E cls d H)) :=
  (pss_cons (ps_set (i := 2) sc_read_number.nd rfl (Or.inl rfl) pe_int)
    (pss_cons (ps_for (passes_of rfl) rfl (pi_range1 rfl T.n_range (pa_cons (pe_cst T.c_LONGEST_NUMBER rfl) pa_nil)) (pg_name (i := 3) sc_read_number.nd rfl (Or.inl rfl)) (pssAp (pss_cons (ps_if (pt_cmpR u_ge (pe_op u_add (pv 1) (pv 3)) (pe_callB c_len rfl T.n_len bt_len (pa_cons (pv 0) pa_nil)) rfl) (pss_one (ps_rs rfl (takes_of rfl rfl rfl rfl) (pmk_kin T.e_Truncated (hr.mono (by decide)) rfl (pe_callB c_len rfl T.n_len bt_len (pa_cons (pv 0) pa_nil))))) pss_nil)
    (pssAp (pss_cons (ps_set (i := 4) sc_read_number.nd rfl (Or.inl rfl) (pe_ix u_ix (pv 0) (pe_op u_add (pv 1) (pv 3)) (fun _ _ => rfl)))
    (pss_cons (ps_aug (i := 2) sc_read_number.nd rfl (Or.inl rfl) (pe_op u_shl (pe_op u_and (pv 4) pe_int) (pe_op u_mul pe_int (pv 3))) i_add)
    (pss_one (ps_if (pt_cmpR u_lt (pv 4) pe_int rfl) (pssAp (pss_cons (ps_if (PW.pt (pw_or (PW.pt (pw_and (pt_cmpR (u_eq hr.units) (pv 4) pe_int rfl) (pw_and1 (pt_cmpR u_gt (pv 3) pe_int rfl)))) (pw_or1 (pt_cmpR u_ge (pv 2) (pe_op u_shl pe_int pe_int) rfl)))) (pss_one (ps_rs rfl (takes_of rfl rfl rfl rfl) (pmk_kin T.e_InvalidData (hr.mono (by decide)) rfl (pv 1)))) pss_nil)
    (pssAp (pss_one (ps_ret (pe_tup (pa_cons (pe_op u_xor (pe_op u_shr (pv 2) pe_int) (pe_un u_neg (pe_op u_and (pv 2) pe_int))) (pa_cons (pe_op u_add (pe_op u_add (pv 1) (pv 3)) pe_int) pa_nil)))))))) pss_nil))))))))
    (pssAp (pss_one (ps_rs rfl (takes_of rfl rfl rfl rfl) (pmk_kin T.e_InvalidData (hr.mono (by decide)) rfl (pv 1)))))))
noncomputable def t__law_draw_1 (G : GG) : TS := tAp G.K (tSeq (tDrop (tML G.K rApp (tVar 3) (tCons (tOp rMod (tCB rInt (tCons (tVar 0) tNil)) (tVar 2)) tNil)))
    (tAsg (tOp rFdiv (tVar 0) (tVar 2)) (gName 0)))
noncomputable def t__law_draw_2 (G : GG) : TS := tAp G.K (tRet (tVar 3))
noncomputable def t__law_draw_3 (G : GG) : TS := tAp G.K (tSeq (tForU (iRng1 (tCons (tVar 1) tNil)) (gName 4) (t__law_draw_1 G))
    (t__law_draw_2 G))
noncomputable def t__law_draw_4 (G : GG) : TS := tAp G.K (tSeq (tAsg (tOp rMod (tCB rInt (tCons (tOp rAddU (tOp rAddU (tOp rMulU (tVar 5) (tC (.int 48271))) (tC (.int 12345))) (tVar 4)) tNil)) (tC (.int 2147483647))) (gName 5))
    (tSeq (tAsg (tOp rMod (tCB rInt (tCons (tOp rAddU (tOp rMulU (tVar 5) (tC (.int 69621))) (tOp rMulU (tC (.int 977)) (tVar 4))) tNil)) (tC (.int 2147483629))) (gName 6))
    (tDrop (tML G.K rApp (tVar 3) (tCons (tOp rMod (tCB rInt (tCons (tOp rFdiv (tVar 6) (tC (.int 3))) tNil)) (tVar 2)) tNil)))))
noncomputable def t__law_draw_5 (G : GG) : TS := tAp G.K (tRet (tVar 3))
noncomputable def t__law_draw_6 (G : GG) : TS := tAp G.K (tSeq (tAsg (tOp rMod (tCB rInt (tCons (tVar 0) tNil)) (tC (.int 2147483647))) (gName 5))
    (tSeq (tForU (iRng1 (tCons (tVar 1) tNil)) (gName 4) (t__law_draw_4 G))
    (t__law_draw_5 G)))
noncomputable def t__law_draw (G : GG) : TS := (tSeq (tAsg (tLst tNil) (gName 3))
    (tSeq (tIfS (tTest (tOp rGeU (tVar 0) (tOp rPow (tC (.int 10)) (tC (.int 18))))) (t__law_draw_3 G) tNext)
    (t__law_draw_6 G)))
theorem dv__law_draw {P : Program} {w : World} {G : GG} {mg : Str → Option Value} {base : Heap} {f : Addr} {cdv : Value} {A : Around} {outer : List Env} {s : Shared} {H : Hp} {E : XK} (T : Top P w G mg base) (hr : Room 0 (A.deeper (envOfC "_law_draw" (defScope s__law_draw) s.heap.objs.size f cdv))) :
    PSs (cxOf CX0 P w G.K mg base N__law_draw "_law_draw" (defScope s__law_draw) f cdv A outer s H E).nox (defBody s__law_draw) (t__law_draw G) :=
  (pss_cons (ps_set (i := 3) sc__law_draw.nd rfl (Or.inl rfl) (pe_lst pa_nil))
    (pss_cons (ps_if (pt_cmpR u_ge (pv 0) (pe_op u_pow pe_int pe_int) rfl) (pssAp (pss_cons (ps_for PassesOwn.never rfl (pi_range1 rfl T.n_range (pa_cons (pv 1) pa_nil)) (pg_name (i := 4) sc__law_draw.nd rfl (Or.inl rfl)) (pssAp (pss_cons (ps_expr (pe_append (pv 3) (pa_cons (pe_op u_mod (pe_callTy c_int rfl T.n_int bt_int (pa_cons (pv 0) pa_nil)) (pv 2)) pa_nil)))
    (pss_one (ps_set (i := 0) sc__law_draw.nd rfl (Or.inl rfl) (pe_op u_fdiv (pv 0) (pv 2)))))))
    (pssAp (pss_one (ps_ret (pv 3)))))) pss_nil)
    (pssAp (pss_cons (ps_set (i := 5) sc__law_draw.nd rfl (Or.inl rfl) (pe_op u_mod (pe_callTy c_int rfl T.n_int bt_int (pa_cons (pv 0) pa_nil)) pe_int))
    (pss_cons (ps_for PassesOwn.never rfl (pi_range1 rfl T.n_range (pa_cons (pv 1) pa_nil)) (pg_name (i := 4) sc__law_draw.nd rfl (Or.inl rfl)) (pssAp (pss_cons (ps_set (i := 5) sc__law_draw.nd rfl (Or.inl rfl) (pe_op u_mod (pe_callTy c_int rfl T.n_int bt_int (pa_cons (pe_op u_add (pe_op u_add (pe_op u_mul (pv 5) pe_int) pe_int) (pv 4)) pa_nil)) pe_int))
    (pss_cons (ps_set (i := 6) sc__law_draw.nd rfl (Or.inl rfl) (pe_op u_mod (pe_callTy c_int rfl T.n_int bt_int (pa_cons (pe_op u_add (pe_op u_mul (pv 5) pe_int) (pe_op u_mul pe_int (pv 4))) pa_nil)) pe_int))
    (pss_one (ps_expr (pe_append (pv 3) (pa_cons (pe_op u_mod (pe_callTy c_int rfl T.n_int bt_int (pa_cons (pe_op u_fdiv (pv 6) pe_int) pa_nil)) (pv 2)) pa_nil))))))))
    (pssAp (pss_one (ps_ret (pv 3)))))))))
noncomputable def t__law_is_integer (G : GG) : TS := (tRet (tAndV (tCB rIsiB (tCons (tVar 0) (tCons (tC (.ty "int")) tNil))) (tNotU G.K (tCB rIsiB (tCons (tVar 0) (tCons (tC (.ty "bool")) tNil))))))
theorem dv__law_is_integer {P : Program} {w : World} {G : GG} {mg : Str → Option Value} {base : Heap} {f : Addr} {cdv : Value} {A : Around} {outer : List Env} {s : Shared} {H : Hp} {E : XK} (T : Top P w G mg base) (hr : Room 0 (A.deeper (envOfC "_law_is_integer" (defScope s__law_is_integer) s.heap.objs.size f cdv))) :
    PSs (cxOf CX0 P w G.K mg base N__law_is_integer "_law_is_integer" (defScope s__law_is_integer) f cdv A outer s H E).nox (defBody s__law_is_integer) (t__law_is_integer G) :=
  (pss_one (ps_ret (pe_and (pe_callB c_isi rfl T.n_isinstance bt_isinstance (pa_cons (pv 0) (pa_cons (pe_bltn (v := .ty "int") rfl T.n_int bt_int rfl) pa_nil))) (pe_one (pe_notU (pe_callB c_isi rfl T.n_isinstance bt_isinstance (pa_cons (pv 0) (pa_cons (pe_bltn (v := .ty "bool") rfl T.n_bool bt_bool rfl) pa_nil))))))))
noncomputable def t__law_same_1 (G : GG) : TS := tAp G.K (tIfS (tOr (tNot (tTr G.K (tCall (sp__law_is_integer G) [] E0 (tCons (tOp (rIxU G.K) (tVar 0) (tVar 2)) tNil)))) (tTest (tOp (rNeU G.K) (tOp (rIxU G.K) (tVar 0) (tVar 2)) (tOp (rIxU G.K) (tVar 1) (tVar 2))))) (tRet (tC (.bl false))) tNext)
noncomputable def t__law_same_2 (G : GG) : TS := tAp G.K (tRet (tC (.bl true)))
noncomputable def t__law_same_3 (G : GG) : TS := tAp G.K (tSeq (tForU (iRng1 (tCons (tCB (rLenU G.K) (tCons (tVar 1) tNil)) tNil)) (gName 2) (t__law_same_1 G))
    (t__law_same_2 G))
noncomputable def t__law_same (G : GG) : TS := (tSeq (tIfS (tOr (tNot (tTr G.K (tCB rIsiB (tCons (tVar 0) (tCons (tC (.ty "list")) tNil))))) (tTest (tOp (rNeU G.K) (tCB (rLenU G.K) (tCons (tVar 0) tNil)) (tCB (rLenU G.K) (tCons (tVar 1) tNil))))) (tRet (tC (.bl false))) tNext)
    (t__law_same_3 G))
theorem dv__law_same {P : Program} {w : World} {G : GG} {mg : Str → Option Value} {base : Heap} {f : Addr} {cdv : Value} {A : Around} {outer : List Env} {s : Shared} {H : Hp} {E : XK} (T : Top P w G mg base) (F__law_is_integer : FnE P w G.K mg base CX0 "_law_is_integer" 1 ["actual"] (sp__law_is_integer G)) (hr : Room 1 (A.deeper (envOfC "_law_same" (defScope s__law_same) s.heap.objs.size f cdv))) :
    PSs (cxOf CX0 P w G.K mg base N__law_same "_law_same" (defScope s__law_same) f cdv A outer s H E).nox (defBody s__law_same) (t__law_same G) :=
  (pss_cons (ps_if (PW.pt (pw_or (pt_not (pt_tr (pe_callB c_isi rfl T.n_isinstance bt_isinstance (pa_cons (pv 0) (pa_cons (pe_bltn (v := .ty "list") rfl T.n_list bt_list rfl) pa_nil))))) (pw_or1 (pt_cmpR (u_ne hr.units) (pe_callB c_len rfl T.n_len bt_len (pa_cons (pv 0) pa_nil)) (pe_callB c_len rfl T.n_len bt_len (pa_cons (pv 1) pa_nil)) rfl)))) (pss_one (ps_ret pe_bl)) pss_nil)
    (pssAp (pss_cons (ps_for PassesOwn.never rfl (pi_range1 rfl T.n_range (pa_cons (pe_callB c_len rfl T.n_len bt_len (pa_cons (pv 1) pa_nil)) pa_nil)) (pg_name (i := 2) sc__law_same.nd rfl (Or.inl rfl)) (pssAp (pss_one (ps_if (PW.pt (pw_or (pt_not (pt_tr (pe_fn F__law_is_integer (hr.mono (by decide)) rfl pass0 (pa_cons (pe_ix u_ix (pv 0) (pv 2) (fun _ _ => rfl)) pa_nil)))) (pw_or1 (pt_cmpR (u_ne hr.units) (pe_ix u_ix (pv 0) (pv 2) (fun _ _ => rfl)) (pe_ix u_ix (pv 1) (pv 2) (fun _ _ => rfl)) rfl)))) (pss_one (ps_ret pe_bl)) pss_nil))))
    (pssAp (pss_one (ps_ret pe_bl))))))
noncomputable def t__law_octets_of_1 (G : GG) : TS := tAp G.K (tSeq (tDrop (tML G.K rApp (tVar 2) (tCons (tOp rAddU (tC (.int 128)) (tOp rMod (tCB rInt (tCons (tVar 1) tNil)) (tC (.int 128)))) tNil)))
    (tAsg (tOp rFdiv (tVar 1) (tC (.int 128))) (gName 1)))
noncomputable def t__law_octets_of_2 (G : GG) : TS := tAp G.K (tSeq (tIfS (tTest (tOp rLtU (tVar 1) (tC (.int 128)))) tBreak tNext)
    (t__law_octets_of_1 G))
noncomputable def t__law_octets_of_3 (G : GG) : TS := tAp G.K (tRet (tOp rAddU (tVar 2) (tLst (tCons (tVar 1) tNil))))
noncomputable def t__law_octets_of_4 (G : GG) : TS := tAp G.K (tSeq (tAsg (tLst tNil) (gName 2))
    (tSeq (tForU (iRng1 (tCons (tC (.int 11)) tNil)) (gName 3) (t__law_octets_of_2 G))
    (t__law_octets_of_3 G)))
noncomputable def t__law_octets_of (G : GG) : TS := (tSeq (tAsg (tOp rMulU (tC (.int 2)) (tVar 0)) (gName 1))
    (tSeq (tIfS (tTest (tOp rLtU (tVar 0) (tC (.int 0)))) (tAsg (tOp rSubI (tOp rMulU (tUn (mU fun i => .int (-i)) (tC (.int 2))) (tVar 0)) (tC (.int 1))) (gName 1)) tNext)
    (t__law_octets_of_4 G)))
theorem dv__law_octets_of {P : Program} {w : World} {G : GG} {mg : Str → Option Value} {base : Heap} {f : Addr} {cdv : Value} {A : Around} {outer : List Env} {s : Shared} {H : Hp} {E : XK} (T : Top P w G mg base) (hr : Room 0 (A.deeper (envOfC "_law_octets_of" (defScope s__law_octets_of) s.heap.objs.size f cdv))) :
    PSs (cxOf CX0 P w G.K mg base N__law_octets_of "_law_octets_of" (defScope s__law_octets_of) f cdv A outer s H E).nox (defBody s__law_octets_of) (t__law_octets_of G) :=
  (pss_cons (ps_set (i := 1) sc__law_octets_of.nd rfl (Or.inl rfl) (pe_op u_mul pe_int (pv 0)))
    (pss_cons (ps_if (pt_cmpR u_lt (pv 0) pe_int rfl) (pss_one (ps_set (i := 1) sc__law_octets_of.nd rfl (Or.inl rfl) (pe_op u_sub (pe_op u_mul (pe_un u_neg pe_int) (pv 0)) pe_int))) pss_nil)
    (pssAp (pss_cons (ps_set (i := 2) sc__law_octets_of.nd rfl (Or.inl rfl) (pe_lst pa_nil))
    (pss_cons (ps_for PassesOwn.never rfl (pi_range1 rfl T.n_range (pa_cons pe_int pa_nil)) (pg_name (i := 3) sc__law_octets_of.nd rfl (Or.inl rfl)) (pssAp (pss_cons (ps_if (pt_cmpR u_lt (pv 1) pe_int rfl) (pss_one ps_break) pss_nil)
    (pssAp (pss_cons (ps_expr (pe_append (pv 2) (pa_cons (pe_op u_add pe_int (pe_op u_mod (pe_callTy c_int rfl T.n_int bt_int (pa_cons (pv 1) pa_nil)) pe_int)) pa_nil)))
    (pss_one (ps_set (i := 1) sc__law_octets_of.nd rfl (Or.inl rfl) (pe_op u_fdiv (pv 1) pe_int))))))))
    (pssAp (pss_one (ps_ret (pe_op u_add (pv 2) (pe_lst (pa_cons (pv 1) pa_nil)))))))))))
noncomputable def t__law_due_1 (G : GG) : TS := tAp G.K (tRet (tTup (tCons (tOp rFdiv (tVar 2) (tC (.int 2))) (tCons (tOp rAddU (tOp rAddU (tVar 1) (tVar 3)) (tC (.int 1))) tNil))))
noncomputable def t__law_due_2 (G : GG) : TS := tAp G.K (tSeq (tIfS (tTest (tOp (rEqU G.K) (tOp rMod (tCB rInt (tCons (tVar 2) tNil)) (tC (.int 2))) (tC (.int 1)))) (tRet (tTup (tCons (tOp rSubI (tC (.int 0)) (tOp rFdiv (tOp rAddU (tVar 2) (tC (.int 1))) (tC (.int 2)))) (tCons (tOp rAddU (tOp rAddU (tVar 1) (tVar 3)) (tC (.int 1))) tNil)))) tNext)
    (t__law_due_1 G))
noncomputable def t__law_due_3 (G : GG) : TS := tAp G.K (tSeq (tIfS (tOr (tAnd (tTest (tOp (rEqU G.K) (tOp (rIxU G.K) (tVar 0) (tOp rAddU (tVar 1) (tVar 3))) (tC (.int 0)))) (tTest (tOp rGtU (tVar 3) (tC (.int 0))))) (tTest (tOp rGeU (tVar 2) (tOp rShl (tC (.int 1)) (tC (.int 64)))))) (tRet (tTup (tCons (tC (.str "InvalidData")) (tCons (tVar 1) tNil)))) tNext)
    (t__law_due_2 G))
noncomputable def t__law_due_4 (G : GG) : TS := tAp G.K (tSeq (tAsg (tOp rAddU (tVar 2) (tOp rShl (tOp rMod (tCB rInt (tCons (tOp (rIxU G.K) (tVar 0) (tOp rAddU (tVar 1) (tVar 3))) tNil)) (tC (.int 128))) (tOp rMulU (tC (.int 7)) (tVar 3)))) (gName 2))
    (tIfS (tTest (tOp rLtU (tOp (rIxU G.K) (tVar 0) (tOp rAddU (tVar 1) (tVar 3))) (tC (.int 128)))) (t__law_due_3 G) tNext))
noncomputable def t__law_due_5 (G : GG) : TS := tAp G.K (tSeq (tIfS (tTest (tOp rGeU (tOp rAddU (tVar 1) (tVar 3)) (tCB (rLenU G.K) (tCons (tVar 0) tNil)))) (tRet (tTup (tCons (tC (.str "Truncated")) (tCons (tCB (rLenU G.K) (tCons (tVar 0) tNil)) tNil)))) tNext)
    (t__law_due_4 G))
noncomputable def t__law_due_6 (G : GG) : TS := tAp G.K (tRet (tTup (tCons (tC (.str "InvalidData")) (tCons (tVar 1) tNil))))
noncomputable def t__law_due (G : GG) : TS := (tSeq (tAsg (tC (.int 0)) (gName 2))
    (tSeq (tForU (iRng1 (tCons (tC (.int 10)) tNil)) (gName 3) (t__law_due_5 G))
    (t__law_due_6 G)))
theorem dv__law_due {P : Program} {w : World} {G : GG} {mg : Str → Option Value} {base : Heap} {f : Addr} {cdv : Value} {A : Around} {outer : List Env} {s : Shared} {H : Hp} {E : XK} (T : Top P w G mg base) (hr : Room 0 (A.deeper (envOfC "_law_due" (defScope s__law_due) s.heap.objs.size f cdv))) :
    PSs (cxOf CX0 P w G.K mg base N__law_due "_law_due" (defScope s__law_due) f cdv A outer s H E).nox (defBody s__law_due) (t__law_due G) :=
  (pss_cons (ps_set (i := 2) sc__law_due.nd rfl (Or.inl rfl) pe_int)
    (pss_cons (ps_for PassesOwn.never rfl (pi_range1 rfl T.n_range (pa_cons pe_int pa_nil)) (pg_name (i := 3) sc__law_due.nd rfl (Or.inl rfl)) (pssAp (pss_cons (ps_if (pt_cmpR u_ge (pe_op u_add (pv 1) (pv 3)) (pe_callB c_len rfl T.n_len bt_len (pa_cons (pv 0) pa_nil)) rfl) (pss_one (ps_ret (pe_tup (pa_cons pe_str (pa_cons (pe_callB c_len rfl T.n_len bt_len (pa_cons (pv 0) pa_nil)) pa_nil))))) pss_nil)
    (pssAp (pss_cons (ps_set (i := 2) sc__law_due.nd rfl (Or.inl rfl) (pe_op u_add (pv 2) (pe_op u_shl (pe_op u_mod (pe_callTy c_int rfl T.n_int bt_int (pa_cons (pe_ix u_ix (pv 0) (pe_op u_add (pv 1) (pv 3)) (fun _ _ => rfl)) pa_nil)) pe_int) (pe_op u_mul pe_int (pv 3)))))
    (pss_one (ps_if (pt_cmpR u_lt (pe_ix u_ix (pv 0) (pe_op u_add (pv 1) (pv 3)) (fun _ _ => rfl)) pe_int rfl) (pssAp (pss_cons (ps_if (PW.pt (pw_or (PW.pt (pw_and (pt_cmpR (u_eq hr.units) (pe_ix u_ix (pv 0) (pe_op u_add (pv 1) (pv 3)) (fun _ _ => rfl)) pe_int rfl) (pw_and1 (pt_cmpR u_gt (pv 3) pe_int rfl)))) (pw_or1 (pt_cmpR u_ge (pv 2) (pe_op u_shl pe_int pe_int) rfl)))) (pss_one (ps_ret (pe_tup (pa_cons pe_str (pa_cons (pv 1) pa_nil))))) pss_nil)
    (pssAp (pss_cons (ps_if (pt_cmpR (u_eq hr.units) (pe_op u_mod (pe_callTy c_int rfl T.n_int bt_int (pa_cons (pv 2) pa_nil)) pe_int) pe_int rfl) (pss_one (ps_ret (pe_tup (pa_cons (pe_op u_sub pe_int (pe_op u_fdiv (pe_op u_add (pv 2) pe_int) pe_int)) (pa_cons (pe_op u_add (pe_op u_add (pv 1) (pv 3)) pe_int) pa_nil))))) pss_nil)
    (pssAp (pss_one (ps_ret (pe_tup (pa_cons (pe_op u_fdiv (pv 2) pe_int) (pa_cons (pe_op u_add (pe_op u_add (pv 1) (pv 3)) pe_int) pa_nil)))))))))) pss_nil)))))))
    (pssAp (pss_one (ps_ret (pe_tup (pa_cons pe_str (pa_cons (pv 1) pa_nil))))))))
noncomputable def t__law_told (G : GG) : TS := (tTryAs G.K (.ref G.c_FormstripesError) 2 (fun a cls d => (tSeq (tAsg (tLst tNil) (gName 3))
    (tSeq (tIfS (tTr G.K (tCB (rIsX G.K a cls d) (tCons (tVar 2) (tCons (tC (.ref G.c_Truncated)) tNil)))) (tDrop (tML G.K rApp (tVar 3) (tCons (tC (.str "Truncated")) tNil))) tNext)
    (tSeq (tIfS (tTr G.K (tCB (rIsX G.K a cls d) (tCons (tVar 2) (tCons (tC (.ref G.c_InvalidData)) tNil)))) (tDrop (tML G.K rApp (tVar 3) (tCons (tC (.str "InvalidData")) tNil))) tNext)
    (tSeq (tIfS (tOr (tTr G.K (tCB (rIsX G.K a cls d) (tCons (tVar 2) (tCons (tC (.ref G.c_InvalidText)) tNil)))) (tOr (tTest (tOp (rNeU G.K) (tCB (rLenU G.K) (tCons (tVar 3) tNil)) (tC (.int 1)))) (tTest (tOp (rNeU G.K) (tXfU G.K a cls d "name" (tVar 2)) (tOp (rIxU G.K) (tVar 3) (tC (.int 0))))))) (tRet (tTup (tCons (tC (.str "other")) (tCons (tC (.int 0)) tNil)))) tNext)
    (tRet (tTup (tCons (tOp (rIxU G.K) (tVar 3) (tC (.int 0))) (tCons (tXfU G.K a cls d "place" (tVar 2)) tNil))))))))) W0 (fun W => (tRet (tCallW (sp_read_number G) W (tCons (tVar 0) (tCons (tVar 1) tNil))))))
theorem dv__law_told {P : Program} {w : World} {G : GG} {mg : Str → Option Value} {base : Heap} {f : Addr} {cdv : Value} {A : Around} {outer : List Env} {s : Shared} {H : Hp} {E : XK} (T : Top P w G mg base) (F_read_number : FnE P w G.K mg base (L2.CX P w) "read_number" 4 ["octets", "at"] (sp_read_number G)) (hr : Room 4 (A.deeper (envOfC "_law_told" (defScope s__law_told) s.heap.objs.size f cdv))) :
    PSs (cxOf CX0 P w G.K mg base N__law_told "_law_told" (defScope s__law_told) f cdv A outer s H E).nox (defBody s__law_told) (t__law_told G) :=
  (pss_one (ps_tryAs (i := 2) rfl rfl sc__law_told.nd rfl rfl ⟨rfl, by decide, .inl T.cl_FormstripesError⟩ takes0 (fun W pn xe tk po => (pss_one (ps_ret (pe_fnW F_read_number (hr.mono (by decide)) rfl tk (pa_cons (pv 0) (pa_cons (pv 1) pa_nil)))))) (fun a oe cls d pn hz hf => (pss_cons (ps_set (i := 3) sc__law_told.nd rfl (Or.inl rfl) (pe_lst pa_nil))
    (pss_cons (ps_if (pt_tr (pe_callB (c_isX hz hf) rfl T.n_isinstance bt_isinstance (pa_cons (pv 2) (pa_cons (pe_glob rfl T.cl_Truncated rfl) pa_nil)))) (pss_one (ps_expr (pe_append (pv 3) (pa_cons pe_str pa_nil)))) pss_nil)
    (pss_cons (ps_if (pt_tr (pe_callB (c_isX hz hf) rfl T.n_isinstance bt_isinstance (pa_cons (pv 2) (pa_cons (pe_glob rfl T.cl_InvalidData rfl) pa_nil)))) (pss_one (ps_expr (pe_append (pv 3) (pa_cons pe_str pa_nil)))) pss_nil)
    (pss_cons (ps_if (PW.pt (pw_or (pt_tr (pe_callB (c_isX hz hf) rfl T.n_isinstance bt_isinstance (pa_cons (pv 2) (pa_cons (pe_glob rfl T.cl_InvalidText rfl) pa_nil)))) (pw_or (pt_cmpR (u_ne hr.units) (pe_callB c_len rfl T.n_len bt_len (pa_cons (pv 3) pa_nil)) pe_int rfl) (pw_or1 (pt_cmpR (u_ne hr.units) (pe_xfU hz hf (pv 2)) (pe_ix u_ix (pv 3) pe_int (fun _ _ => rfl)) rfl))))) (pss_one (ps_ret (pe_tup (pa_cons pe_str (pa_cons pe_int pa_nil))))) pss_nil)
    (pss_one (ps_ret (pe_tup (pa_cons (pe_ix u_ix (pv 3) pe_int (fun _ _ => rfl)) (pa_cons (pe_xfU hz hf (pv 2)) pa_nil))))))))))))
noncomputable def t__law_number_1 (G : GG) : TS := tAp G.K (tSeq (tAsg (tOp rShl (tC (.int 1)) (tOp rMod (tOp (rIxU G.K) (tVar 0) (tC (.int 1))) (tC (.int 64)))) (gName 1))
    (tRet (tCB rMax2 (tCons (tOp rSubI (tC (.int 0)) (tOp rShl (tC (.int 1)) (tC (.int 63)))) (tCons (tCB rMin2 (tCons (tOp rSubI (tOp rShl (tC (.int 1)) (tC (.int 63))) (tC (.int 1))) (tCons (tOp rSubI (tOp rAddU (tOp (rIxU G.K) (tLst (tCons (tVar 1) (tCons (tOp rSubI (tC (.int 0)) (tVar 1)) tNil))) (tOp rMod (tOp (rIxU G.K) (tVar 0) (tC (.int 2))) (tC (.int 2)))) (tOp rMod (tOp (rIxU G.K) (tVar 0) (tC (.int 3))) (tC (.int 3)))) (tC (.int 1))) tNil))) tNil)))))
noncomputable def t__law_number_2 (G : GG) : TS := tAp G.K (tRet (tOp rSubI (tOp rMod (tCB rInt (tCons (tOp rAddU (tOp rAddU (tOp rAddU (tOp (rIxU G.K) (tVar 0) (tC (.int 1))) (tOp rShl (tOp (rIxU G.K) (tVar 0) (tC (.int 2))) (tC (.int 20)))) (tOp rShl (tOp (rIxU G.K) (tVar 0) (tC (.int 3))) (tC (.int 40)))) (tOp rShl (tOp (rIxU G.K) (tVar 0) (tC (.int 4))) (tC (.int 60)))) tNil)) (tOp rShl (tC (.int 1)) (tC (.int 64)))) (tOp rShl (tC (.int 1)) (tC (.int 63)))))
noncomputable def t__law_number_3 (G : GG) : TS := tAp G.K (tSeq (tIfS (tTest (tOp (rEqU G.K) (tOp rMod (tOp (rIxU G.K) (tVar 0) (tC (.int 0))) (tC (.int 3))) (tC (.int 1)))) (t__law_number_1 G) tNext)
    (t__law_number_2 G))
noncomputable def t__law_number (G : GG) : TS := (tSeq (tIfS (tTest (tOp (rEqU G.K) (tOp rMod (tOp (rIxU G.K) (tVar 0) (tC (.int 0))) (tC (.int 3))) (tC (.int 0)))) (tRet (tOp rSubI (tOp rMod (tOp (rIxU G.K) (tVar 0) (tC (.int 1))) (tC (.int 400))) (tC (.int 200)))) tNext)
    (t__law_number_3 G))
theorem dv__law_number {P : Program} {w : World} {G : GG} {mg : Str → Option Value} {base : Heap} {f : Addr} {cdv : Value} {A : Around} {outer : List Env} {s : Shared} {H : Hp} {E : XK} (T : Top P w G mg base) (hr : Room 0 (A.deeper (envOfC "_law_number" (defScope s__law_number) s.heap.objs.size f cdv))) :
    PSs (cxOf CX0 P w G.K mg base N__law_number "_law_number" (defScope s__law_number) f cdv A outer s H E).nox (defBody s__law_number) (t__law_number G) :=
  (pss_cons (ps_if (pt_cmpR (u_eq hr.units) (pe_op u_mod (pe_ix u_ix (pv 0) pe_int (fun _ _ => rfl)) pe_int) pe_int rfl) (pss_one (ps_ret (pe_op u_sub (pe_op u_mod (pe_ix u_ix (pv 0) pe_int (fun _ _ => rfl)) pe_int) pe_int))) pss_nil)
    (pssAp (pss_cons (ps_if (pt_cmpR (u_eq hr.units) (pe_op u_mod (pe_ix u_ix (pv 0) pe_int (fun _ _ => rfl)) pe_int) pe_int rfl) (pssAp (pss_cons (ps_set (i := 1) sc__law_number.nd rfl (Or.inl rfl) (pe_op u_shl pe_int (pe_op u_mod (pe_ix u_ix (pv 0) pe_int (fun _ _ => rfl)) pe_int)))
    (pss_one (ps_ret (pe_callB (c_max2 rfl) rfl T.n_max bt_max (pa_cons (pe_op u_sub pe_int (pe_op u_shl pe_int pe_int)) (pa_cons (pe_callB (c_min2 rfl) rfl T.n_min bt_min (pa_cons (pe_op u_sub (pe_op u_shl pe_int pe_int) pe_int) (pa_cons (pe_op u_sub (pe_op u_add (pe_ix u_ix (pe_lst (pa_cons (pv 1) (pa_cons (pe_op u_sub pe_int (pv 1)) pa_nil))) (pe_op u_mod (pe_ix u_ix (pv 0) pe_int (fun _ _ => rfl)) pe_int) (fun _ _ => rfl)) (pe_op u_mod (pe_ix u_ix (pv 0) pe_int (fun _ _ => rfl)) pe_int)) pe_int) pa_nil))) pa_nil))))))) pss_nil)
    (pssAp (pss_one (ps_ret (pe_op u_sub (pe_op u_mod (pe_callTy c_int rfl T.n_int bt_int (pa_cons (pe_op u_add (pe_op u_add (pe_op u_add (pe_ix u_ix (pv 0) pe_int (fun _ _ => rfl)) (pe_op u_shl (pe_ix u_ix (pv 0) pe_int (fun _ _ => rfl)) pe_int)) (pe_op u_shl (pe_ix u_ix (pv 0) pe_int (fun _ _ => rfl)) pe_int)) (pe_op u_shl (pe_ix u_ix (pv 0) pe_int (fun _ _ => rfl)) pe_int)) pa_nil)) (pe_op u_shl pe_int pe_int)) (pe_op u_shl pe_int pe_int))))))))
noncomputable def t_law_1 (G : GG) : TS := tAp G.K (tSeq (tAsg (tCB (rListOf G.K) (tCons (tVar 8) tNil)) (gName 10))
    (tIfS (tOr (tTest (tOp (rNeU G.K) (tCall (sp__law_told G) [] E0 (tCons (tVar 10) (tCons (tVar 9) tNil))) (tCall (sp__law_due G) [] E0 (tCons (tVar 8) (tCons (tVar 9) tNil))))) (tTest (tOp (rNeU G.K) (tVar 10) (tVar 8)))) (tRet (tC (.bl false))) tNext))
noncomputable def t_law_2 (G : GG) : TS := tAp G.K (tSeq (tAsg (tOp rMod (tOp (rIxU G.K) (tVar 2) (tC (.int 13))) (tOp rAddU (tCB (rLenU G.K) (tCons (tVar 8) tNil)) (tC (.int 1)))) (gName 9))
    (tSeq (tIfS (tTest (tOp (rEqU G.K) (tOp rMod (tOp (rIxU G.K) (tVar 2) (tC (.int 14))) (tC (.int 2))) (tC (.int 0)))) (tAsg (tC (.int 0)) (gName 9)) tNext)
    (t_law_1 G)))
noncomputable def t_law_3 (G : GG) : TS := tAp G.K (tSeq (tIfS (tTest (tOp (rEqU G.K) (tOp rMod (tOp (rIxU G.K) (tVar 2) (tC (.int 11))) (tC (.int 4))) (tC (.int 1)))) (tAsg (tOp rAddU (tSl (rSlU G.K) (tVar 4) tNoPart (tPart (tOp rSubI (tCB (rLenU G.K) (tCons (tVar 4) tNil)) (tC (.int 1))))) (tLst (tCons (tOp rAddU (tOp (rIxU G.K) (tVar 4) (tOp rSubI (tCB (rLenU G.K) (tCons (tVar 4) tNil)) (tC (.int 1)))) (tC (.int 128))) (tCons (tC (.int 0)) tNil)))) (gName 8)) tNext)
    (t_law_2 G))
noncomputable def t_law_4 (G : GG) : TS := tAp G.K (tSeq (tAsg (tOp rAddU (tLcU (iLst G.K (tSl (rSlU G.K) (tVar 2) (tPart (tC (.int 8))) (tPart (tOp rAddU (tC (.int 8)) (tOp rMod (tOp (rIxU G.K) (tVar 2) (tC (.int 7))) (tC (.int 12))))))) (gName 11) tYes (tOp rAddU (tC (.int 128)) (tOp rMod (tVar 11) (tC (.int 128)))) [11]) (tOp rMulU (tLst (tCons (tOp rMod (tOp (rIxU G.K) (tVar 2) (tC (.int 9))) (tC (.int 128))) tNil)) (tOp rMod (tOp (rIxU G.K) (tVar 2) (tC (.int 10))) (tC (.int 2))))) (gName 8))
    (tSeq (tIfS (tTest (tOp (rEqU G.K) (tOp rMod (tOp (rIxU G.K) (tVar 2) (tC (.int 11))) (tC (.int 4))) (tC (.int 0)))) (tAsg (tOp rAddU (tOp rMulU (tLst (tCons (tC (.int 255)) tNil)) (tC (.int 9))) (tLst (tCons (tOp rMod (tOp (rIxU G.K) (tVar 2) (tC (.int 12))) (tC (.int 4))) (tCons (tC (.int 1)) tNil)))) (gName 8)) tNext)
    (t_law_3 G)))
noncomputable def t_law_5 (G : GG) : TS := tAp G.K (tSeq (tAsg (tLcU (iLst G.K (tSl (rSlU G.K) (tVar 2) (tPart (tC (.int 5))) (tPart (tOp rAddU (tC (.int 5)) (tOp rMod (tOp (rIxU G.K) (tVar 2) (tC (.int 5))) (tC (.int 4))))))) (gName 11) tYes (tOp rMod (tVar 11) (tC (.int 256))) [11]) (gName 5))
    (tSeq (tAsg (tLcU (iLst G.K (tSl (rSlU G.K) (tVar 2) (tPart (tC (.int 9))) (tPart (tOp rAddU (tC (.int 9)) (tOp rMod (tOp (rIxU G.K) (tVar 2) (tC (.int 6))) (tC (.int 3))))))) (gName 11) tYes (tOp rMod (tVar 11) (tC (.int 256))) [11]) (gName 6))
    (tSeq (tAsg (tCallW (sp_read_number G) W0 (tCons (tOp rAddU (tOp rAddU (tVar 5) (tVar 4)) (tVar 6)) (tCons (tCB (rLenU G.K) (tCons (tVar 5) tNil)) tNil))) (gName 7))
    (tSeq (tIfS (tOr (tTest (tOp (rNeU G.K) (tVar 7) (tTup (tCons (tVar 3) (tCons (tOp rAddU (tCB (rLenU G.K) (tCons (tVar 5) tNil)) (tCB (rLenU G.K) (tCons (tVar 4) tNil))) tNil))))) (tNot (tTr G.K (tCall (sp__law_is_integer G) [] E0 (tCons (tOp (rIxU G.K) (tVar 7) (tC (.int 0))) tNil))))) (tRet (tC (.bl false))) tNext)
    (t_law_4 G)))))
noncomputable def t_law_6 (G : GG) : TS := tAp G.K (tSeq (tAsg (tCall (sp__law_draw G) [] E0 (tCons (tVar 1) (tCons (tC (.int 20)) (tCons (tOp rShl (tC (.int 1)) (tC (.int 20))) tNil)))) (gName 2))
    (tSeq (tAsg (tCall (sp__law_number G) [] E0 (tCons (tVar 2) tNil)) (gName 3))
    (tSeq (tAsg (tCall (sp_write_number G) [] E0 (tCons (tVar 3) tNil)) (gName 4))
    (tSeq (tIfS (tNot (tTr G.K (tCall (sp__law_same G) [] E0 (tCons (tVar 4) (tCons (tCall (sp__law_octets_of G) [] E0 (tCons (tVar 3) tNil)) tNil))))) (tRet (tC (.bl false))) tNext)
    (t_law_5 G)))))
noncomputable def t_law_7 (G : GG) : TS := tAp G.K (tRet (tC (.bl true)))
noncomputable def t_law (G : GG) : TS := (tSeq (tForU (iLst G.K (tOp rAddU (tSl (rSlU G.K) (tVar 0) tNoPart (tPart (tC (.int 16)))) (tLst (tCons (tC (.int 2)) tNil)))) (gName 1) (t_law_6 G))
    (t_law_7 G))
theorem dv_law {P : Program} {w : World} {G : GG} {mg : Str → Option Value} {base : Heap} {f : Addr} {cdv : Value} {A : Around} {outer : List Env} {s : Shared} {H : Hp} {E : XK} (T : Top P w G mg base) (F__law_draw : FnE P w G.K mg base CX0 "_law_draw" 1 ["cell", "many", "bound"] (sp__law_draw G)) (F__law_due : FnE P w G.K mg base CX0 "_law_due" 1 ["octets", "at"] (sp__law_due G)) (F__law_is_integer : FnE P w G.K mg base CX0 "_law_is_integer" 1 ["actual"] (sp__law_is_integer G)) (F__law_number : FnE P w G.K mg base CX0 "_law_number" 1 ["numbers"] (sp__law_number G)) (F__law_octets_of : FnE P w G.K mg base CX0 "_law_octets_of" 1 ["n"] (sp__law_octets_of G)) (F__law_same : FnE P w G.K mg base CX0 "_law_same" 2 ["actual", "expected"] (sp__law_same G)) (F__law_told : FnE P w G.K mg base CX0 "_law_told" 5 ["octets", "at"] (sp__law_told G)) (F_read_number : FnE P w G.K mg base (L2.CX P w) "read_number" 4 ["octets", "at"] (sp_read_number G)) (F_write_number : FnE P w G.K mg base CX0 "write_number" 1 ["n"] (sp_write_number G)) (hr : Room 5 (A.deeper (envOfC "law" (defScope s_law) s.heap.objs.size f cdv))) :
    PSs (cxOf CX0 P w G.K mg base N_law "law" (defScope s_law) f cdv A outer s H E).nox (defBody s_law) (t_law G) :=
  (pss_cons (ps_for PassesOwn.never rfl (pi_lst (pe_op u_add (pe_slice u_sl (pv 0) po_none (po_some pe_int)) (pe_lst (pa_cons pe_int pa_nil)))) (pg_name (i := 1) sc_law.nd rfl (Or.inl rfl)) (pssAp (pss_cons (ps_set (i := 2) sc_law.nd rfl (Or.inl rfl) (pe_fn F__law_draw (hr.mono (by decide)) rfl pass0 (pa_cons (pv 1) (pa_cons pe_int (pa_cons (pe_op u_shl pe_int pe_int) pa_nil)))))
    (pss_cons (ps_set (i := 3) sc_law.nd rfl (Or.inl rfl) (pe_fn F__law_number (hr.mono (by decide)) rfl pass0 (pa_cons (pv 2) pa_nil)))
    (pss_cons (ps_set (i := 4) sc_law.nd rfl (Or.inl rfl) (pe_fn F_write_number (hr.mono (by decide)) rfl pass0 (pa_cons (pv 3) pa_nil)))
    (pss_cons (ps_if (pt_not (pt_tr (pe_fn F__law_same (hr.mono (by decide)) rfl pass0 (pa_cons (pv 4) (pa_cons (pe_fn F__law_octets_of (hr.mono (by decide)) rfl pass0 (pa_cons (pv 3) pa_nil)) pa_nil))))) (pss_one (ps_ret pe_bl)) pss_nil)
    (pssAp (pss_cons (ps_setLc (i := 5) (own := [("number", 11)]) (g := (gName 11)) (tt := tYes) rfl sc_law.nd rfl rfl (sw_true rfl rfl rfl (by decide +kernel)) (pi_lst (pe_slice u_sl (pv 2) (po_some pe_int) (po_some (pe_op u_add pe_int (pe_op u_mod (pe_ix u_ix (pv 2) pe_int (fun _ _ => rfl)) pe_int))))) (blkOk_by (N := N_law) (sc := defScope s_law) (by decide +kernel)) (fun _ _ _ _ _ => pg_name (i := 11) sc_law.nd rfl (Or.inl rfl)) (fun _ _ _ _ _ => pts_nil) (fun _ _ _ _ _ => (pe_op u_mod (pv 11) pe_int)))
    (pss_cons (ps_setLc (i := 6) (own := [("number", 11)]) (g := (gName 11)) (tt := tYes) rfl sc_law.nd rfl rfl (sw_true rfl rfl rfl (by decide +kernel)) (pi_lst (pe_slice u_sl (pv 2) (po_some pe_int) (po_some (pe_op u_add pe_int (pe_op u_mod (pe_ix u_ix (pv 2) pe_int (fun _ _ => rfl)) pe_int))))) (blkOk_by (N := N_law) (sc := defScope s_law) (by decide +kernel)) (fun _ _ _ _ _ => pg_name (i := 11) sc_law.nd rfl (Or.inl rfl)) (fun _ _ _ _ _ => pts_nil) (fun _ _ _ _ _ => (pe_op u_mod (pv 11) pe_int)))
    (pss_cons (ps_set (i := 7) sc_law.nd rfl (Or.inl rfl) (pe_fnW F_read_number (hr.mono (by decide)) rfl takes0 (pa_cons (pe_op u_add (pe_op u_add (pv 5) (pv 4)) (pv 6)) (pa_cons (pe_callB c_len rfl T.n_len bt_len (pa_cons (pv 5) pa_nil)) pa_nil))))
    (pss_cons (ps_if (PW.pt (pw_or (pt_cmpR (u_ne hr.units) (pv 7) (pe_tup (pa_cons (pv 3) (pa_cons (pe_op u_add (pe_callB c_len rfl T.n_len bt_len (pa_cons (pv 5) pa_nil)) (pe_callB c_len rfl T.n_len bt_len (pa_cons (pv 4) pa_nil))) pa_nil))) rfl) (pw_or1 (pt_not (pt_tr (pe_fn F__law_is_integer (hr.mono (by decide)) rfl pass0 (pa_cons (pe_ix u_ix (pv 7) pe_int (fun _ _ => rfl)) pa_nil))))))) (pss_one (ps_ret pe_bl)) pss_nil)
    (pssAp (pss_cons (ps_set (i := 8) sc_law.nd rfl (Or.inl rfl) (pe_op u_add (pe_lc (own := [("number", 11)]) (g := (gName 11)) (tt := tYes) rfl sc_law.nd (pi_lst (pe_slice u_sl (pv 2) (po_some pe_int) (po_some (pe_op u_add pe_int (pe_op u_mod (pe_ix u_ix (pv 2) pe_int (fun _ _ => rfl)) pe_int))))) (blkOk_by (N := N_law) (sc := defScope s_law) (by decide +kernel)) (fun _ _ _ _ _ => pg_name (i := 11) sc_law.nd rfl (Or.inl rfl)) (fun _ _ _ _ _ => pts_nil) (fun _ _ _ _ _ => (pe_op u_add pe_int (pe_op u_mod (pv 11) pe_int)))) (pe_op u_mul (pe_lst (pa_cons (pe_op u_mod (pe_ix u_ix (pv 2) pe_int (fun _ _ => rfl)) pe_int) pa_nil)) (pe_op u_mod (pe_ix u_ix (pv 2) pe_int (fun _ _ => rfl)) pe_int))))
    (pss_cons (ps_if (pt_cmpR (u_eq hr.units) (pe_op u_mod (pe_ix u_ix (pv 2) pe_int (fun _ _ => rfl)) pe_int) pe_int rfl) (pss_one (ps_set (i := 8) sc_law.nd rfl (Or.inl rfl) (pe_op u_add (pe_op u_mul (pe_lst (pa_cons pe_int pa_nil)) pe_int) (pe_lst (pa_cons (pe_op u_mod (pe_ix u_ix (pv 2) pe_int (fun _ _ => rfl)) pe_int) (pa_cons pe_int pa_nil)))))) pss_nil)
    (pssAp (pss_cons (ps_if (pt_cmpR (u_eq hr.units) (pe_op u_mod (pe_ix u_ix (pv 2) pe_int (fun _ _ => rfl)) pe_int) pe_int rfl) (pss_one (ps_set (i := 8) sc_law.nd rfl (Or.inl rfl) (pe_op u_add (pe_slice u_sl (pv 4) po_none (po_some (pe_op u_sub (pe_callB c_len rfl T.n_len bt_len (pa_cons (pv 4) pa_nil)) pe_int))) (pe_lst (pa_cons (pe_op u_add (pe_ix u_ix (pv 4) (pe_op u_sub (pe_callB c_len rfl T.n_len bt_len (pa_cons (pv 4) pa_nil)) pe_int) (fun _ _ => rfl)) pe_int) (pa_cons pe_int pa_nil)))))) pss_nil)
    (pssAp (pss_cons (ps_set (i := 9) sc_law.nd rfl (Or.inl rfl) (pe_op u_mod (pe_ix u_ix (pv 2) pe_int (fun _ _ => rfl)) (pe_op u_add (pe_callB c_len rfl T.n_len bt_len (pa_cons (pv 8) pa_nil)) pe_int)))
    (pss_cons (ps_if (pt_cmpR (u_eq hr.units) (pe_op u_mod (pe_ix u_ix (pv 2) pe_int (fun _ _ => rfl)) pe_int) pe_int rfl) (pss_one (ps_set (i := 9) sc_law.nd rfl (Or.inl rfl) pe_int)) pss_nil)
    (pssAp (pss_cons (ps_set (i := 10) sc_law.nd rfl (Or.inl rfl) (pe_callTy (c_list rfl) rfl T.n_list bt_list (pa_cons (pv 8) pa_nil)))
    (pss_one (ps_if (PW.pt (pw_or (pt_cmpR (u_ne hr.units) (pe_fn F__law_told (hr.mono (by decide)) rfl pass0 (pa_cons (pv 10) (pa_cons (pv 9) pa_nil))) (pe_fn F__law_due (hr.mono (by decide)) rfl pass0 (pa_cons (pv 8) (pa_cons (pv 9) pa_nil))) rfl) (pw_or1 (pt_cmpR (u_ne hr.units) (pv 10) (pv 8) rfl)))) (pss_one (ps_ret pe_bl)) pss_nil)))))))))))))))))))))))
    (pssAp (pss_one (ps_ret pe_bl))))
end My

namespace My
open PySem PySem.Spec PyProof.Rows L2 R
local macro_rules | `(tactic| walk_at "rs") => `(tactic| ((try simp only [tSeq, tAp_e, tAsg, gName, tv0, tvs, tC, tOp, tUn, tTest, tAnd, tOr, tNot, tIf, tIfS, tRet, tRetN, tNext, tDrop, tCB, tCons, tNil, tAug_e, tCall, tAndV, tOrV, tChain, tTr, tNotU, tML, tMS, tForU, iLst, iTp, iSt, iRng1, iRng2, tLcU, tLst_e, tTup_e, tSl, tPart_e, tNoPart, tYes, tBreak, tCont, tRs_e, tCallW_e, tMkF,   rSub_int, rFdiv_int, rMod_int, rShl_int, rShr_int, rXor_int, rAndB_int, rOrB_int, rPow_int, rAddU_int, rAddU_str, rMul_int, rIadd_int, rIadd_str, rLt_int, rLe_int, rGt_int, rGe_int, rEqU_int, rNeU_int, rEqU_str, rNeU_str, rEqU_bl, rNeU_bl, rInt_int, rAbs_int, rMax2_int, rMin2_int, mU_int, truV_bl, truV_int, truV_non, exBl, exInt, exInt2, exIntV, rLen_str, rIx_str, rSl_str, rInU_str,    List.set_cons_zero, List.set_cons_succ, List.append_nil, List.nil_append, List.cons_append, List.length_cons, List.length_nil, if_true, if_false, ite_true, ite_false, Bool.false_eq_true, decide_eq_true_eq, Bool.not_true, Bool.not_false, Bool.not_eq_true, Bool.not_eq_false, exists_eq_left', exists_eq_left, V.bl.injEq, V.int.injEq, V.str.injEq, V.ref.injEq, reduceCtorEq, and_true, true_and, ↓reduceIte]); (try with_reducible intro (ap : R.Apart _ _))))
local macro_rules | `(tactic| walk_at "rh") => `(tactic| ((try simp only [tSeq, tAp_e, tAsg, gName, tv0, tvs, tC, tOp, tUn, tTest, tAnd, tOr, tNot, tIf, tIfS, tRet, tRetN, tNext, tDrop, tCB, tCons, tNil, tAug_e, tCall, tAndV, tOrV, tChain, tTr, tNotU, tML, tMS, tForU, iLst, iTp, iSt, iRng1, iRng2, tLcU, tLst_e, tTup_e, tSl, tPart_e, tNoPart, tYes, tBreak, tCont, tRs_e, tCallW_e, tMkF,   rSub_int, rFdiv_int, rMod_int, rShl_int, rShr_int, rXor_int, rAndB_int, rOrB_int, rPow_int, rAddU_int, rAddU_str, rMul_int, rIadd_int, rIadd_str, rLt_int, rLe_int, rGt_int, rGe_int, rEqU_int, rNeU_int, rEqU_str, rNeU_str, rEqU_bl, rNeU_bl, rInt_int, rAbs_int, rMax2_int, rMin2_int, mU_int, truV_bl, truV_int, truV_non, exBl, exInt, exInt2, exIntV, rLen_str, rIx_str, rSl_str, rInU_str,    List.set_cons_zero, List.set_cons_succ, List.append_nil, List.nil_append, List.cons_append, List.length_cons, List.length_nil, if_true, if_false, ite_true, ite_false, Bool.false_eq_true, decide_eq_true_eq, Bool.not_true, Bool.not_false, Bool.not_eq_true, Bool.not_eq_false, exists_eq_left', exists_eq_left, V.bl.injEq, V.int.injEq, V.str.injEq, V.ref.injEq, reduceCtorEq, and_true, true_and, ↓reduceIte]); (try with_reducible intro (ap : R.Apart _ _)); (try simp only [tSeq, tAp_e, tAsg, gName, tv0, tvs, tC, tOp, tUn, tTest, tAnd, tOr, tNot, tIf, tIfS, tRet, tRetN, tNext, tDrop, tCB, tCons, tNil, tAug_e, tCall, tAndV, tOrV, tChain, tTr, tNotU, tML, tMS, tForU, iLst, iTp, iSt, iRng1, iRng2, tLcU, tLst_e, tTup_e, tSl, tPart_e, tNoPart, tYes, tBreak, tCont, tRs_e, tCallW_e, tMkF,   rSub_int, rFdiv_int, rMod_int, rShl_int, rShr_int, rXor_int, rAndB_int, rOrB_int, rPow_int, rAddU_int, rAddU_str, rMul_int, rIadd_int, rIadd_str, rLt_int, rLe_int, rGt_int, rGe_int, rEqU_int, rNeU_int, rEqU_str, rNeU_str, rEqU_bl, rNeU_bl, rInt_int, rAbs_int, rMax2_int, rMin2_int, mU_int, truV_bl, truV_int, truV_non, exBl, exInt, exInt2, exIntV, rLen_str, rIx_str, rSl_str, rInU_str,    List.set_cons_zero, List.set_cons_succ, List.append_nil, List.nil_append, List.cons_append, List.length_cons, List.length_nil, if_true, if_false, ite_true, ite_false, Bool.false_eq_true, decide_eq_true_eq, Bool.not_true, Bool.not_false, Bool.not_eq_true, Bool.not_eq_false, exists_eq_left', exists_eq_left, V.bl.injEq, V.int.injEq, V.str.injEq, V.ref.injEq, reduceCtorEq, and_true, true_and, ↓reduceIte, sqv_e, rLenU_ref, rListOf_ref, rIxU_ref, rSlU_ref, rApp_ref, rAddU_ref, truV_ref, rInU_ref, rMulU_ref, true_implies, forall_const, *])))

open N9
section
variable {P : Program} {w : World} {G : GG} {mg : Str → Option Value} {base : Heap} (T : Top P w G mg base) {vs : List V} {H : Hp} {Q : VK} {E : XK}
include T
theorem rd__law_is_integer (h : sp__law_is_integer G vs H Q E) : t__law_is_integer G {nx := fun _ H' => Q .non H', rt := Q} (start N__law_is_integer vs) H := by
  obtain ⟨i, rfl, hq⟩ := h
  show t__law_is_integer G _ [some (.int i)] H
  unfold t__law_is_integer
  walk_at "rs"
  simp only [rIsi_int kit_int_int, rIsi_int kit_int_bool]
  walk_at "rs"
  exact hq
theorem rd__law_same (h : sp__law_same G vs H Q E) : t__law_same G {nx := fun _ H' => Q .non H', rt := Q} (start N__law_same vs) H := by
  obtain ⟨a, b, ns, rfl, hz, ha, hb, hq⟩ := h
  have la : lstv G.K H a = some (octs ns) := lstv_of ha
  have lb : lstv G.K H b = some (octs ns) := lstv_of hb
  show t__law_same G _ [some (.ref a), some (.ref b), none] H
  unfold t__law_same
  walk_at "rs"
  simp only [rIsi_lst ha kit_list_list]
  walk_at "rs"
  simp only [rLen_lst la, rLen_lst lb]
  walk_at "rs"
  simp only [decide_true, Bool.not_true, Bool.false_eq_true, if_false]
  unfold t__law_same_3
  walk_at "rs"
  simp only [rLen_lst lb, octs_len]
  refine ⟨_, rfl, by omega, by omega, ?_⟩
  refine goesR (n := ns.length) (fun j σ H' => H' = H ∧ ∃ v, σ = [some (.ref a), some (.ref b), v]) ⟨rfl, _, rfl⟩ ?_ ?_
  · rintro j σ H' hj ⟨rfl, v, rfl⟩
    unfold t__law_same_1
    obtain ⟨n, hn, en⟩ := oat (ns := ns) (j := 0 + (j:Int)) (by omega) (by omega)
    walk_at "rs"
    simp only [rIx_lst la, rIx_lst lb, en]
    refine ⟨n, rfl, ?_⟩
    walk_at "rs"
    simp only [rIx_lst la, rIx_lst lb, en]
    walk_at "rs"
    simp only [decide_true, Bool.not_true, Bool.false_eq_true, if_false]
    first | exact ⟨rfl, _, rfl⟩ | exact ⟨_, rfl⟩
  · rintro σ H' ⟨rfl, v, rfl⟩
    unfold t__law_same_2
    walk_at "rs"
    exact hq
omit T in
theorem zig_e (n : Int) : (if (0:Int) ≤ n then 2 * n else -2 * n - 1) = (zig n : Int) := by
  unfold zig
  split <;> omega
theorem rd_write_number (h : sp_write_number G vs H Q E) : t_write_number G {nx := fun _ H' => Q .non H', rt := Q} (start N_write_number vs) H := by
  obtain ⟨n, rfl, h1, h2, hq⟩ := h
  show t_write_number G _ [some (.int n), none, none] H
  have z := zig_lt n h1 h2
  have key : ∀ r : Int, r = zig n → (tSeq (tAsg (tLst tNil) (gName 2)) (tSeq (tWhile (tTest (tOp rGeU (tVar 1) (tC (.int 128)))) (t_write_number_1 G)) (t_write_number_2 G))) {nx := fun _ H' => Q .non H', rt := Q} [some (.int n), some (.int r), none] H := by
    rintro r rfl
    walk_at "rs"
    refine ⟨sz 0 (by decide), nw fun l H1 hl s1 e1 => ?_⟩
    refine ⟨fun m σ H' => ∃ (r : Nat) (acc : List Nat), m = r ∧ σ = [some (.int n), some (.int r), some (.ref l)] ∧ H' l = some (.lst (octs acc)) ∧ Same H H' ∧ acc ++ dig r = dig (zig n), ⟨_, zig n, [], rfl, rfl, e1, s1, rfl⟩, ?_⟩
    rintro m σ H' ⟨r, acc, rfl, rfl, e2, s2, hd⟩
    have l2 : lstv G.K H' l = some (octs acc) := lstv_of e2
    have hlen : acc.length + (dig m).length ≤ 10 := by
      rw [← List.length_append, hd]; exact dig_len10 z
    walk_at "rs"
    split <;> rename_i hc
    · unfold t_write_number_1
      refine ⟨_, fun _ _ h => h, ?_⟩
      walk_at "rh"
      rw [octs_len]
      refine ⟨by decide, szl _ (by omega), by decide, m / 128, by omega, m / 128, acc ++ [128 + m % 128], rfl, ?_, ?_, Same.upd s2 hl, ?_⟩
      · simp
      · rw [upd_same]; rw [octs_snoc (n := 128 + m % 128) (by omega)]
      · rw [List.append_assoc, ← hd, dig_ge (r := m) (by omega)]; rfl
    · unfold t_write_number_2
      walk_at "rh"
      rw [octs_len]
      refine ⟨szl _ (by omega), hq _ _ (Same.upd s2 hl) ?_⟩
      rw [upd_same, octs_snoc (n := m) rfl, ← hd, dig_lt (by omega)]
  have := zig_e n
  unfold t_write_number
  walk_at "rs"
  split <;> rename_i hc
  · rw [if_pos hc] at this
    exact ⟨cm_l (by decide) (by decide), key _ this⟩
  · rw [if_neg hc] at this
    exact ⟨cm_l (by decide) (by decide), key _ this⟩
theorem rd__law_octets_of (h : sp__law_octets_of G vs H Q E) : t__law_octets_of G {nx := fun _ H' => Q .non H', rt := Q} (start N__law_octets_of vs) H := by
  obtain ⟨n, rfl, h1, h2, hq⟩ := h
  show t__law_octets_of G _ [some (.int n), none, none, none] H
  have z := zig_lt n h1 h2
  have key : ∀ r : Int, r = zig n → t__law_octets_of_4 G {nx := fun _ H' => Q .non H', rt := Q} [some (.int n), some (.int r), none, none] H := by
    rintro r rfl
    unfold t__law_octets_of_4
    walk_at "rs"
    refine ⟨sz 0 (by decide), nw fun l H1 hl s1 e1 => ?_⟩
    refine ⟨by decide, by decide, ?_⟩
    have fin : ∀ (r : Nat) (acc : List Nat) (H' : Hp) (v : Option V), H' l = some (.lst (octs acc)) → Same H H' → acc ++ dig r = dig (zig n) → r < 128 → t__law_octets_of_3 G {nx := fun _ H' => Q .non H', rt := Q} [some (.int n), some (.int r), some (.ref l), v] H' := by
      intro r acc H' v e2 s2 hd hr
      unfold t__law_octets_of_3
      walk_at "rs"
      refine ⟨sz 1 (by decide), nw fun y H3 hy s3 e3 => ?_⟩
      have hlen : acc.length + (dig r).length ≤ 10 := by
        rw [← List.length_append, hd]; exact dig_len10 z
      rw [rAddU_lst (s3 _ _ e2) e3]
      refine ⟨sz _ (by rw [octs_len]; simp; omega), nw fun u H4 hu s4 e4 => ?_⟩
      refine hq _ _ (s2.trans (s3.trans s4)) ?_
      rw [e4, octs_snoc (n := r) rfl, ← hd, dig_lt hr]
    refine goesR (n := 11) (fun j σ H' => ∃ (r : Nat) (acc : List Nat) (v : Option V), σ = [some (.int n), some (.int r), some (.ref l), v] ∧ H' l = some (.lst (octs acc)) ∧ Same H H' ∧ acc ++ dig r = dig (zig n) ∧ acc.length = j) ⟨zig n, [], _, rfl, e1, s1, rfl, rfl⟩ ?_ ?_
    · rintro j σ H' hj ⟨r, acc, v, rfl, e2, s2, hd, hn⟩
      have l2 : lstv G.K H' l = some (octs acc) := lstv_of e2
      have hlen : acc.length + (dig r).length ≤ 10 := by
        rw [← List.length_append, hd]; exact dig_len10 z
      unfold t__law_octets_of_2
      walk_at "rs"
      split <;> rename_i hc
      · exact fin r acc H' _ e2 s2 hd (by omega)
      · unfold t__law_octets_of_1
        clear hq fin
        walk_at "rh"
        rw [octs_len]
        refine ⟨by decide, szl _ (by omega), cd_small (by decide) (by decide), r / 128, acc ++ [128 + r % 128], some (.int (0 + (j : Int))), ?_, ?_, Same.upd s2 hl, ?_, by simp [hn]⟩
        · simp
        · rw [upd_same]; rw [octs_snoc (n := 128 + r % 128) (by omega)]
        · rw [List.append_assoc, ← hd, dig_ge (r := r) (by omega)]; rfl
    · rintro σ H' ⟨r, acc, v, rfl, e2, s2, hd, hn⟩
      have hlen : acc.length + (dig r).length ≤ 10 := by
        rw [← List.length_append, hd]; exact dig_len10 z
      omega
  have := zig_e n
  unfold t__law_octets_of
  walk_at "rs"
  refine ⟨cm_l (by decide) (by decide), ?_⟩
  split <;> rename_i hc
  · rw [if_neg (by omega)] at this
    exact ⟨cm_l (by decide) (by decide), key _ this⟩
  · rw [if_pos (by omega)] at this
    exact key _ this
theorem rd_read_number (h : sp_read_number G vs H Q E) : t_read_number G (fun cls d _ H' => E cls d H') {nx := fun _ H' => Q .non H', rt := Q} (start N_read_number vs) H := by
  obtain ⟨a, ns, at_, rfl, hl, hlt, hz, ha, hq⟩ := h
  show t_read_number G _ _ [some (.ref a), some (.int at_), none, none, none] H
  unfold t_read_number
  walk_at "rs"
  refine ⟨by decide, by decide, ?_⟩
  refine goesR (n := 10) (fun j σ H' => H' = H ∧ ∃ (rest : Nat) (v w : Option V), σ = [some (.ref a), some (.int at_), some (.int rest), v, w] ∧ rd ns at_ (10 - j) j rest = read ns at_) ⟨rfl, 0, _, _, rfl, rfl⟩ ?_ ?_
  · rintro j σ H' hj ⟨rfl, rest, v, w, rfl, hr⟩
    rw [show 10 - j = (9 - j) + 1 by omega, rd] at hr
    unfold t_read_number_4
    walk_at "rs"
    simp only [rLen_lst hl, octs_len]
    walk_at "rs"
    split <;> rename_i hc
    · rw [show ns[at_ + j]? = none by simp; omega] at hr
      simp only at hr
      rw [← hr] at hq
      simp only [rLen_lst hl, octs_len]
      exact fun d H1 hd s1 e1 => hq d H1 s1 e1
    · obtain ⟨n, hn, en⟩ := oat (ns := ns) (j := (at_ : Int) + (0 + (j : Int))) (by omega) (by omega)
      rw [show ((at_ : Int) + (0 + (j : Int))).toNat = at_ + j by omega] at hn
      have hb := hlt n (List.mem_of_getElem? hn)
      rw [hn] at hr
      simp only at hr
      unfold t_read_number_3
      walk_at "rs"
      simp only [rIx_lst hl, en]
      walk_at "rs"
      rw [PyProof.Rows.bitAnd_m7]
      have e : (rest : Int) + (n : Int) % 128 * 2 ^ (7 * (0 + (j : Int))).toNat = ((rest + n % 128 * 2 ^ (7 * j) : Nat) : Int) := by
        rw [show (7 * (0 + (j : Int))).toNat = 7 * j by omega]; simp
      rw [e]
      generalize rest + n % 128 * 2 ^ (7 * j) = r at hr
      refine ⟨cm_l (by decide) (by decide), cs_small (by omega) (by omega) (by omega), ?_⟩
      split <;> rename_i hc2
      · rw [if_pos (by omega)] at hr
        have e64 : (1 : Int) * 2 ^ Int.toNat 64 = 18446744073709551616 := by decide
        have cs64 : CS 1 64 := cs_small (by decide) (by decide) (by decide)
        unfold t_read_number_2
        walk_at "rs"
        rw [e64]
        by_cases hb2 : (n = 0 ∧ 0 < j) ∨ 2 ^ 64 ≤ r
        · rw [if_pos hb2] at hr
          rw [← hr] at hq
          simp only at hq
          repeat' (first | (refine ⟨cs64, ?_⟩) | split)
          all_goals first | (exact fun d H1 hd s1 e1 => hq d H1 s1 e1) | (exfalso; omega)
        · rw [if_neg hb2] at hr
          rw [← hr] at hq
          simp only at hq
          have good : ∀ (D : Ends) u, D.rt = Q → t_read_number_1 G (fun cls d x H' => E cls d H') D [some (.ref a), some (.int at_), some (.int r), some (.int (0 + j)), u] H' := by
            intro D u hD
            unfold t_read_number_1
            walk_at "rs"
            rw [hD]
            refine ⟨by decide, sz 2 (by decide), nw fun q H1 hq0 s1 e1 => ?_⟩
            refine hq q H1 s1 ?_
            rw [e1, show (r : Int) / 2 ^ Int.toNat 1 = (r : Int) / 2 from rfl, unz_xor, show (at_ : Int) + (0 + (j : Int)) + 1 = ((at_ + j + 1 : Nat) : Int) by omega]
            rfl
          repeat' (first | (refine ⟨cs64, ?_⟩) | split)
          all_goals first | (exact good _ _ rfl) | (exfalso; omega)
      · rw [if_neg (by omega)] at hr
        rw [show 9 - j = 10 - (j + 1) by omega] at hr
        first | exact ⟨rfl, r, _, _, rfl, hr⟩ | exact ⟨r, _, _, rfl, hr⟩
  · rintro σ H' ⟨rfl, rest, v, w, rfl, hr⟩
    unfold t_read_number_5
    walk_at "rs"
    rw [show 10 - 10 = 0 from rfl, rd] at hr
    rw [← hr] at hq
    exact fun d H1 hd s1 e1 => hq d H1 s1 e1
theorem rd__law_due (h : sp__law_due G vs H Q E) : t__law_due G {nx := fun _ H' => Q .non H', rt := Q} (start N__law_due vs) H := by
  obtain ⟨a, ns, at_, rfl, hl, hlt, hz, ha, hq⟩ := h
  show t__law_due G _ [some (.ref a), some (.int at_), none, none] H
  unfold t__law_due
  walk_at "rs"
  refine ⟨by decide, by decide, ?_⟩
  refine goesR (n := 10) (fun j σ H' => H' = H ∧ ∃ (rest : Nat) (v : Option V), σ = [some (.ref a), some (.int at_), some (.int rest), v] ∧ rd ns at_ (10 - j) j rest = read ns at_) ⟨rfl, 0, _, rfl, rfl⟩ ?_ ?_
  · rintro j σ H' hj ⟨rfl, rest, v, rfl, hr⟩
    rw [show 10 - j = (9 - j) + 1 by omega, rd] at hr
    unfold t__law_due_5
    walk_at "rs"
    simp only [rLen_lst hl, octs_len]
    walk_at "rs"
    split <;> rename_i hc
    · rw [show ns[at_ + j]? = none by simp; omega] at hr
      simp only at hr
      rw [← hr] at hq
      simp only [rLen_lst hl, octs_len]
      walk_at "rs"
      exact ⟨sz 2 (by decide), nw fun q H1 hq0 s1 e1 => hq q H1 s1 e1⟩
    · obtain ⟨n, hn, en⟩ := oat (ns := ns) (j := (at_ : Int) + (0 + (j : Int))) (by omega) (by omega)
      rw [show ((at_ : Int) + (0 + (j : Int))).toNat = at_ + j by omega] at hn
      have hb := hlt n (List.mem_of_getElem? hn)
      rw [hn] at hr
      simp only at hr
      unfold t__law_due_4
      walk_at "rs"
      simp only [rIx_lst hl, en]
      walk_at "rs"
      have e : (rest : Int) + (n : Int) % 128 * 2 ^ (7 * (0 + (j : Int))).toNat = ((rest + n % 128 * 2 ^ (7 * j) : Nat) : Int) := by
        rw [show (7 * (0 + (j : Int))).toNat = 7 * j by omega]; simp
      rw [e]
      generalize rest + n % 128 * 2 ^ (7 * j) = r at hr
      refine ⟨by decide, cm_l (by decide) (by decide), cs_small (by omega) (by omega) (by omega), ?_⟩
      simp only [rIx_lst hl, en]
      walk_at "rs"
      split <;> rename_i hc2
      · rw [if_pos (by omega)] at hr
        have e64 : (1 : Int) * 2 ^ Int.toNat 64 = 18446744073709551616 := by decide
        have cs64 : CS 1 64 := cs_small (by decide) (by decide) (by decide)
        unfold t__law_due_3
        walk_at "rs"
        simp only [rIx_lst hl, en]
        walk_at "rs"
        rw [e64]
        by_cases hb2 : (n = 0 ∧ 0 < j) ∨ 2 ^ 64 ≤ r
        · rw [if_pos hb2] at hr
          rw [← hr] at hq
          repeat' (first | (refine ⟨cs64, ?_⟩) | (refine ⟨sz 2 (by decide), ?_⟩) | split)
          all_goals first | (exact nw fun q H1 hq0 s1 e1 => hq q H1 s1 e1) | (exfalso; omega)
        · rw [if_neg hb2] at hr
          rw [← hr] at hq
          have good : ∀ (D : Ends), D.rt = Q → t__law_due_2 G D [some (.ref a), some (.int at_), some (.int r), some (.int (0 + j))] H' := by
            intro D hD
            unfold t__law_due_2
            walk_at "rs"
            rw [hD]
            refine ⟨by decide, ?_⟩
            split <;> rename_i hp
            · refine ⟨cd_small (by decide) (by decide), sz 2 (by decide), nw fun q H1 hq0 s1 e1 => ?_⟩
              refine hq q H1 s1 ?_
              rw [e1]
              unfold resV unz
              rw [if_pos (by omega), show (at_ : Int) + (0 + (j : Int)) + 1 = ((at_ + j + 1 : Nat) : Int) by omega, show (0 : Int) - ((r : Int) + 1) / 2 = -(((r + 1) / 2 : Nat) : Int) by omega]
            · unfold t__law_due_1
              walk_at "rs"
              rw [hD]
              refine ⟨cd_small (by decide) (by decide), sz 2 (by decide), nw fun q H1 hq0 s1 e1 => ?_⟩
              refine hq q H1 s1 ?_
              rw [e1]
              unfold resV unz
              rw [if_neg (by omega), show (at_ : Int) + (0 + (j : Int)) + 1 = ((at_ + j + 1 : Nat) : Int) by omega, show (r : Int) / 2 = ((r / 2 : Nat) : Int) by omega]
          repeat' (first | (refine ⟨cs64, ?_⟩) | (refine ⟨sz 2 (by decide), ?_⟩) | split)
          all_goals first | (exact good _ rfl) | (exfalso; omega)
      · rw [if_neg (by omega)] at hr
        rw [show 9 - j = 10 - (j + 1) by omega] at hr
        first | exact ⟨rfl, r, _, rfl, hr⟩ | exact ⟨r, _, rfl, hr⟩
  · rintro σ H' ⟨rfl, rest, v, rfl, hr⟩
    unfold t__law_due_6
    walk_at "rs"
    rw [show 10 - 10 = 0 from rfl, rd] at hr
    rw [← hr] at hq
    exact ⟨sz 2 (by decide), nw fun q H1 hq0 s1 e1 => hq q H1 s1 e1⟩

theorem rd__law_told (h : sp__law_told G vs H Q E) : t__law_told G {nx := fun _ H' => Q .non H', rt := Q} (start N__law_told vs) H := by
  obtain ⟨a, ns, at_, rfl, hl, hlt, hz, ha, hq⟩ := h
  show t__law_told G _ [some (.ref a), some (.int at_), none, none] H
  unfold t__law_told tTryAs
  walk_at "rs"
  refine ⟨a, ns, at_, rfl, hl, hlt, hz, ha, ?_⟩
  generalize read ns at_ = r at hq
  cases r with
  | ok n p => exact hq
  | tr l =>
    intro d H1 s1 e1
    refine ⟨true, T.em_Truncated_FormstripesError, fun _ ea h0 => ?_, fun z => nomatch z⟩
    walk_at "rs"
    refine ⟨sz 0 (by decide), nw fun l2 H2 hl2 s2 e2 => ?_⟩
    have d2 := s2 _ _ e1
    refine rIsX_i d2 T.xc_Truncated T.ko_Truncated_Truncated ?_
    walk_at "rs"
    simp only [lstv_of e2, rApp_lst e2]
    refine ⟨szl 0 (by decide), ?_⟩
    have s3 : Same H (L2.upd H2 l2 (.lst ([] ++ [.str "Truncated"]))) := Same.upd (s1.trans s2) (by cases hh : H l2 with
      | none => rfl
      | some o => exact absurd (s1 _ _ hh) (by rw [hl2]; exact fun z => nomatch z))
    have d3 : (L2.upd H2 l2 (.lst ([] ++ [.str "Truncated"]))) d = some (.xd [("name", .str "Truncated"), ("place", .int l)]) := by rw [upd_ne (ne_of_none e1 hl2)]; exact d2
    have e3 : (L2.upd H2 l2 (.lst ([] ++ [.str "Truncated"]))) l2 = some (.lst [.str "Truncated"]) := upd_same
    generalize L2.upd H2 l2 (.lst ([] ++ [.str "Truncated"])) = H3 at s3 d3 e3 ⊢
    have l3 : lstv G.K H3 l2 = some [.str "Truncated"] := lstv_of e3
    walk_at "rs"
    refine rIsX_i d3 T.xc_Truncated T.ko_Truncated_InvalidData ?_
    walk_at "rs"
    refine rIsX_i d3 T.xc_Truncated T.ko_Truncated_InvalidText ?_
    walk_at "rs"
    simp only [rLen_lst l3]
    walk_at "rs"
    rw [if_neg (by decide)]
    refine ⟨_, rfl, T.xf_Truncated, T.nn_Truncated, ?_⟩
    walk_at "rs"
    refine ⟨d, _, .str "Truncated", rfl, d3, rfl, ?_⟩
    have ei : atI [V.str "Truncated"] 0 = some (.str "Truncated") := rfl
    simp only [rIx_lst l3, ei]
    walk_at "rs"
    simp only [decide_true, Bool.not_true, Bool.false_eq_true, if_false]
    simp only [rIx_lst l3, ei]
    refine ⟨_, rfl, T.xf_Truncated, T.np_Truncated, ?_⟩
    walk_at "rs"
    exact ⟨d, _, .int l, rfl, d3, rfl, sz 2 (by decide), nw fun q H4 hq0 s4 e4 => hq q H4 (s3.trans s4) e4⟩
  | bad l =>
    intro d H1 s1 e1
    refine ⟨true, T.em_InvalidData_FormstripesError, fun _ ea h0 => ?_, fun z => nomatch z⟩
    walk_at "rs"
    refine ⟨sz 0 (by decide), nw fun l2 H2 hl2 s2 e2 => ?_⟩
    have d2 := s2 _ _ e1
    refine rIsX_i d2 T.xc_InvalidData T.ko_InvalidData_Truncated ?_
    walk_at "rs"
    refine rIsX_i d2 T.xc_InvalidData T.ko_InvalidData_InvalidData ?_
    walk_at "rs"
    simp only [lstv_of e2, rApp_lst e2]
    refine ⟨szl 0 (by decide), ?_⟩
    have s3 : Same H (L2.upd H2 l2 (.lst ([] ++ [.str "InvalidData"]))) := Same.upd (s1.trans s2) (by cases hh : H l2 with
      | none => rfl
      | some o => exact absurd (s1 _ _ hh) (by rw [hl2]; exact fun z => nomatch z))
    have d3 : (L2.upd H2 l2 (.lst ([] ++ [.str "InvalidData"]))) d = some (.xd [("name", .str "InvalidData"), ("place", .int l)]) := by rw [upd_ne (ne_of_none e1 hl2)]; exact d2
    have e3 : (L2.upd H2 l2 (.lst ([] ++ [.str "InvalidData"]))) l2 = some (.lst [.str "InvalidData"]) := upd_same
    generalize L2.upd H2 l2 (.lst ([] ++ [.str "InvalidData"])) = H3 at s3 d3 e3 ⊢
    have l3 : lstv G.K H3 l2 = some [.str "InvalidData"] := lstv_of e3
    refine rIsX_i d3 T.xc_InvalidData T.ko_InvalidData_InvalidText ?_
    walk_at "rs"
    simp only [rLen_lst l3]
    walk_at "rs"
    rw [if_neg (by decide)]
    refine ⟨_, rfl, T.xf_InvalidData, T.nn_InvalidData, ?_⟩
    walk_at "rs"
    refine ⟨d, _, .str "InvalidData", rfl, d3, rfl, ?_⟩
    have ei : atI [V.str "InvalidData"] 0 = some (.str "InvalidData") := rfl
    simp only [rIx_lst l3, ei]
    walk_at "rs"
    simp only [decide_true, Bool.not_true, Bool.false_eq_true, if_false]
    simp only [rIx_lst l3, ei]
    refine ⟨_, rfl, T.xf_InvalidData, T.np_InvalidData, ?_⟩
    walk_at "rs"
    exact ⟨d, _, .int l, rfl, d3, rfl, sz 2 (by decide), nw fun q H4 hq0 s4 e4 => hq q H4 (s3.trans s4) e4⟩
end

end My

namespace My
open PySem PySem.Spec PyProof.Rows L2 R
local macro_rules | `(tactic| walk_at "rs") => `(tactic| ((try simp only [tSeq, tAp_e, tAsg, gName, tv0, tvs, tC, tOp, tUn, tTest, tAnd, tOr, tNot, tIf, tIfS, tRet, tRetN, tNext, tDrop, tCB, tCons, tNil, tAug_e, tCall, tAndV, tOrV, tChain, tTr, tNotU, tML, tMS, tForU, iLst, iTp, iSt, iRng1, iRng2, tLcU, tLst_e, tTup_e, tSl, tPart_e, tNoPart, tYes, tBreak, tCont, tRs_e, tCallW_e, tMkF,   rSub_int, rFdiv_int, rMod_int, rShl_int, rShr_int, rXor_int, rAndB_int, rOrB_int, rPow_int, rAddU_int, rAddU_str, rMul_int, rIadd_int, rIadd_str, rLt_int, rLe_int, rGt_int, rGe_int, rEqU_int, rNeU_int, rEqU_str, rNeU_str, rEqU_bl, rNeU_bl, rInt_int, rAbs_int, rMax2_int, rMin2_int, mU_int, truV_bl, truV_int, truV_non, exBl, exInt, exInt2, exIntV, rLen_str, rIx_str, rSl_str, rInU_str,    List.set_cons_zero, List.set_cons_succ, List.append_nil, List.nil_append, List.cons_append, List.length_cons, List.length_nil, if_true, if_false, ite_true, ite_false, Bool.false_eq_true, decide_eq_true_eq, Bool.not_true, Bool.not_false, Bool.not_eq_true, Bool.not_eq_false, exists_eq_left', exists_eq_left, V.bl.injEq, V.int.injEq, V.str.injEq, V.ref.injEq, reduceCtorEq, and_true, true_and, ↓reduceIte]); (try with_reducible intro (ap : R.Apart _ _))))
local macro_rules | `(tactic| walk_at "rh") => `(tactic| ((try simp only [tSeq, tAp_e, tAsg, gName, tv0, tvs, tC, tOp, tUn, tTest, tAnd, tOr, tNot, tIf, tIfS, tRet, tRetN, tNext, tDrop, tCB, tCons, tNil, tAug_e, tCall, tAndV, tOrV, tChain, tTr, tNotU, tML, tMS, tForU, iLst, iTp, iSt, iRng1, iRng2, tLcU, tLst_e, tTup_e, tSl, tPart_e, tNoPart, tYes, tBreak, tCont, tRs_e, tCallW_e, tMkF,   rSub_int, rFdiv_int, rMod_int, rShl_int, rShr_int, rXor_int, rAndB_int, rOrB_int, rPow_int, rAddU_int, rAddU_str, rMul_int, rIadd_int, rIadd_str, rLt_int, rLe_int, rGt_int, rGe_int, rEqU_int, rNeU_int, rEqU_str, rNeU_str, rEqU_bl, rNeU_bl, rInt_int, rAbs_int, rMax2_int, rMin2_int, mU_int, truV_bl, truV_int, truV_non, exBl, exInt, exInt2, exIntV, rLen_str, rIx_str, rSl_str, rInU_str,    List.set_cons_zero, List.set_cons_succ, List.append_nil, List.nil_append, List.cons_append, List.length_cons, List.length_nil, if_true, if_false, ite_true, ite_false, Bool.false_eq_true, decide_eq_true_eq, Bool.not_true, Bool.not_false, Bool.not_eq_true, Bool.not_eq_false, exists_eq_left', exists_eq_left, V.bl.injEq, V.int.injEq, V.str.injEq, V.ref.injEq, reduceCtorEq, and_true, true_and, ↓reduceIte]); (try with_reducible intro (ap : R.Apart _ _)); (try simp only [tSeq, tAp_e, tAsg, gName, tv0, tvs, tC, tOp, tUn, tTest, tAnd, tOr, tNot, tIf, tIfS, tRet, tRetN, tNext, tDrop, tCB, tCons, tNil, tAug_e, tCall, tAndV, tOrV, tChain, tTr, tNotU, tML, tMS, tForU, iLst, iTp, iSt, iRng1, iRng2, tLcU, tLst_e, tTup_e, tSl, tPart_e, tNoPart, tYes, tBreak, tCont, tRs_e, tCallW_e, tMkF,   rSub_int, rFdiv_int, rMod_int, rShl_int, rShr_int, rXor_int, rAndB_int, rOrB_int, rPow_int, rAddU_int, rAddU_str, rMul_int, rIadd_int, rIadd_str, rLt_int, rLe_int, rGt_int, rGe_int, rEqU_int, rNeU_int, rEqU_str, rNeU_str, rEqU_bl, rNeU_bl, rInt_int, rAbs_int, rMax2_int, rMin2_int, mU_int, truV_bl, truV_int, truV_non, exBl, exInt, exInt2, exIntV, rLen_str, rIx_str, rSl_str, rInU_str,    List.set_cons_zero, List.set_cons_succ, List.append_nil, List.nil_append, List.cons_append, List.length_cons, List.length_nil, if_true, if_false, ite_true, ite_false, Bool.false_eq_true, decide_eq_true_eq, Bool.not_true, Bool.not_false, Bool.not_eq_true, Bool.not_eq_false, exists_eq_left', exists_eq_left, V.bl.injEq, V.int.injEq, V.str.injEq, V.ref.injEq, reduceCtorEq, and_true, true_and, ↓reduceIte, sqv_e, rLenU_ref, rListOf_ref, rIxU_ref, rSlU_ref, rApp_ref, rAddU_ref, truV_ref, rInU_ref, rMulU_ref, true_implies, forall_const, *])))

open N9
section
variable {P : Program} {w : World} {G : GG} {mg : Str → Option Value} {base : Heap} (T : Top P w G mg base) {vs : List V} {H : Hp} {Q : VK} {E : XK}
include T
theorem rd__law_draw (h : sp__law_draw G vs H Q E) : t__law_draw G {nx := fun _ H' => Q .non H', rt := Q} (start N__law_draw vs) H := by
  obtain ⟨cell, b, rfl, rfl, hq⟩ := h
  show t__law_draw G _ [some (.int cell), some (.int 20), some (.int 1048576), none, none, none, none] H
  unfold t__law_draw
  walk_at "rs"
  refine ⟨sz 0 (by decide), nw fun l H1 hl s1 e1 => ?_⟩
  refine ⟨⟨by decide, by decide, by decide⟩, ?_⟩
  have key : ∀ (j : Nat) (H' : Hp) (i : Int) (ns : List Nat), ns.length = j → (∀ n ∈ ns, n < 1048576) → Same H H' → ∃ ns' : List Nat, ns'.length = j + 1 ∧ (∀ n ∈ ns', n < 1048576) ∧ Same H (L2.upd H' l (.lst (octs ns ++ [V.int (i % 1048576)]))) ∧ (L2.upd H' l (.lst (octs ns ++ [V.int (i % 1048576)]))) l = some (.lst (octs ns')) := by
    intro j H' i ns h1 h2 h3
    refine ⟨ns ++ [(i % 1048576).toNat], by simp [h1], ?_, Same.upd h3 hl, ?_⟩
    · intro n hn
      rcases List.mem_append.mp hn with h | h
      · exact h2 n h
      · simp at h; omega
    · rw [upd_same, octs_snoc (n := (i % 1048576).toNat) (by omega)]
  split
  · unfold t__law_draw_3
    walk_at "rs"
    refine ⟨by decide, by decide, ?_⟩
    refine goesR (n := 20) (fun j σ H' => ∃ (ns : List Nat) (c : Int) (u v w : Option V), σ = [some (.int c), some (.int 20), some (.int 1048576), some (.ref l), u, v, w] ∧ ns.length = j ∧ (∀ n ∈ ns, n < 1048576) ∧ Same H H' ∧ H' l = some (.lst (octs ns)))
      ⟨[], _, _, _, _, rfl, rfl, by simp, s1, e1⟩ ?_ ?_
    · rintro j σ H' hj ⟨ns, c, u, v, w, rfl, hn, hlt, s2, e2⟩
      unfold t__law_draw_1
      have l2 : lstv G.K H' l = some (octs ns) := lstv_of e2
      obtain ⟨ns', k1, k2, k3, k4⟩ := key j H' c ns hn hlt s2
      walk_at "rs"
      simp only [l2, rApp_lst e2]
      refine ⟨by decide, szl _ (by rw [octs_len]; omega), ?_⟩
      walk_at "rs"
      exact ⟨cd_small (by decide) (by decide), ns', _, _, _, _, rfl, k1, k2, k3, k4⟩
    · rintro σ H' ⟨ns, c, u, v, w, rfl, hn, hlt, s2, e2⟩
      unfold t__law_draw_2
      walk_at "rs"
      exact hq ns hn hlt l H' s2 e2
  · unfold t__law_draw_6
    walk_at "rs"
    refine ⟨by decide, by decide, by decide, ?_⟩
    refine goesR (n := 20) (fun j σ H' => ∃ (ns : List Nat) (c : Int) (u v : Option V), σ = [some (.int cell), some (.int 20), some (.int 1048576), some (.ref l), u, some (.int c), v] ∧ ns.length = j ∧ (∀ n ∈ ns, n < 1048576) ∧ Same H H' ∧ H' l = some (.lst (octs ns)))
      ⟨[], _, _, _, rfl, rfl, by simp, s1, e1⟩ ?_ ?_
    · rintro j σ H' hj ⟨ns, c, u, v, rfl, hn, hlt, s2, e2⟩
      unfold t__law_draw_4
      have l2 : lstv G.K H' l = some (octs ns) := lstv_of e2
      walk_at "rs"
      refine ⟨cm_r (by decide) (by decide), by decide, cm_r (by decide) (by decide), cm_l (by decide) (by decide), by decide, ?_⟩
      simp only [l2, rApp_lst e2]
      refine ⟨cd_small (by decide) (by decide), by decide, szl _ (by rw [octs_len]; omega), ?_⟩
      obtain ⟨ns', k1, k2, k3, k4⟩ := key j H' _ ns hn hlt s2
      exact ⟨ns', _, _, _, rfl, k1, k2, k3, k4⟩
    · rintro σ H' ⟨ns, c, u, v, rfl, hn, hlt, s2, e2⟩
      unfold t__law_draw_5
      walk_at "rs"
      exact hq ns hn hlt l H' s2 e2
omit T in
theorem oat20 {ns : List Nat} (hz : ns.length = 20) (hlt : ∀ n ∈ ns, n < 1048576) (j : Int) (h0 : 0 ≤ j := by decide) (h : j < 20 := by decide) : ∃ n : Nat, n < 1048576 ∧ atI (octs ns) j = some (.int n) := by
  obtain ⟨n, h1, h2⟩ := oat (ns := ns) h0 (by omega)
  exact ⟨n, hlt n (List.mem_of_getElem? h1), h2⟩
theorem rd__law_number (h : sp__law_number G vs H Q E) : t__law_number G {nx := fun _ H' => Q .non H', rt := Q} (start N__law_number vs) H := by
  obtain ⟨a, ns, rfl, ha, hz, hlt, hq⟩ := h
  have la : lstv G.K H a = some (octs ns) := lstv_of ha
  obtain ⟨n0, h0, i0⟩ := oat20 hz hlt 0
  obtain ⟨n1, h1, i1⟩ := oat20 hz hlt 1
  obtain ⟨n2, h2, i2⟩ := oat20 hz hlt 2
  obtain ⟨n3, h3, i3⟩ := oat20 hz hlt 3
  obtain ⟨n4, h4, i4⟩ := oat20 hz hlt 4
  show t__law_number G _ [some (.ref a), none] H
  have c63 : CS 1 63 := cs_small (by decide) (by decide) (by decide)
  have c64 : CS 1 64 := cs_small (by decide) (by decide) (by decide)
  have p63 : (1 : Int) * 2 ^ Int.toNat 63 = 9223372036854775808 := by decide
  have p64 : (1 : Int) * 2 ^ Int.toNat 64 = 18446744073709551616 := by decide
  unfold t__law_number
  walk_at "rs"
  simp only [rIx_lst la, i0]
  walk_at "rs"
  refine ⟨by decide, ?_⟩
  split
  · simp only [rIx_lst la, i1]
    walk_at "rs"
    exact ⟨by decide, hq _ _ (by omega) (by omega) (Same.refl _)⟩
  · unfold t__law_number_3
    walk_at "rs"
    simp only [rIx_lst la, i0]
    walk_at "rs"
    refine ⟨by decide, ?_⟩
    split
    · unfold t__law_number_1
      walk_at "rs"
      simp only [rIx_lst la, i1]
      walk_at "rs"
      refine ⟨by decide, ?_⟩
      refine ⟨cs_small (by omega) (by omega) (by decide), c63, c63, sz 2 (by decide), nw fun p H1 hp s1 e1 => ?_⟩
      have l1 : lstv G.K H1 a = some (octs ns) := lstv_of (s1 _ _ ha)
      have lp := lstv_of (K := G.K) e1
      simp only [rIx_lst l1, i2]
      walk_at "rs"
      refine ⟨by decide, ?_⟩
      obtain ⟨c, hc⟩ : ∃ c, atI [V.int (1 * 2 ^ ((n1 : Int) % 64).toNat), V.int (0 - 1 * 2 ^ ((n1 : Int) % 64).toNat)] ((n2 : Int) % 2) = some (.int c) := by
        rcases (show (n2 : Int) % 2 = 0 ∨ (n2 : Int) % 2 = 1 by omega) with e | e <;> rw [e]
        · exact ⟨_, rfl⟩
        · exact ⟨_, rfl⟩
      simp only [rIx_lst lp, hc]
      simp only [rIx_lst l1, i3]
      walk_at "rs"
      refine ⟨by decide, ?_⟩
      rw [p63]
      exact hq _ _ (by split <;> split <;> omega) (by split <;> split <;> omega) s1
    · unfold t__law_number_2
      walk_at "rs"
      simp only [rIx_lst la, i1]
      walk_at "rs"
      simp only [rIx_lst la, i2]
      walk_at "rs"
      simp only [rIx_lst la, i3]
      walk_at "rs"
      simp only [rIx_lst la, i4]
      walk_at "rs"
      rw [p63, p64]
      exact ⟨cs_small (by decide) (by decide) (by omega), cs_small (by decide) (by decide) (by omega), cs_small (by decide) (by decide) (by omega), c64, by decide, c63, hq _ _ (by omega) (by omega) (Same.refl _)⟩
end

end My

namespace My
open PySem PySem.Spec PyProof.Rows L2 R
local macro_rules | `(tactic| walk_at "rs") => `(tactic| ((try simp only [tSeq, tAp_e, tAsg, gName, tv0, tvs, tC, tOp, tUn, tTest, tAnd, tOr, tNot, tIf, tIfS, tRet, tRetN, tNext, tDrop, tCB, tCons, tNil, tAug_e, tCall, tAndV, tOrV, tChain, tTr, tNotU, tML, tMS, tForU, iLst, iTp, iSt, iRng1, iRng2, tLcU, tLst_e, tTup_e, tSl, tPart_e, tNoPart, tYes, tBreak, tCont, tRs_e, tCallW_e, tMkF,   rSub_int, rFdiv_int, rMod_int, rShl_int, rShr_int, rXor_int, rAndB_int, rOrB_int, rPow_int, rAddU_int, rAddU_str, rMul_int, rIadd_int, rIadd_str, rLt_int, rLe_int, rGt_int, rGe_int, rEqU_int, rNeU_int, rEqU_str, rNeU_str, rEqU_bl, rNeU_bl, rInt_int, rAbs_int, rMax2_int, rMin2_int, mU_int, truV_bl, truV_int, truV_non, exBl, exInt, exInt2, exIntV, rLen_str, rIx_str, rSl_str, rInU_str,    List.set_cons_zero, List.set_cons_succ, List.append_nil, List.nil_append, List.cons_append, List.length_cons, List.length_nil, if_true, if_false, ite_true, ite_false, Bool.false_eq_true, decide_eq_true_eq, Bool.not_true, Bool.not_false, Bool.not_eq_true, Bool.not_eq_false, exists_eq_left', exists_eq_left, V.bl.injEq, V.int.injEq, V.str.injEq, V.ref.injEq, reduceCtorEq, and_true, true_and, ↓reduceIte]); (try with_reducible intro (ap : R.Apart _ _))))
local macro_rules | `(tactic| walk_at "rh") => `(tactic| ((try simp only [tSeq, tAp_e, tAsg, gName, tv0, tvs, tC, tOp, tUn, tTest, tAnd, tOr, tNot, tIf, tIfS, tRet, tRetN, tNext, tDrop, tCB, tCons, tNil, tAug_e, tCall, tAndV, tOrV, tChain, tTr, tNotU, tML, tMS, tForU, iLst, iTp, iSt, iRng1, iRng2, tLcU, tLst_e, tTup_e, tSl, tPart_e, tNoPart, tYes, tBreak, tCont, tRs_e, tCallW_e, tMkF,   rSub_int, rFdiv_int, rMod_int, rShl_int, rShr_int, rXor_int, rAndB_int, rOrB_int, rPow_int, rAddU_int, rAddU_str, rMul_int, rIadd_int, rIadd_str, rLt_int, rLe_int, rGt_int, rGe_int, rEqU_int, rNeU_int, rEqU_str, rNeU_str, rEqU_bl, rNeU_bl, rInt_int, rAbs_int, rMax2_int, rMin2_int, mU_int, truV_bl, truV_int, truV_non, exBl, exInt, exInt2, exIntV, rLen_str, rIx_str, rSl_str, rInU_str,    List.set_cons_zero, List.set_cons_succ, List.append_nil, List.nil_append, List.cons_append, List.length_cons, List.length_nil, if_true, if_false, ite_true, ite_false, Bool.false_eq_true, decide_eq_true_eq, Bool.not_true, Bool.not_false, Bool.not_eq_true, Bool.not_eq_false, exists_eq_left', exists_eq_left, V.bl.injEq, V.int.injEq, V.str.injEq, V.ref.injEq, reduceCtorEq, and_true, true_and, ↓reduceIte]); (try with_reducible intro (ap : R.Apart _ _)); (try simp only [tSeq, tAp_e, tAsg, gName, tv0, tvs, tC, tOp, tUn, tTest, tAnd, tOr, tNot, tIf, tIfS, tRet, tRetN, tNext, tDrop, tCB, tCons, tNil, tAug_e, tCall, tAndV, tOrV, tChain, tTr, tNotU, tML, tMS, tForU, iLst, iTp, iSt, iRng1, iRng2, tLcU, tLst_e, tTup_e, tSl, tPart_e, tNoPart, tYes, tBreak, tCont, tRs_e, tCallW_e, tMkF,   rSub_int, rFdiv_int, rMod_int, rShl_int, rShr_int, rXor_int, rAndB_int, rOrB_int, rPow_int, rAddU_int, rAddU_str, rMul_int, rIadd_int, rIadd_str, rLt_int, rLe_int, rGt_int, rGe_int, rEqU_int, rNeU_int, rEqU_str, rNeU_str, rEqU_bl, rNeU_bl, rInt_int, rAbs_int, rMax2_int, rMin2_int, mU_int, truV_bl, truV_int, truV_non, exBl, exInt, exInt2, exIntV, rLen_str, rIx_str, rSl_str, rInU_str,    List.set_cons_zero, List.set_cons_succ, List.append_nil, List.nil_append, List.cons_append, List.length_cons, List.length_nil, if_true, if_false, ite_true, ite_false, Bool.false_eq_true, decide_eq_true_eq, Bool.not_true, Bool.not_false, Bool.not_eq_true, Bool.not_eq_false, exists_eq_left', exists_eq_left, V.bl.injEq, V.int.injEq, V.str.injEq, V.ref.injEq, reduceCtorEq, and_true, true_and, ↓reduceIte, sqv_e, rLenU_ref, rListOf_ref, rIxU_ref, rSlU_ref, rApp_ref, rAddU_ref, truV_ref, rInU_ref, rMulU_ref, true_implies, forall_const, *])))

open N9
section
variable {P : Program} {w : World} {G : GG} {mg : Str → Option Value} {base : Heap} {H : Hp} {D : Ends}
/-- what a turn is to end by -/
abbrev Good (D : Ends) (H : Hp) (a : Addr) : Prop := ∀ (u1 u2 u3 u4 u5 u6 u7 u8 u9 u10 u11 : Option V) (H' : Hp), Same H H' → D.nx [some (.ref a), u1, u2, u3, u4, u5, u6, u7, u8, u9, u10, u11] H'
theorem Good.mono {H H' : Hp} {a : Addr} (g : Good D H a) (s : Same H H') : Good D H' a := fun u1 u2 u3 u4 u5 u6 u7 u8 u9 u10 u11 H2 s2 => g u1 u2 u3 u4 u5 u6 u7 u8 u9 u10 u11 H2 (s.trans s2)
theorem resV_dp (r : Res) : ∃ d : PyData, SeqAt.shaped d = true ∧ ∀ (K : PySem.W.Frag) (H : Hp) (q : Addr), H q = some (.tup (resV r)) → Dp K H (.ref q) d := by
  cases r with
  | ok n p => exact ⟨.tuple [.int n, .int p], rfl, fun K H q e => .tup (SqT.of e) (.cons (.int _) (.cons (.int _) .nil))⟩
  | tr l => exact ⟨.tuple [.str "Truncated", .int l], by kernel_rfl, fun K H q e => .tup (SqT.of e) (.cons (.str _) (.cons (.int _) .nil))⟩
  | bad l => exact ⟨.tuple [.str "InvalidData", .int l], by kernel_rfl, fun K H q e => .tup (SqT.of e) (.cons (.str _) (.cons (.int _) .nil))⟩
variable {a d p o : Addr} {u1 u2 u3 u4 u5 u6 u7 u8 u9 u10 u11 : Option V} {ds ns : List Nat}
theorem b_1 (hd : H d = some (.lst (octs ds))) (hlt : ∀ n ∈ ds, n < 256) (hz : ds.length ≤ 60) (at_ : Nat) (hat : at_ ≤ 60) (g : Good D H a) :
    t_law_1 G D [some (.ref a), u1, u2, u3, u4, u5, u6, u7, some (.ref d), some (.int at_), u10, u11] H := by
  unfold t_law_1
  walk_at "rs"
  simp only [rListOf_lst (lstv_of (K := G.K) hd)]
  refine nw fun h H1 hh s1 e1 => ?_
  have d1 := s1 _ _ hd
  walk_at "rs"
  refine ⟨h, ds, at_, rfl, lstv_of e1, hlt, by omega, by omega, fun q1 H2 s2 e2 => ?_⟩
  walk_at "rs"
  refine ⟨d, ds, at_, rfl, lstv_of (s2 _ _ d1), hlt, by omega, by omega, fun q2 H3 s3 e3 => ?_⟩
  obtain ⟨dd, sh, hdp⟩ := resV_dp (read ds at_)
  refine rNe_same dd rfl (hdp _ _ _ (s3 _ _ e2)) (hdp _ _ _ e3) sh ?_
  walk_at "rs"
  refine rNe_octs (lstv_of (s3 _ _ (s2 _ _ e1))) (lstv_of (s3 _ _ (s2 _ _ d1))) ?_
  walk_at "rs"
  simp only [decide_true, Bool.not_true, Bool.false_eq_true, if_false]
  exact g _ _ _ _ _ _ _ _ _ _ _ _ (s1.trans (s2.trans s3))
theorem b_2 (hp : H p = some (.lst (octs ns))) (hn : ns.length = 20) (hnl : ∀ n ∈ ns, n < 1048576) (hd : H d = some (.lst (octs ds))) (hlt : ∀ n ∈ ds, n < 256) (hz : ds.length ≤ 59) (g : Good D H a) :
    t_law_2 G D [some (.ref a), u1, some (.ref p), u3, u4, u5, u6, u7, some (.ref d), u9, u10, u11] H := by
  have lp : lstv G.K H p = some (octs ns) := lstv_of hp
  obtain ⟨n13, h13, i13⟩ := oat20 hn hnl 13
  obtain ⟨n14, h14, i14⟩ := oat20 hn hnl 14
  unfold t_law_2
  walk_at "rs"
  simp only [rIx_lst lp, i13, rLen_lst (lstv_of (K := G.K) hd), octs_len]
  walk_at "rs"
  simp only [rIx_lst lp, i14]
  walk_at "rs"
  refine ⟨by omega, by decide, ?_⟩
  split
  · exact b_1 hd hlt (by omega) 0 (by omega) g
  · obtain ⟨at_, e⟩ := Int.eq_ofNat_of_zero_le (show 0 ≤ (n13 : Int) % ((ds.length : Int) + 1) from Int.emod_nonneg _ (by omega))
    have : (n13 : Int) % ((ds.length : Int) + 1) < (ds.length : Int) + 1 := Int.emod_lt_of_pos _ (by omega)
    rw [e]
    exact b_1 hd hlt (by omega) at_ (by omega) g
theorem b_3 (hp : H p = some (.lst (octs ns))) (hn : ns.length = 20) (hnl : ∀ n ∈ ns, n < 1048576) (hd : H d = some (.lst (octs ds))) (hlt : ∀ n ∈ ds, n < 256) (hz : ds.length ≤ 50) (z : Nat) (hz64 : z < 2 ^ 64) (ho : H o = some (.lst (octs (dig z)))) (g : Good D H a) :
    t_law_3 G D [some (.ref a), u1, some (.ref p), u3, some (.ref o), u5, u6, u7, some (.ref d), u9, u10, u11] H := by
  have lp : lstv G.K H p = some (octs ns) := lstv_of hp
  have lo : lstv G.K H o = some (octs (dig z)) := lstv_of ho
  obtain ⟨n11, h11, i11⟩ := oat20 hn hnl 11
  have hl10 := dig_len10 hz64
  have hpos := dig_pos z
  have hoct := dig_oct z z (Nat.le_refl _)
  unfold t_law_3
  walk_at "rs"
  simp only [rIx_lst lp, i11]
  walk_at "rs"
  refine ⟨by decide, ?_⟩
  split
  · simp only [rLen_lst lo, octs_len]
    walk_at "rs"
    simp only [rSl_lst lo]
    refine nw fun c H1 hc s1 e1 => ?_
    have lo1 : lstv G.K H1 o = some (octs (dig z)) := lstv_of (s1 _ _ ho)
    simp only [rLen_lst lo1, octs_len]
    walk_at "rs"
    obtain ⟨ys, y, ey, hy⟩ := dig_last z
    have hi : atI (octs (dig z)) (((dig z).length : Int) - 1) = some (.int y) := by
      have := octs_get (ns := dig z) (i := (dig z).length - 1) (n := y) (by rw [ey]; simp)
      rw [show (((dig z).length - 1 : Nat) : Int) = ((dig z).length : Int) - 1 by omega] at this
      exact this
    simp only [rIx_lst lo1, hi]
    walk_at "rs"
    refine ⟨sz 2 (by decide), nw fun c2 H2 hc2 s2 e2 => ?_⟩
    obtain ⟨ms, em, hm1, hm2⟩ := cut_octs (dig z) none (some (((dig z).length : Int) - 1))
    rw [em] at e1
    rw [rAddU_lst (s2 _ _ e1) e2]
    refine ⟨sz _ (by rw [octs_len]; simp; omega), nw fun q H3 hq s3 e3 => ?_⟩
    have e4 : octs ms ++ [V.int ((y : Int) + 128), V.int 0] = octs (ms ++ [y + 128, 0]) := by simp [octs]
    rw [e4] at e3
    have s4 := s1.trans (s2.trans s3)
    refine b_2 (s4 _ _ hp) hn hnl e3 ?_ (by simp; omega) (g.mono s4)
    intro n hn
    rcases List.mem_append.mp hn with h | h
    · exact hoct n (hm2 n h)
    · simp at h; omega
  · exact b_2 hp hn hnl hd hlt (by omega) g
theorem b_4 (hp : H p = some (.lst (octs ns))) (hn : ns.length = 20) (hnl : ∀ n ∈ ns, n < 1048576) (z : Nat) (hz64 : z < 2 ^ 64) (ho : H o = some (.lst (octs (dig z)))) (g : Good D H a) :
    t_law_4 G D [some (.ref a), u1, some (.ref p), u3, some (.ref o), u5, u6, u7, u8, u9, u10, u11] H := by
  have lp : lstv G.K H p = some (octs ns) := lstv_of hp
  obtain ⟨n7, h7, i7⟩ := oat20 hn hnl 7
  obtain ⟨n9, h9, i9⟩ := oat20 hn hnl 9
  obtain ⟨n10, h10, i10⟩ := oat20 hn hnl 10
  obtain ⟨n11, h11, i11⟩ := oat20 hn hnl 11
  obtain ⟨n12, h12, i12⟩ := oat20 hn hnl 12
  unfold t_law_4
  walk_at "rs"
  simp only [rIx_lst lp, i7]
  walk_at "rs"
  refine ⟨by decide, ?_⟩
  simp only [rSl_lst lp]
  refine nw fun c H1 hc s1 e1 => ?_
  obtain ⟨ms, em, hm1, hm2⟩ := cut_octs ns (some 8) (some (8 + (n7 : Int) % 12))
  rw [em] at e1
  simp only [lstv_of (K := G.K) e1]
  refine lcO (fun n => 128 + n % 128) (fun H' s => lstv_of (s _ _ e1)) (by omega) ?_ ?_
  · intro n hn2 H' s Qy Qn hy
    show gName 11 _ _ _ _
    simp only [wipe, List.foldl, List.set_cons_zero, List.set_cons_succ]
    walk_at "rs"
    refine ⟨by decide, ?_⟩
    exact hy _ (Same.refl _)
  · intro l H2 hl s2 e2
    have l2 : lstv G.K H2 p = some (octs ns) := lstv_of (s2 _ _ (s1 _ _ hp))
    walk_at "rs"
    simp only [rIx_lst l2, i9]
    walk_at "rs"
    refine ⟨by decide, sz 1 (by decide), nw fun m H3 hm s3 e3 => ?_⟩
    have l3 : lstv G.K H3 p = some (octs ns) := lstv_of (s3 _ _ (s2 _ _ (s1 _ _ hp)))
    simp only [rIx_lst l3, i10]
    walk_at "rs"
    simp only [rMulU_ref, e3]
    obtain ⟨ks, ek, hk1, hk2⟩ : ∃ ks : List Nat, (List.replicate ((n10 : Int) % 2).toNat [V.int ((n9 : Int) % 128)]).flatten = octs ks ∧ ks.length ≤ 1 ∧ ∀ k ∈ ks, k < 128 := by
      rcases (show (n10 : Int) % 2 = 0 ∨ (n10 : Int) % 2 = 1 by omega) with e | e <;> rw [e]
      · exact ⟨[], rfl, by simp, by simp⟩
      · exact ⟨[n9 % 128], rfl, by simp, by simp; omega⟩
    rw [ek]
    refine ⟨by decide, by omega, by omega, sz _ (by simp; omega), nw fun m2 H4 hm2' s4 e4 => ?_⟩
    rw [rAddU_lst (s4 _ _ (s3 _ _ e2)) e4]
    refine ⟨sz _ (by rw [octs_len, octs_len, List.length_map]; omega), nw fun d H5 hd s5 e5 => ?_⟩
    have ea : octs (ms.map fun n => 128 + n % 128) ++ octs ks = octs ((ms.map fun n => 128 + n % 128) ++ ks) := by simp [octs]
    rw [ea] at e5
    have s6 : Same H H5 := s1.trans (s2.trans (s3.trans (s4.trans s5)))
    have l5 : lstv G.K H5 p = some (octs ns) := lstv_of (s6 _ _ hp)
    simp only [rIx_lst l5, i11]
    walk_at "rs"
    refine ⟨by decide, ?_⟩
    split
    · refine ⟨sz 1 (by decide), nw fun x1 H6 hx1 s7 e7 => ?_⟩
      simp only [rMulU_ref, e7]
      refine ⟨by decide, by decide, sz _ (by decide), nw fun x2 H7 hx2 s8 e8 => ?_⟩
      have l7 : lstv G.K H7 p = some (octs ns) := lstv_of (s8 _ _ (s7 _ _ (s6 _ _ hp)))
      simp only [rIx_lst l7, i12]
      walk_at "rs"
      refine ⟨by decide, sz 2 (by decide), nw fun x3 H8 hx3 s9 e9 => ?_⟩
      rw [rAddU_lst (s9 _ _ e8) e9]
      refine ⟨sz _ (show 9 + 2 ≤ 10000000 by decide), nw fun d2 H9 hd2 s10 e10 => ?_⟩
      have s11 := s6.trans (s7.trans (s8.trans (s9.trans s10)))
      have eb : (List.replicate (Int.toNat 9) [V.int 255]).flatten ++ [V.int ((n12 : Int) % 4), V.int 1] = octs (List.replicate 9 255 ++ [n12 % 4, 1]) := rfl
      rw [eb] at e10
      refine b_3 (s11 _ _ hp) hn hnl e10 ?_ (by simp) z hz64 (s11 _ _ ho) (g.mono s11)
      intro n hn
      simp at hn
      omega
    · refine b_3 (s6 _ _ hp) hn hnl e5 ?_ (by simp; omega) z hz64 (s6 _ _ ho) (g.mono s6)
      intro n hn
      rcases List.mem_append.mp hn with h | h
      · obtain ⟨k, _, rfl⟩ := List.mem_map.mp h
        omega
      · have := hk2 n h
        omega
theorem b_5 (hp : H p = some (.lst (octs ns))) (hn : ns.length = 20) (hnl : ∀ n ∈ ns, n < 1048576) (n : Int) (h1 : -(2 ^ 63) ≤ n) (h2 : n < 2 ^ 63) (ho : H o = some (.lst (octs (dig (zig n))))) (g : Good D H a) :
    t_law_5 G D [some (.ref a), u1, some (.ref p), some (.int n), some (.ref o), u5, u6, u7, u8, u9, u10, u11] H := by
  have lp : lstv G.K H p = some (octs ns) := lstv_of hp
  have hz64 := zig_lt n h1 h2
  obtain ⟨n5, h5, i5⟩ := oat20 hn hnl 5
  obtain ⟨n6, h6, i6⟩ := oat20 hn hnl 6
  unfold t_law_5
  walk_at "rs"
  simp only [rIx_lst lp, i5]
  walk_at "rs"
  refine ⟨by decide, ?_⟩
  simp only [rSl_lst lp]
  refine nw fun c H1 hc s1 e1 => ?_
  obtain ⟨ms, em, hm1, hm2⟩ := cut_octs ns (some 5) (some (5 + (n5 : Int) % 4))
  rw [em] at e1
  simp only [lstv_of (K := G.K) e1]
  refine lcO (fun n => n % 256) (fun H' s => lstv_of (s _ _ e1)) (by omega) ?_ ?_
  · intro n hn2 H' s Qy Qn hy
    show gName 11 _ _ _ _
    simp only [wipe, List.foldl, List.set_cons_zero, List.set_cons_succ]
    walk_at "rs"
    refine ⟨by decide, ?_⟩
    exact hy _ (Same.refl _)
  intro b H2 hb s2 e2
  have s12 := s1.trans s2
  have l2 : lstv G.K H2 p = some (octs ns) := lstv_of (s12 _ _ hp)
  walk_at "rs"
  simp only [rIx_lst l2, i6]
  walk_at "rs"
  refine ⟨by decide, ?_⟩
  simp only [rSl_lst l2]
  refine nw fun c2 H3 hc2 s3 e3 => ?_
  obtain ⟨ms2, em2, hm3, hm4⟩ := cut_octs ns (some 9) (some (9 + (n6 : Int) % 3))
  rw [em2] at e3
  simp only [lstv_of (K := G.K) e3]
  refine lcO (fun n => n % 256) (fun H' s => lstv_of (s _ _ e3)) (by omega) ?_ ?_
  · intro n hn2 H' s Qy Qn hy
    show gName 11 _ _ _ _
    simp only [wipe, List.foldl, List.set_cons_zero, List.set_cons_succ]
    walk_at "rs"
    refine ⟨by decide, ?_⟩
    exact hy _ (Same.refl _)
  intro f H4 hf s4 e4
  have s34 := s3.trans s4
  walk_at "rs"
  generalize hB : ms.map (fun n => n % 256) = bs at e2
  generalize hC : ms2.map (fun n => n % 256) = cs at e4
  have hbl : bs.length ≤ 20 := by rw [← hB, List.length_map]; omega
  have hcl : cs.length ≤ 20 := by rw [← hC, List.length_map]; omega
  have hbo : ∀ n ∈ bs, n < 256 := by
    intro n hn; rw [← hB] at hn; obtain ⟨k, _, rfl⟩ := List.mem_map.mp hn; omega
  have hco : ∀ n ∈ cs, n < 256 := by
    intro n hn; rw [← hC] at hn; obtain ⟨k, _, rfl⟩ := List.mem_map.mp hn; omega
  have hdl := dig_len10 hz64
  have hdo := dig_oct (zig n) (zig n) (Nat.le_refl _)
  have e24 := s34 _ _ e2
  rw [rAddU_lst e24 (s34 _ _ (s12 _ _ ho))]
  refine ⟨sz _ (by rw [octs_len, octs_len]; omega), nw fun v H5 hv s5 e5 => ?_⟩
  rw [rAddU_lst e5 (s5 _ _ e4)]
  refine ⟨sz _ (by rw [List.length_append, octs_len, octs_len, octs_len]; omega), nw fun v2 H6 hv2 s6 e6 => ?_⟩
  have ea : octs bs ++ octs (dig (zig n)) ++ octs cs = octs (bs ++ dig (zig n) ++ cs) := by simp [octs]
  rw [ea] at e6
  have s56 := s5.trans s6
  simp only [rLen_lst (lstv_of (K := G.K) (s56 _ _ e24)), octs_len]
  refine ⟨v2, bs ++ dig (zig n) ++ cs, bs.length, rfl, lstv_of e6, ?_, by simp; omega, by omega, ?_⟩
  · intro m hm
    rcases List.mem_append.mp hm with h | h
    · rcases List.mem_append.mp h with h | h
      · exact hbo m h
      · exact hdo m h
    · exact hco m h
  rw [read_zig bs cs n h1 h2]
  intro q H7 s7 e7
  walk_at "rs"
  have s8 : Same H H7 := s12.trans (s34.trans (s56.trans s7))
  simp only [rLen_lst (lstv_of (K := G.K) (s7 _ _ (s56 _ _ e24))), rLen_lst (lstv_of (K := G.K) (s8 _ _ ho)), octs_len]
  walk_at "rs"
  refine ⟨sz 2 (by decide), nw fun q2 H8 hq2 s9 e9 => ?_⟩
  have e10 := s9 _ _ e7
  refine rNe_same (.tuple [.int n, .int ((bs.length : Int) + (dig (zig n)).length)]) rfl (.tup (SqT.of e10) (.cons (.int _) (.cons (.int _) .nil))) (.tup (SqT.of e9) (.cons (.int _) (.cons (.int _) .nil))) rfl ?_
  walk_at "rs"
  rw [rIx_tup e10]
  refine ⟨n, rfl, ?_⟩
  walk_at "rs"
  have s11 := s8.trans s9
  exact b_4 (s11 _ _ hp) hn hnl (zig n) hz64 (s11 _ _ ho) (g.mono s11)
theorem b_6 (c : Int) (g : Good D H a) : t_law_6 G D [some (.ref a), some (.int c), u2, u3, u4, u5, u6, u7, u8, u9, u10, u11] H := by
  unfold t_law_6
  walk_at "rs"
  refine ⟨cs_small (by decide) (by decide) (by decide), c, _, rfl, by decide, fun ns hn hnl p H1 s1 e1 => ?_⟩
  walk_at "rs"
  refine ⟨p, ns, rfl, e1, hn, hnl, fun n H2 h1 h2 s2 => ?_⟩
  walk_at "rs"
  refine ⟨n, rfl, h1, h2, fun o H3 s3 e3 => ?_⟩
  walk_at "rs"
  refine ⟨n, rfl, h1, h2, fun o2 H4 s4 e4 => ?_⟩
  walk_at "rs"
  have hdl := dig_len10 (zig_lt n h1 h2)
  refine ⟨o, o2, dig (zig n), rfl, by omega, s4 _ _ e3, e4, ?_⟩
  walk_at "rs"
  have s5 := s2.trans (s3.trans s4)
  exact b_5 (s5 _ _ e1) hn hnl n h1 h2 (s4 _ _ e3) (g.mono (s1.trans s5))
theorem rd_law (T : Top P w G mg base) {vs : List V} {Q : VK} {E : XK} (h : sp_law G vs H Q E) : t_law G {nx := fun _ H' => Q .non H', rt := Q} (start N_law vs) H := by
  obtain ⟨a, ns, rfl, hl, hz, hq⟩ := h
  show t_law G _ [some (.ref a), none, none, none, none, none, none, none, none, none, none, none] H
  unfold t_law
  walk_at "rs"
  simp only [rSl_lst hl]
  refine nw fun c H1 hc s1 e1 => ?_
  obtain ⟨ms, em, hm1, hm2⟩ := cutV_map V.int ns none (some 16)
  rw [em] at e1
  refine ⟨sz 1 (by decide), nw fun c2 H2 hc2 s2 e2 => ?_⟩
  rw [rAddU_lst (s2 _ _ e1) e2]
  refine ⟨sz _ (by rw [List.length_map]; simp; omega), nw fun c3 H3 hc3 s3 e3 => ?_⟩
  rw [show ms.map V.int ++ [V.int 2] = (ms ++ [2]).map V.int by simp] at e3
  simp only [lstv_of (K := G.K) e3]
  refine goesL (xs := (ms ++ [2]).map V.int) (fun i σ H' => Same H3 H' ∧ ∃ u1 u2 u3 u4 u5 u6 u7 u8 u9 u10 u11, σ = [some (.ref a), u1, u2, u3, u4, u5, u6, u7, u8, u9, u10, u11]) ⟨Same.refl _, _, _, _, _, _, _, _, _, _, _, _, rfl⟩ (fun i σ H' _ q => lstv_of (q.1 _ _ e3)) ?_ ?_
  · rintro i x σ H' hi ⟨s4, u1, u2, u3, u4, u5, u6, u7, u8, u9, u10, u11, rfl⟩
    obtain ⟨n, _, rfl⟩ := List.mem_map.mp (List.mem_of_getElem? hi)
    walk_at "rs"
    refine b_6 n fun u1 u2 u3 u4 u5 u6 u7 u8 u9 u10 u11 H2 s5 => ⟨s4.trans s5, _, _, _, _, _, _, _, _, _, _, _, rfl⟩
  · rintro σ H' ⟨s4, u1, u2, u3, u4, u5, u6, u7, u8, u9, u10, u11, rfl⟩
    unfold t_law_7
    walk_at "rs"
    exact hq _
end

end My

set_option pp.maxSteps 400
namespace My
open PySem PySem.Spec PyProof.Rows L2 R
theorem len_write_number {G : GG} : ∀ (vs : List V) (H : Hp) (Q : VK) (E : XK), sp_write_number G vs H Q E → vs.length = 1 := by
  intro vs H Q E h
  first | (obtain ⟨rfl, _⟩ := h; rfl) | (obtain ⟨_, rfl, _⟩ := h; rfl) | (obtain ⟨_, _, rfl, _⟩ := h; rfl) | (obtain ⟨_, _, _, rfl, _⟩ := h; rfl) | (obtain ⟨_, _, _, _, rfl, _⟩ := h; rfl) | (obtain ⟨_, _, _, _, _, rfl, _⟩ := h; rfl) | (obtain ⟨_, _, _, _, _, _, rfl, _⟩ := h; rfl) | (obtain ⟨_, _, _, _, _, _, _, rfl, _⟩ := h; rfl) | (obtain ⟨_, _, _, _, _, _, _, _, rfl, _⟩ := h; rfl) | (obtain ⟨_, _, _, _, _, _, _, _, _, rfl, _⟩ := h; rfl) | (obtain ⟨_, _, _, _, _, _, _, _, _, _, rfl, _⟩ := h; rfl) | (obtain ⟨_, _, _, _, _, _, _, _, _, _, _, rfl, _⟩ := h; rfl) | (obtain ⟨_, _, _, _, _, _, _, _, _, _, _, _, rfl, _⟩ := h; rfl) | (obtain ⟨_, _, _, _, _, _, _, _, _, _, _, _, _, rfl, _⟩ := h; rfl)
theorem ok_write_number {P : Program} {w : World} {G : GG} {mg : Str → Option Value} {base : Heap} {f : Addr} {fd : FuncData} (T : Top P w G mg base) (F : Fun G.K "write_number" "write_number" s_write_number f fd) : FnOk P w G.K mg base CX0 1 f fd ["n"] (sp_write_number G) :=
  F.ok sc_write_number len_write_number fun cdv A outer s H vs Q E hr h => ⟨_, dv_write_number T hr, rd_write_number T h⟩
theorem len_read_number {G : GG} : ∀ (vs : List V) (H : Hp) (Q : VK) (E : XK), sp_read_number G vs H Q E → vs.length = 2 := by
  intro vs H Q E h
  first | (obtain ⟨rfl, _⟩ := h; rfl) | (obtain ⟨_, rfl, _⟩ := h; rfl) | (obtain ⟨_, _, rfl, _⟩ := h; rfl) | (obtain ⟨_, _, _, rfl, _⟩ := h; rfl) | (obtain ⟨_, _, _, _, rfl, _⟩ := h; rfl) | (obtain ⟨_, _, _, _, _, rfl, _⟩ := h; rfl) | (obtain ⟨_, _, _, _, _, _, rfl, _⟩ := h; rfl) | (obtain ⟨_, _, _, _, _, _, _, rfl, _⟩ := h; rfl) | (obtain ⟨_, _, _, _, _, _, _, _, rfl, _⟩ := h; rfl) | (obtain ⟨_, _, _, _, _, _, _, _, _, rfl, _⟩ := h; rfl) | (obtain ⟨_, _, _, _, _, _, _, _, _, _, rfl, _⟩ := h; rfl) | (obtain ⟨_, _, _, _, _, _, _, _, _, _, _, rfl, _⟩ := h; rfl) | (obtain ⟨_, _, _, _, _, _, _, _, _, _, _, _, rfl, _⟩ := h; rfl) | (obtain ⟨_, _, _, _, _, _, _, _, _, _, _, _, _, rfl, _⟩ := h; rfl)
theorem ok_read_number {P : Program} {w : World} {G : GG} {mg : Str → Option Value} {base : Heap} {f : Addr} {fd : FuncData} (T : Top P w G mg base) (F : Fun G.K "read_number" "read_number" s_read_number f fd) : FnOk P w G.K mg base (L2.CX P w) 4 f fd ["octets", "at"] (sp_read_number G) :=
  F.okX sc_read_number len_read_number fun cdv A outer s H vs Q E hr h => ⟨_, dv_read_number T hr, rd_read_number T h⟩
theorem len__law_draw {G : GG} : ∀ (vs : List V) (H : Hp) (Q : VK) (E : XK), sp__law_draw G vs H Q E → vs.length = 3 := by
  intro vs H Q E h
  first | (obtain ⟨rfl, _⟩ := h; rfl) | (obtain ⟨_, rfl, _⟩ := h; rfl) | (obtain ⟨_, _, rfl, _⟩ := h; rfl) | (obtain ⟨_, _, _, rfl, _⟩ := h; rfl) | (obtain ⟨_, _, _, _, rfl, _⟩ := h; rfl) | (obtain ⟨_, _, _, _, _, rfl, _⟩ := h; rfl) | (obtain ⟨_, _, _, _, _, _, rfl, _⟩ := h; rfl) | (obtain ⟨_, _, _, _, _, _, _, rfl, _⟩ := h; rfl) | (obtain ⟨_, _, _, _, _, _, _, _, rfl, _⟩ := h; rfl) | (obtain ⟨_, _, _, _, _, _, _, _, _, rfl, _⟩ := h; rfl) | (obtain ⟨_, _, _, _, _, _, _, _, _, _, rfl, _⟩ := h; rfl) | (obtain ⟨_, _, _, _, _, _, _, _, _, _, _, rfl, _⟩ := h; rfl) | (obtain ⟨_, _, _, _, _, _, _, _, _, _, _, _, rfl, _⟩ := h; rfl) | (obtain ⟨_, _, _, _, _, _, _, _, _, _, _, _, _, rfl, _⟩ := h; rfl)
theorem ok__law_draw {P : Program} {w : World} {G : GG} {mg : Str → Option Value} {base : Heap} {f : Addr} {fd : FuncData} (T : Top P w G mg base) (F : Fun G.K "_law_draw" "_law_draw" s__law_draw f fd) : FnOk P w G.K mg base CX0 1 f fd ["cell", "many", "bound"] (sp__law_draw G) :=
  F.ok sc__law_draw len__law_draw fun cdv A outer s H vs Q E hr h => ⟨_, dv__law_draw T hr, rd__law_draw T h⟩
theorem len__law_is_integer {G : GG} : ∀ (vs : List V) (H : Hp) (Q : VK) (E : XK), sp__law_is_integer G vs H Q E → vs.length = 1 := by
  intro vs H Q E h
  first | (obtain ⟨rfl, _⟩ := h; rfl) | (obtain ⟨_, rfl, _⟩ := h; rfl) | (obtain ⟨_, _, rfl, _⟩ := h; rfl) | (obtain ⟨_, _, _, rfl, _⟩ := h; rfl) | (obtain ⟨_, _, _, _, rfl, _⟩ := h; rfl) | (obtain ⟨_, _, _, _, _, rfl, _⟩ := h; rfl) | (obtain ⟨_, _, _, _, _, _, rfl, _⟩ := h; rfl) | (obtain ⟨_, _, _, _, _, _, _, rfl, _⟩ := h; rfl) | (obtain ⟨_, _, _, _, _, _, _, _, rfl, _⟩ := h; rfl) | (obtain ⟨_, _, _, _, _, _, _, _, _, rfl, _⟩ := h; rfl) | (obtain ⟨_, _, _, _, _, _, _, _, _, _, rfl, _⟩ := h; rfl) | (obtain ⟨_, _, _, _, _, _, _, _, _, _, _, rfl, _⟩ := h; rfl) | (obtain ⟨_, _, _, _, _, _, _, _, _, _, _, _, rfl, _⟩ := h; rfl) | (obtain ⟨_, _, _, _, _, _, _, _, _, _, _, _, _, rfl, _⟩ := h; rfl)
theorem ok__law_is_integer {P : Program} {w : World} {G : GG} {mg : Str → Option Value} {base : Heap} {f : Addr} {fd : FuncData} (T : Top P w G mg base) (F : Fun G.K "_law_is_integer" "_law_is_integer" s__law_is_integer f fd) : FnOk P w G.K mg base CX0 1 f fd ["actual"] (sp__law_is_integer G) :=
  F.ok sc__law_is_integer len__law_is_integer fun cdv A outer s H vs Q E hr h => ⟨_, dv__law_is_integer T hr, rd__law_is_integer T h⟩
theorem len__law_same {G : GG} : ∀ (vs : List V) (H : Hp) (Q : VK) (E : XK), sp__law_same G vs H Q E → vs.length = 2 := by
  intro vs H Q E h
  first | (obtain ⟨rfl, _⟩ := h; rfl) | (obtain ⟨_, rfl, _⟩ := h; rfl) | (obtain ⟨_, _, rfl, _⟩ := h; rfl) | (obtain ⟨_, _, _, rfl, _⟩ := h; rfl) | (obtain ⟨_, _, _, _, rfl, _⟩ := h; rfl) | (obtain ⟨_, _, _, _, _, rfl, _⟩ := h; rfl) | (obtain ⟨_, _, _, _, _, _, rfl, _⟩ := h; rfl) | (obtain ⟨_, _, _, _, _, _, _, rfl, _⟩ := h; rfl) | (obtain ⟨_, _, _, _, _, _, _, _, rfl, _⟩ := h; rfl) | (obtain ⟨_, _, _, _, _, _, _, _, _, rfl, _⟩ := h; rfl) | (obtain ⟨_, _, _, _, _, _, _, _, _, _, rfl, _⟩ := h; rfl) | (obtain ⟨_, _, _, _, _, _, _, _, _, _, _, rfl, _⟩ := h; rfl) | (obtain ⟨_, _, _, _, _, _, _, _, _, _, _, _, rfl, _⟩ := h; rfl) | (obtain ⟨_, _, _, _, _, _, _, _, _, _, _, _, _, rfl, _⟩ := h; rfl)
theorem ok__law_same {P : Program} {w : World} {G : GG} {mg : Str → Option Value} {base : Heap} {f : Addr} {fd : FuncData} (T : Top P w G mg base) (F__law_is_integer : FnE P w G.K mg base CX0 "_law_is_integer" 1 ["actual"] (sp__law_is_integer G)) (F : Fun G.K "_law_same" "_law_same" s__law_same f fd) : FnOk P w G.K mg base CX0 2 f fd ["actual", "expected"] (sp__law_same G) :=
  F.ok sc__law_same len__law_same fun cdv A outer s H vs Q E hr h => ⟨_, dv__law_same T F__law_is_integer hr, rd__law_same T h⟩
theorem len__law_octets_of {G : GG} : ∀ (vs : List V) (H : Hp) (Q : VK) (E : XK), sp__law_octets_of G vs H Q E → vs.length = 1 := by
  intro vs H Q E h
  first | (obtain ⟨rfl, _⟩ := h; rfl) | (obtain ⟨_, rfl, _⟩ := h; rfl) | (obtain ⟨_, _, rfl, _⟩ := h; rfl) | (obtain ⟨_, _, _, rfl, _⟩ := h; rfl) | (obtain ⟨_, _, _, _, rfl, _⟩ := h; rfl) | (obtain ⟨_, _, _, _, _, rfl, _⟩ := h; rfl) | (obtain ⟨_, _, _, _, _, _, rfl, _⟩ := h; rfl) | (obtain ⟨_, _, _, _, _, _, _, rfl, _⟩ := h; rfl) | (obtain ⟨_, _, _, _, _, _, _, _, rfl, _⟩ := h; rfl) | (obtain ⟨_, _, _, _, _, _, _, _, _, rfl, _⟩ := h; rfl) | (obtain ⟨_, _, _, _, _, _, _, _, _, _, rfl, _⟩ := h; rfl) | (obtain ⟨_, _, _, _, _, _, _, _, _, _, _, rfl, _⟩ := h; rfl) | (obtain ⟨_, _, _, _, _, _, _, _, _, _, _, _, rfl, _⟩ := h; rfl) | (obtain ⟨_, _, _, _, _, _, _, _, _, _, _, _, _, rfl, _⟩ := h; rfl)
theorem ok__law_octets_of {P : Program} {w : World} {G : GG} {mg : Str → Option Value} {base : Heap} {f : Addr} {fd : FuncData} (T : Top P w G mg base) (F : Fun G.K "_law_octets_of" "_law_octets_of" s__law_octets_of f fd) : FnOk P w G.K mg base CX0 1 f fd ["n"] (sp__law_octets_of G) :=
  F.ok sc__law_octets_of len__law_octets_of fun cdv A outer s H vs Q E hr h => ⟨_, dv__law_octets_of T hr, rd__law_octets_of T h⟩
theorem len__law_due {G : GG} : ∀ (vs : List V) (H : Hp) (Q : VK) (E : XK), sp__law_due G vs H Q E → vs.length = 2 := by
  intro vs H Q E h
  first | (obtain ⟨rfl, _⟩ := h; rfl) | (obtain ⟨_, rfl, _⟩ := h; rfl) | (obtain ⟨_, _, rfl, _⟩ := h; rfl) | (obtain ⟨_, _, _, rfl, _⟩ := h; rfl) | (obtain ⟨_, _, _, _, rfl, _⟩ := h; rfl) | (obtain ⟨_, _, _, _, _, rfl, _⟩ := h; rfl) | (obtain ⟨_, _, _, _, _, _, rfl, _⟩ := h; rfl) | (obtain ⟨_, _, _, _, _, _, _, rfl, _⟩ := h; rfl) | (obtain ⟨_, _, _, _, _, _, _, _, rfl, _⟩ := h; rfl) | (obtain ⟨_, _, _, _, _, _, _, _, _, rfl, _⟩ := h; rfl) | (obtain ⟨_, _, _, _, _, _, _, _, _, _, rfl, _⟩ := h; rfl) | (obtain ⟨_, _, _, _, _, _, _, _, _, _, _, rfl, _⟩ := h; rfl) | (obtain ⟨_, _, _, _, _, _, _, _, _, _, _, _, rfl, _⟩ := h; rfl) | (obtain ⟨_, _, _, _, _, _, _, _, _, _, _, _, _, rfl, _⟩ := h; rfl)
theorem ok__law_due {P : Program} {w : World} {G : GG} {mg : Str → Option Value} {base : Heap} {f : Addr} {fd : FuncData} (T : Top P w G mg base) (F : Fun G.K "_law_due" "_law_due" s__law_due f fd) : FnOk P w G.K mg base CX0 1 f fd ["octets", "at"] (sp__law_due G) :=
  F.ok sc__law_due len__law_due fun cdv A outer s H vs Q E hr h => ⟨_, dv__law_due T hr, rd__law_due T h⟩
theorem len__law_told {G : GG} : ∀ (vs : List V) (H : Hp) (Q : VK) (E : XK), sp__law_told G vs H Q E → vs.length = 2 := by
  intro vs H Q E h
  first | (obtain ⟨rfl, _⟩ := h; rfl) | (obtain ⟨_, rfl, _⟩ := h; rfl) | (obtain ⟨_, _, rfl, _⟩ := h; rfl) | (obtain ⟨_, _, _, rfl, _⟩ := h; rfl) | (obtain ⟨_, _, _, _, rfl, _⟩ := h; rfl) | (obtain ⟨_, _, _, _, _, rfl, _⟩ := h; rfl) | (obtain ⟨_, _, _, _, _, _, rfl, _⟩ := h; rfl) | (obtain ⟨_, _, _, _, _, _, _, rfl, _⟩ := h; rfl) | (obtain ⟨_, _, _, _, _, _, _, _, rfl, _⟩ := h; rfl) | (obtain ⟨_, _, _, _, _, _, _, _, _, rfl, _⟩ := h; rfl) | (obtain ⟨_, _, _, _, _, _, _, _, _, _, rfl, _⟩ := h; rfl) | (obtain ⟨_, _, _, _, _, _, _, _, _, _, _, rfl, _⟩ := h; rfl) | (obtain ⟨_, _, _, _, _, _, _, _, _, _, _, _, rfl, _⟩ := h; rfl) | (obtain ⟨_, _, _, _, _, _, _, _, _, _, _, _, _, rfl, _⟩ := h; rfl)
theorem ok__law_told {P : Program} {w : World} {G : GG} {mg : Str → Option Value} {base : Heap} {f : Addr} {fd : FuncData} (T : Top P w G mg base) (F_read_number : FnE P w G.K mg base (L2.CX P w) "read_number" 4 ["octets", "at"] (sp_read_number G)) (F : Fun G.K "_law_told" "_law_told" s__law_told f fd) : FnOk P w G.K mg base CX0 5 f fd ["octets", "at"] (sp__law_told G) :=
  F.ok sc__law_told len__law_told fun cdv A outer s H vs Q E hr h => ⟨_, dv__law_told T F_read_number hr, rd__law_told T h⟩
theorem len__law_number {G : GG} : ∀ (vs : List V) (H : Hp) (Q : VK) (E : XK), sp__law_number G vs H Q E → vs.length = 1 := by
  intro vs H Q E h
  first | (obtain ⟨rfl, _⟩ := h; rfl) | (obtain ⟨_, rfl, _⟩ := h; rfl) | (obtain ⟨_, _, rfl, _⟩ := h; rfl) | (obtain ⟨_, _, _, rfl, _⟩ := h; rfl) | (obtain ⟨_, _, _, _, rfl, _⟩ := h; rfl) | (obtain ⟨_, _, _, _, _, rfl, _⟩ := h; rfl) | (obtain ⟨_, _, _, _, _, _, rfl, _⟩ := h; rfl) | (obtain ⟨_, _, _, _, _, _, _, rfl, _⟩ := h; rfl) | (obtain ⟨_, _, _, _, _, _, _, _, rfl, _⟩ := h; rfl) | (obtain ⟨_, _, _, _, _, _, _, _, _, rfl, _⟩ := h; rfl) | (obtain ⟨_, _, _, _, _, _, _, _, _, _, rfl, _⟩ := h; rfl) | (obtain ⟨_, _, _, _, _, _, _, _, _, _, _, rfl, _⟩ := h; rfl) | (obtain ⟨_, _, _, _, _, _, _, _, _, _, _, _, rfl, _⟩ := h; rfl) | (obtain ⟨_, _, _, _, _, _, _, _, _, _, _, _, _, rfl, _⟩ := h; rfl)
theorem ok__law_number {P : Program} {w : World} {G : GG} {mg : Str → Option Value} {base : Heap} {f : Addr} {fd : FuncData} (T : Top P w G mg base) (F : Fun G.K "_law_number" "_law_number" s__law_number f fd) : FnOk P w G.K mg base CX0 1 f fd ["numbers"] (sp__law_number G) :=
  F.ok sc__law_number len__law_number fun cdv A outer s H vs Q E hr h => ⟨_, dv__law_number T hr, rd__law_number T h⟩
theorem len_law {G : GG} : ∀ (vs : List V) (H : Hp) (Q : VK) (E : XK), sp_law G vs H Q E → vs.length = 1 := by
  intro vs H Q E h
  first | (obtain ⟨rfl, _⟩ := h; rfl) | (obtain ⟨_, rfl, _⟩ := h; rfl) | (obtain ⟨_, _, rfl, _⟩ := h; rfl) | (obtain ⟨_, _, _, rfl, _⟩ := h; rfl) | (obtain ⟨_, _, _, _, rfl, _⟩ := h; rfl) | (obtain ⟨_, _, _, _, _, rfl, _⟩ := h; rfl) | (obtain ⟨_, _, _, _, _, _, rfl, _⟩ := h; rfl) | (obtain ⟨_, _, _, _, _, _, _, rfl, _⟩ := h; rfl) | (obtain ⟨_, _, _, _, _, _, _, _, rfl, _⟩ := h; rfl) | (obtain ⟨_, _, _, _, _, _, _, _, _, rfl, _⟩ := h; rfl) | (obtain ⟨_, _, _, _, _, _, _, _, _, _, rfl, _⟩ := h; rfl) | (obtain ⟨_, _, _, _, _, _, _, _, _, _, _, rfl, _⟩ := h; rfl) | (obtain ⟨_, _, _, _, _, _, _, _, _, _, _, _, rfl, _⟩ := h; rfl) | (obtain ⟨_, _, _, _, _, _, _, _, _, _, _, _, _, rfl, _⟩ := h; rfl)
theorem ok_law {P : Program} {w : World} {G : GG} {mg : Str → Option Value} {base : Heap} {f : Addr} {fd : FuncData} (T : Top P w G mg base) (F__law_draw : FnE P w G.K mg base CX0 "_law_draw" 1 ["cell", "many", "bound"] (sp__law_draw G)) (F__law_due : FnE P w G.K mg base CX0 "_law_due" 1 ["octets", "at"] (sp__law_due G)) (F__law_is_integer : FnE P w G.K mg base CX0 "_law_is_integer" 1 ["actual"] (sp__law_is_integer G)) (F__law_number : FnE P w G.K mg base CX0 "_law_number" 1 ["numbers"] (sp__law_number G)) (F__law_octets_of : FnE P w G.K mg base CX0 "_law_octets_of" 1 ["n"] (sp__law_octets_of G)) (F__law_same : FnE P w G.K mg base CX0 "_law_same" 2 ["actual", "expected"] (sp__law_same G)) (F__law_told : FnE P w G.K mg base CX0 "_law_told" 5 ["octets", "at"] (sp__law_told G)) (F_read_number : FnE P w G.K mg base (L2.CX P w) "read_number" 4 ["octets", "at"] (sp_read_number G)) (F_write_number : FnE P w G.K mg base CX0 "write_number" 1 ["n"] (sp_write_number G)) (F : Fun G.K "law" "law" s_law f fd) : FnOk P w G.K mg base CX0 6 f fd ["script"] (sp_law G) :=
  F.ok sc_law len_law fun cdv A outer s H vs Q E hr h => ⟨_, dv_law T F__law_draw F__law_due F__law_is_integer F__law_number F__law_octets_of F__law_same F__law_told F_read_number F_write_number hr, rd_law T h⟩
theorem all_mk {P : Program} {w : World} {K : PySem.W.Frag} {h : Heap} {mg : Str → Option Value} {fa f1 f2 f3 f4 f5 f6 f7 f8 f9 f10 : Addr} (X : K.In h) (G : h.Ns mainGlobals mg) (hfa : mg "law" = some (.ref fa))
    {od1 an1 : Option Addr} {sl1 : Array (Option Value)} {oc1 kV1 dc1 pm1 cd1 ct1 : Value} (a1 : PySem.W.nsIn K mainGlobals "write_number" = some (some (.ref f1))) (l1 : K.lookup f1 = some ⟨oc1, od1, .func (PySem.W.fnOf "write_number" "write_number" (defArgs s_write_number) (defBody s_write_number) (defScope s_write_number) .none kV1 dc1 pm1 an1 cd1 ct1), sl1⟩) (c1 : PySem.W.codeIn K cd1 "write_number" = true) (k1 : PySem.W.keepIn K (.ref f1) = true)
    {od2 an2 : Option Addr} {sl2 : Array (Option Value)} {oc2 kV2 dc2 pm2 cd2 ct2 : Value} (a2 : PySem.W.nsIn K mainGlobals "read_number" = some (some (.ref f2))) (l2 : K.lookup f2 = some ⟨oc2, od2, .func (PySem.W.fnOf "read_number" "read_number" (defArgs s_read_number) (defBody s_read_number) (defScope s_read_number) .none kV2 dc2 pm2 an2 cd2 ct2), sl2⟩) (c2 : PySem.W.codeIn K cd2 "read_number" = true) (k2 : PySem.W.keepIn K (.ref f2) = true)
    {od3 an3 : Option Addr} {sl3 : Array (Option Value)} {oc3 kV3 dc3 pm3 cd3 ct3 : Value} (a3 : PySem.W.nsIn K mainGlobals "_law_draw" = some (some (.ref f3))) (l3 : K.lookup f3 = some ⟨oc3, od3, .func (PySem.W.fnOf "_law_draw" "_law_draw" (defArgs s__law_draw) (defBody s__law_draw) (defScope s__law_draw) .none kV3 dc3 pm3 an3 cd3 ct3), sl3⟩) (c3 : PySem.W.codeIn K cd3 "_law_draw" = true) (k3 : PySem.W.keepIn K (.ref f3) = true)
    {od4 an4 : Option Addr} {sl4 : Array (Option Value)} {oc4 kV4 dc4 pm4 cd4 ct4 : Value} (a4 : PySem.W.nsIn K mainGlobals "_law_is_integer" = some (some (.ref f4))) (l4 : K.lookup f4 = some ⟨oc4, od4, .func (PySem.W.fnOf "_law_is_integer" "_law_is_integer" (defArgs s__law_is_integer) (defBody s__law_is_integer) (defScope s__law_is_integer) .none kV4 dc4 pm4 an4 cd4 ct4), sl4⟩) (c4 : PySem.W.codeIn K cd4 "_law_is_integer" = true) (k4 : PySem.W.keepIn K (.ref f4) = true)
    {od5 an5 : Option Addr} {sl5 : Array (Option Value)} {oc5 kV5 dc5 pm5 cd5 ct5 : Value} (a5 : PySem.W.nsIn K mainGlobals "_law_same" = some (some (.ref f5))) (l5 : K.lookup f5 = some ⟨oc5, od5, .func (PySem.W.fnOf "_law_same" "_law_same" (defArgs s__law_same) (defBody s__law_same) (defScope s__law_same) .none kV5 dc5 pm5 an5 cd5 ct5), sl5⟩) (c5 : PySem.W.codeIn K cd5 "_law_same" = true) (k5 : PySem.W.keepIn K (.ref f5) = true)
    {od6 an6 : Option Addr} {sl6 : Array (Option Value)} {oc6 kV6 dc6 pm6 cd6 ct6 : Value} (a6 : PySem.W.nsIn K mainGlobals "_law_octets_of" = some (some (.ref f6))) (l6 : K.lookup f6 = some ⟨oc6, od6, .func (PySem.W.fnOf "_law_octets_of" "_law_octets_of" (defArgs s__law_octets_of) (defBody s__law_octets_of) (defScope s__law_octets_of) .none kV6 dc6 pm6 an6 cd6 ct6), sl6⟩) (c6 : PySem.W.codeIn K cd6 "_law_octets_of" = true) (k6 : PySem.W.keepIn K (.ref f6) = true)
    {od7 an7 : Option Addr} {sl7 : Array (Option Value)} {oc7 kV7 dc7 pm7 cd7 ct7 : Value} (a7 : PySem.W.nsIn K mainGlobals "_law_due" = some (some (.ref f7))) (l7 : K.lookup f7 = some ⟨oc7, od7, .func (PySem.W.fnOf "_law_due" "_law_due" (defArgs s__law_due) (defBody s__law_due) (defScope s__law_due) .none kV7 dc7 pm7 an7 cd7 ct7), sl7⟩) (c7 : PySem.W.codeIn K cd7 "_law_due" = true) (k7 : PySem.W.keepIn K (.ref f7) = true)
    {od8 an8 : Option Addr} {sl8 : Array (Option Value)} {oc8 kV8 dc8 pm8 cd8 ct8 : Value} (a8 : PySem.W.nsIn K mainGlobals "_law_told" = some (some (.ref f8))) (l8 : K.lookup f8 = some ⟨oc8, od8, .func (PySem.W.fnOf "_law_told" "_law_told" (defArgs s__law_told) (defBody s__law_told) (defScope s__law_told) .none kV8 dc8 pm8 an8 cd8 ct8), sl8⟩) (c8 : PySem.W.codeIn K cd8 "_law_told" = true) (k8 : PySem.W.keepIn K (.ref f8) = true)
    {od9 an9 : Option Addr} {sl9 : Array (Option Value)} {oc9 kV9 dc9 pm9 cd9 ct9 : Value} (a9 : PySem.W.nsIn K mainGlobals "_law_number" = some (some (.ref f9))) (l9 : K.lookup f9 = some ⟨oc9, od9, .func (PySem.W.fnOf "_law_number" "_law_number" (defArgs s__law_number) (defBody s__law_number) (defScope s__law_number) .none kV9 dc9 pm9 an9 cd9 ct9), sl9⟩) (c9 : PySem.W.codeIn K cd9 "_law_number" = true) (k9 : PySem.W.keepIn K (.ref f9) = true)
    {od10 an10 : Option Addr} {sl10 : Array (Option Value)} {oc10 kV10 dc10 pm10 cd10 ct10 : Value} (a10 : PySem.W.nsIn K mainGlobals "law" = some (some (.ref f10))) (l10 : K.lookup f10 = some ⟨oc10, od10, .func (PySem.W.fnOf "law" "law" (defArgs s_law) (defBody s_law) (defScope s_law) .none kV10 dc10 pm10 an10 cd10 ct10), sl10⟩) (c10 : PySem.W.codeIn K cd10 "law" = true) (k10 : PySem.W.keepIn K (.ref f10) = true)
    (b_bool : PySem.W.nsIn K mainGlobals "bool" = some none)
    (b_int : PySem.W.nsIn K mainGlobals "int" = some none)
    (b_isinstance : PySem.W.nsIn K mainGlobals "isinstance" = some none)
    (b_len : PySem.W.nsIn K mainGlobals "len" = some none)
    (b_list : PySem.W.nsIn K mainGlobals "list" = some none)
    (b_max : PySem.W.nsIn K mainGlobals "max" = some none)
    (b_min : PySem.W.nsIn K mainGlobals "min" = some none)
    (b_range : PySem.W.nsIn K mainGlobals "range" = some none)
    {k_LONGEST_NUMBER : Tok} (g_LONGEST_NUMBER : PySem.W.nsIn K mainGlobals "LONGEST_NUMBER" = some (some (.int 10 k_LONGEST_NUMBER)))
    {C_FormstripesError : Addr} (aC_FormstripesError : PySem.W.nsIn K mainGlobals "FormstripesError" = some (some (.ref C_FormstripesError)))
    {C_InvalidData : Addr} (aC_InvalidData : PySem.W.nsIn K mainGlobals "InvalidData" = some (some (.ref C_InvalidData)))
    {C_InvalidText : Addr} (aC_InvalidText : PySem.W.nsIn K mainGlobals "InvalidText" = some (some (.ref C_InvalidText)))
    {C_Truncated : Addr} (aC_Truncated : PySem.W.nsIn K mainGlobals "Truncated" = some (some (.ref C_Truncated)))
    {dT : Addr} {dcl dU : Value} {ddd : Option Addr} {dn : Nat} {dsl : Array (Option Value)} (d0 : K.lookup dT = some ⟨dcl, ddd, .seq #[dU] dn, dsl⟩)
    {fI_FormstripesError cc_FormstripesError cda_FormstripesError : Addr} {oc_FormstripesError kV_FormstripesError dc_FormstripesError pm_FormstripesError ct_FormstripesError : Value} {od_FormstripesError an_FormstripesError : Option Addr} {sl_FormstripesError : Array (Option Value)}
    (i0_FormstripesError : PySem.W.findIn K (.ref C_FormstripesError) "__init__" = some (some (.ref fI_FormstripesError))) (i1_FormstripesError : PySem.W.typeIn K (.ref fI_FormstripesError) = some (.type "function")) (i2_FormstripesError : PySem.W.fnIn K fI_FormstripesError = true)
    (i3_FormstripesError : K.lookup fI_FormstripesError = some ⟨oc_FormstripesError, od_FormstripesError, .func (PySem.W.ksFn "__init__" "FormstripesError.__init__" (defArgs s_FormstripesError___init__) (defBody s_FormstripesError___init__) (defScope s_FormstripesError___init__) (.ref dT) kV_FormstripesError dc_FormstripesError pm_FormstripesError an_FormstripesError (.ref cda_FormstripesError) ct_FormstripesError cc_FormstripesError), sl_FormstripesError⟩)
    (i4_FormstripesError : PySem.W.codeIn K (.ref cda_FormstripesError) "FormstripesError.__init__" = true) {ccl_FormstripesError cl_FormstripesError : Value} {cdd_FormstripesError cld_FormstripesError : Option Addr} {vs_FormstripesError : Array Value} {ccs_FormstripesError csl_FormstripesError : Array (Option Value)} {file_FormstripesError : Str} {tf_FormstripesError : Tok}
    (i5_FormstripesError : K.lookup cda_FormstripesError = some ⟨ccl_FormstripesError, cdd_FormstripesError, .fields vs_FormstripesError, ccs_FormstripesError⟩) (i6_FormstripesError : vs_FormstripesError[2]? = some (.str file_FormstripesError tf_FormstripesError)) (i7_FormstripesError : ((P.main.file : Str) == file_FormstripesError) = true)
    (i8_FormstripesError : K.lookup cc_FormstripesError = some ⟨cl_FormstripesError, cld_FormstripesError, .cell (some (.ref C_FormstripesError)), csl_FormstripesError⟩) {cd_FormstripesError : ClassData} (i9_FormstripesError : PySem.W.clsIn K C_FormstripesError = some cd_FormstripesError)
    {fI_InvalidData cc_InvalidData cda_InvalidData : Addr} {oc_InvalidData kV_InvalidData dc_InvalidData pm_InvalidData ct_InvalidData : Value} {od_InvalidData an_InvalidData : Option Addr} {sl_InvalidData : Array (Option Value)}
    (i0_InvalidData : PySem.W.findIn K (.ref C_InvalidData) "__init__" = some (some (.ref fI_InvalidData))) (i1_InvalidData : PySem.W.typeIn K (.ref fI_InvalidData) = some (.type "function")) (i2_InvalidData : PySem.W.fnIn K fI_InvalidData = true)
    (i3_InvalidData : K.lookup fI_InvalidData = some ⟨oc_InvalidData, od_InvalidData, .func (PySem.W.ksFn "__init__" "InvalidData.__init__" (defArgs s_InvalidData___init__) (defBody s_InvalidData___init__) (defScope s_InvalidData___init__) .none kV_InvalidData dc_InvalidData pm_InvalidData an_InvalidData (.ref cda_InvalidData) ct_InvalidData cc_InvalidData), sl_InvalidData⟩)
    (i4_InvalidData : PySem.W.codeIn K (.ref cda_InvalidData) "InvalidData.__init__" = true) {ccl_InvalidData cl_InvalidData : Value} {cdd_InvalidData cld_InvalidData : Option Addr} {vs_InvalidData : Array Value} {ccs_InvalidData csl_InvalidData : Array (Option Value)} {file_InvalidData : Str} {tf_InvalidData : Tok}
    (i5_InvalidData : K.lookup cda_InvalidData = some ⟨ccl_InvalidData, cdd_InvalidData, .fields vs_InvalidData, ccs_InvalidData⟩) (i6_InvalidData : vs_InvalidData[2]? = some (.str file_InvalidData tf_InvalidData)) (i7_InvalidData : ((P.main.file : Str) == file_InvalidData) = true)
    (i8_InvalidData : K.lookup cc_InvalidData = some ⟨cl_InvalidData, cld_InvalidData, .cell (some (.ref C_InvalidData)), csl_InvalidData⟩) {cd_InvalidData : ClassData} (i9_InvalidData : PySem.W.clsIn K C_InvalidData = some cd_InvalidData)
    {fI_Truncated cc_Truncated cda_Truncated : Addr} {oc_Truncated kV_Truncated dc_Truncated pm_Truncated ct_Truncated : Value} {od_Truncated an_Truncated : Option Addr} {sl_Truncated : Array (Option Value)}
    (i0_Truncated : PySem.W.findIn K (.ref C_Truncated) "__init__" = some (some (.ref fI_Truncated))) (i1_Truncated : PySem.W.typeIn K (.ref fI_Truncated) = some (.type "function")) (i2_Truncated : PySem.W.fnIn K fI_Truncated = true)
    (i3_Truncated : K.lookup fI_Truncated = some ⟨oc_Truncated, od_Truncated, .func (PySem.W.ksFn "__init__" "Truncated.__init__" (defArgs s_Truncated___init__) (defBody s_Truncated___init__) (defScope s_Truncated___init__) .none kV_Truncated dc_Truncated pm_Truncated an_Truncated (.ref cda_Truncated) ct_Truncated cc_Truncated), sl_Truncated⟩)
    (i4_Truncated : PySem.W.codeIn K (.ref cda_Truncated) "Truncated.__init__" = true) {ccl_Truncated cl_Truncated : Value} {cdd_Truncated cld_Truncated : Option Addr} {vs_Truncated : Array Value} {ccs_Truncated csl_Truncated : Array (Option Value)} {file_Truncated : Str} {tf_Truncated : Tok}
    (i5_Truncated : K.lookup cda_Truncated = some ⟨ccl_Truncated, cdd_Truncated, .fields vs_Truncated, ccs_Truncated⟩) (i6_Truncated : vs_Truncated[2]? = some (.str file_Truncated tf_Truncated)) (i7_Truncated : ((P.main.file : Str) == file_Truncated) = true)
    (i8_Truncated : K.lookup cc_Truncated = some ⟨cl_Truncated, cld_Truncated, .cell (some (.ref C_Truncated)), csl_Truncated⟩) {cd_Truncated : ClassData} (i9_Truncated : PySem.W.clsIn K C_Truncated = some cd_Truncated)
    (zs : PySem.W.nsIn K mainGlobals "super" = some none) (zt : (P.main.scope.names.lookup ("super" : Str)).isSome = false) (z3 : PySem.W.nsIn K cStatics "thirdparty.any" = some none)
    {nm_InvalidData q_InvalidData : Str} {Nn_InvalidData : Addr} {bs_InvalidData bm_InvalidData : List Value} {sn_InvalidData : List Str} {sub_InvalidData : List Value} {ab_InvalidData : Bool} {col_InvalidData : Option Bool} {ddd_InvalidData : Option Addr} {k0_InvalidData k1_InvalidData k2_InvalidData k3_InvalidData k5_InvalidData : Option Value}
    (j0_InvalidData : K.lookup C_InvalidData = some (excClassObj nm_InvalidData q_InvalidData C_InvalidData Nn_InvalidData bs_InvalidData bm_InvalidData true sn_InvalidData sub_InvalidData ab_InvalidData col_InvalidData ddd_InvalidData k0_InvalidData k1_InvalidData k2_InvalidData k3_InvalidData k5_InvalidData "ValueError.__new__")) (j1_InvalidData : PySem.HandSPX.refsVE bm_InvalidData = true)
    (j2_InvalidData : PySem.W.findIn K (.ref C_InvalidData) "__setattr__" = some (some (.builtin "object.__setattr__"))) (j3_InvalidData : PySem.W.subIn K (.ref C_InvalidData) (.type "BaseException") = some true) (j4_InvalidData : PySem.W.typeIn K (.ref C_InvalidData) = some (.type "type")) (j5_InvalidData : PySem.W.keepIn K (.ref C_InvalidData) = true)
    (j6_InvalidData : PySem.W.mroIn K C_InvalidData (.ref C_InvalidData) = some true) (j7_InvalidData : PySem.W.mroIn K C_InvalidData (.ref C_FormstripesError) = some true) (j8_InvalidData : PySem.W.findIn K (.ref C_InvalidData) "place" = some none) (j9_InvalidData : PySem.W.findIn K (.ref C_InvalidData) "name" = some none)
    (l0_InvalidData : PySem.W.ks_superIn K C_InvalidData C_FormstripesError "__init__" = some (some (.builtin "ValueError.__init__"))) (l1_InvalidData : PySem.W.subIn K (.ref C_InvalidData) (.type "ValueError") = some true) (l2_InvalidData : PySem.W.ks_superIn K C_InvalidData C_InvalidData "__init__" = some (some (.ref fI_FormstripesError)))
    (l3_InvalidData : PySem.W.findIn K (.ref C_InvalidData) "__getattribute__" = some (some (.builtin "BaseException.__getattribute__"))) (l4_InvalidData : PySem.W.findIn K (.ref C_InvalidData) "__getattr__" = some none) (l5_InvalidData : PySem.W.hasDictIn K C_InvalidData = true)
    (m0_InvalidData : PySem.W.findIn K (.ref C_InvalidData) "__class__" = some (some (.builtin "object.__class__"))) (m3_InvalidData : PySem.W.mroIn K C_InvalidData (.type "object") = some true)
    (em_InvalidData_FormstripesError : PySem.W.exmOne K (.ref C_InvalidData) (.ref C_FormstripesError) = some true) (ko_InvalidData_FormstripesError : PySem.W.kitOne K (.ref C_InvalidData) (.ref C_FormstripesError) = some true)
    (em_InvalidData_InvalidData : PySem.W.exmOne K (.ref C_InvalidData) (.ref C_InvalidData) = some true) (ko_InvalidData_InvalidData : PySem.W.kitOne K (.ref C_InvalidData) (.ref C_InvalidData) = some true)
    (em_InvalidData_InvalidText : PySem.W.exmOne K (.ref C_InvalidData) (.ref C_InvalidText) = some false) (ko_InvalidData_InvalidText : PySem.W.kitOne K (.ref C_InvalidData) (.ref C_InvalidText) = some false)
    (em_InvalidData_Truncated : PySem.W.exmOne K (.ref C_InvalidData) (.ref C_Truncated) = some false) (ko_InvalidData_Truncated : PySem.W.kitOne K (.ref C_InvalidData) (.ref C_Truncated) = some false)
    {nm_Truncated q_Truncated : Str} {Nn_Truncated : Addr} {bs_Truncated bm_Truncated : List Value} {sn_Truncated : List Str} {sub_Truncated : List Value} {ab_Truncated : Bool} {col_Truncated : Option Bool} {ddd_Truncated : Option Addr} {k0_Truncated k1_Truncated k2_Truncated k3_Truncated k5_Truncated : Option Value}
    (j0_Truncated : K.lookup C_Truncated = some (excClassObj nm_Truncated q_Truncated C_Truncated Nn_Truncated bs_Truncated bm_Truncated true sn_Truncated sub_Truncated ab_Truncated col_Truncated ddd_Truncated k0_Truncated k1_Truncated k2_Truncated k3_Truncated k5_Truncated "ValueError.__new__")) (j1_Truncated : PySem.HandSPX.refsVE bm_Truncated = true)
    (j2_Truncated : PySem.W.findIn K (.ref C_Truncated) "__setattr__" = some (some (.builtin "object.__setattr__"))) (j3_Truncated : PySem.W.subIn K (.ref C_Truncated) (.type "BaseException") = some true) (j4_Truncated : PySem.W.typeIn K (.ref C_Truncated) = some (.type "type")) (j5_Truncated : PySem.W.keepIn K (.ref C_Truncated) = true)
    (j6_Truncated : PySem.W.mroIn K C_Truncated (.ref C_Truncated) = some true) (j7_Truncated : PySem.W.mroIn K C_Truncated (.ref C_FormstripesError) = some true) (j8_Truncated : PySem.W.findIn K (.ref C_Truncated) "place" = some none) (j9_Truncated : PySem.W.findIn K (.ref C_Truncated) "name" = some none)
    (l0_Truncated : PySem.W.ks_superIn K C_Truncated C_FormstripesError "__init__" = some (some (.builtin "ValueError.__init__"))) (l1_Truncated : PySem.W.subIn K (.ref C_Truncated) (.type "ValueError") = some true) (l2_Truncated : PySem.W.ks_superIn K C_Truncated C_Truncated "__init__" = some (some (.ref fI_FormstripesError)))
    (l3_Truncated : PySem.W.findIn K (.ref C_Truncated) "__getattribute__" = some (some (.builtin "BaseException.__getattribute__"))) (l4_Truncated : PySem.W.findIn K (.ref C_Truncated) "__getattr__" = some none) (l5_Truncated : PySem.W.hasDictIn K C_Truncated = true)
    (m0_Truncated : PySem.W.findIn K (.ref C_Truncated) "__class__" = some (some (.builtin "object.__class__"))) (m3_Truncated : PySem.W.mroIn K C_Truncated (.type "object") = some true)
    (em_Truncated_FormstripesError : PySem.W.exmOne K (.ref C_Truncated) (.ref C_FormstripesError) = some true) (ko_Truncated_FormstripesError : PySem.W.kitOne K (.ref C_Truncated) (.ref C_FormstripesError) = some true)
    (em_Truncated_InvalidData : PySem.W.exmOne K (.ref C_Truncated) (.ref C_InvalidData) = some false) (ko_Truncated_InvalidData : PySem.W.kitOne K (.ref C_Truncated) (.ref C_InvalidData) = some false)
    (em_Truncated_InvalidText : PySem.W.exmOne K (.ref C_Truncated) (.ref C_InvalidText) = some false) (ko_Truncated_InvalidText : PySem.W.kitOne K (.ref C_Truncated) (.ref C_InvalidText) = some false)
    (em_Truncated_Truncated : PySem.W.exmOne K (.ref C_Truncated) (.ref C_Truncated) = some true) (ko_Truncated_Truncated : PySem.W.kitOne K (.ref C_Truncated) (.ref C_Truncated) = some true)
    (m1 : PySem.W.specialIn K (.builtin "object.__class__") "__get__" = some (some (.builtin "getset_descriptor.__get__"))) (m2 : PySem.W.takesIn K (.builtin "object.__class__") = some true) :
    ∃ fd : FuncData, (∀ (s : Shared) (v : Value), BindsTo s fd ⟨[v], []⟩ [("script", v)]) ∧ ∀ base : Heap, K.In base → base.Ns mainGlobals mg → FnOk P w K mg base CX0 6 fa fd ["script"] (spLawS K) := by
  have e := hfa.symm.trans (PySem.W.mg_of X G a10)
  cases e
  have F1 := fun_mk (st := s_write_number) l1 c1 k1
  have F2 := fun_mk (st := s_read_number) l2 c2 k2
  have F3 := fun_mk (st := s__law_draw) l3 c3 k3
  have F4 := fun_mk (st := s__law_is_integer) l4 c4 k4
  have F5 := fun_mk (st := s__law_same) l5 c5 k5
  have F6 := fun_mk (st := s__law_octets_of) l6 c6 k6
  have F7 := fun_mk (st := s__law_due) l7 c7 k7
  have F8 := fun_mk (st := s__law_told) l8 c8 k8
  have F9 := fun_mk (st := s__law_number) l9 c9 k9
  have F10 := fun_mk (st := s_law) l10 c10 k10
  refine ⟨_, fun s v => .of_eq (fd := PySem.W.fnOf "law" "law" (defArgs s_law) (defBody s_law) (defScope s_law) .none kV10 dc10 pm10 an10 cd10 ct10) rfl, fun base KB GB => ?_⟩
  have S_FormstripesError : SupF P K mg "__init__" "FormstripesError.__init__" s_FormstripesError___init__ fI_FormstripesError C_FormstripesError _ cda_FormstripesError cc_FormstripesError := ⟨⟨_, _, _, _, _, _, _, _, _, rfl, i3_FormstripesError⟩, i4_FormstripesError, ⟨_, _, _, _, _, _, i5_FormstripesError, i6_FormstripesError, i7_FormstripesError⟩, ⟨_, _, _, i8_FormstripesError⟩, ⟨_, i9_FormstripesError⟩, PySem.W.mg_none_of X G zs, zt, z3⟩
  have B0 : Binds K _ ["self", "place", "name"] [] := binds_dfl (fd := PySem.W.ksFn "__init__" "FormstripesError.__init__" (defArgs s_FormstripesError___init__) (defBody s_FormstripesError___init__) (defScope s_FormstripesError___init__) (.ref dT) kV_FormstripesError dc_FormstripesError pm_FormstripesError an_FormstripesError (.ref cda_FormstripesError) ct_FormstripesError cc_FormstripesError) d0 rfl fun us hl => match us, hl with | [_, _, _], _ => ⟨_, rfl, rfl⟩
  have I0 := ok_form (w := w) (base := base) (CX := CX0) (pl := _) S_FormstripesError (NdefX.nscope_by (by decide +kernel)) rfl (fun _ => rfl) rfl rfl (by decide +kernel) (by decide +kernel)
  have S_InvalidData : SupF P K mg "__init__" "InvalidData.__init__" s_InvalidData___init__ fI_InvalidData C_InvalidData _ cda_InvalidData cc_InvalidData := ⟨⟨_, _, _, _, _, _, _, _, _, rfl, i3_InvalidData⟩, i4_InvalidData, ⟨_, _, _, _, _, _, i5_InvalidData, i6_InvalidData, i7_InvalidData⟩, ⟨_, _, _, i8_InvalidData⟩, ⟨_, i9_InvalidData⟩, PySem.W.mg_none_of X G zs, zt, z3⟩
  have ox_InvalidData : OexC K C_InvalidData := ⟨⟨nm_InvalidData, q_InvalidData, Nn_InvalidData, bs_InvalidData, bm_InvalidData, sn_InvalidData, sub_InvalidData, ab_InvalidData, col_InvalidData, ddd_InvalidData, k0_InvalidData, k1_InvalidData, k2_InvalidData, k3_InvalidData, k5_InvalidData, j0_InvalidData, j1_InvalidData⟩, j2_InvalidData, j3_InvalidData, j4_InvalidData, j5_InvalidData⟩
  have B_InvalidData : Binds K _ ["self", "place"] [] := .all (fd := PySem.W.ksFn "__init__" "InvalidData.__init__" (defArgs s_InvalidData___init__) (defBody s_InvalidData___init__) (defScope s_InvalidData___init__) .none kV_InvalidData dc_InvalidData pm_InvalidData an_InvalidData (.ref cda_InvalidData) ct_InvalidData cc_InvalidData) fun us hl => match us, hl with | [_, _], _ => rfl
  have N_InvalidData : KinE P w K mg base "InvalidData" C_InvalidData C_FormstripesError "InvalidData" := ⟨⟨fI_InvalidData, _, i0_InvalidData, i1_InvalidData, ok_kin (pl := _) (nm := "InvalidData") S_InvalidData (NdefX.nscope_by (by decide +kernel)) rfl (fun _ => rfl) rfl rfl (by decide +kernel) (by decide +kernel) ⟨ox_InvalidData, j6_InvalidData⟩ ⟨⟨ox_InvalidData, j7_InvalidData⟩, j8_InvalidData, j9_InvalidData, l0_InvalidData, l1_InvalidData⟩ l2_InvalidData i1_FormstripesError i2_FormstripesError I0 B0, B_InvalidData⟩, ox_InvalidData, PySem.W.mg_of X G aC_InvalidData⟩
  have xf_InvalidData : XfC K C_InvalidData := ⟨l3_InvalidData, l4_InvalidData, j3_InvalidData, l5_InvalidData⟩
  have xc_InvalidData : ExcC K C_InvalidData := ⟨l3_InvalidData, l4_InvalidData, j3_InvalidData, l5_InvalidData, m0_InvalidData, m1, m2, m3_InvalidData⟩
  have S_Truncated : SupF P K mg "__init__" "Truncated.__init__" s_Truncated___init__ fI_Truncated C_Truncated _ cda_Truncated cc_Truncated := ⟨⟨_, _, _, _, _, _, _, _, _, rfl, i3_Truncated⟩, i4_Truncated, ⟨_, _, _, _, _, _, i5_Truncated, i6_Truncated, i7_Truncated⟩, ⟨_, _, _, i8_Truncated⟩, ⟨_, i9_Truncated⟩, PySem.W.mg_none_of X G zs, zt, z3⟩
  have ox_Truncated : OexC K C_Truncated := ⟨⟨nm_Truncated, q_Truncated, Nn_Truncated, bs_Truncated, bm_Truncated, sn_Truncated, sub_Truncated, ab_Truncated, col_Truncated, ddd_Truncated, k0_Truncated, k1_Truncated, k2_Truncated, k3_Truncated, k5_Truncated, j0_Truncated, j1_Truncated⟩, j2_Truncated, j3_Truncated, j4_Truncated, j5_Truncated⟩
  have B_Truncated : Binds K _ ["self", "place"] [] := .all (fd := PySem.W.ksFn "__init__" "Truncated.__init__" (defArgs s_Truncated___init__) (defBody s_Truncated___init__) (defScope s_Truncated___init__) .none kV_Truncated dc_Truncated pm_Truncated an_Truncated (.ref cda_Truncated) ct_Truncated cc_Truncated) fun us hl => match us, hl with | [_, _], _ => rfl
  have N_Truncated : KinE P w K mg base "Truncated" C_Truncated C_FormstripesError "Truncated" := ⟨⟨fI_Truncated, _, i0_Truncated, i1_Truncated, ok_kin (pl := _) (nm := "Truncated") S_Truncated (NdefX.nscope_by (by decide +kernel)) rfl (fun _ => rfl) rfl rfl (by decide +kernel) (by decide +kernel) ⟨ox_Truncated, j6_Truncated⟩ ⟨⟨ox_Truncated, j7_Truncated⟩, j8_Truncated, j9_Truncated, l0_Truncated, l1_Truncated⟩ l2_Truncated i1_FormstripesError i2_FormstripesError I0 B0, B_Truncated⟩, ox_Truncated, PySem.W.mg_of X G aC_Truncated⟩
  have xf_Truncated : XfC K C_Truncated := ⟨l3_Truncated, l4_Truncated, j3_Truncated, l5_Truncated⟩
  have xc_Truncated : ExcC K C_Truncated := ⟨l3_Truncated, l4_Truncated, j3_Truncated, l5_Truncated, m0_Truncated, m1, m2, m3_Truncated⟩
  have T : Top P w ⟨K, C_FormstripesError, C_InvalidData, C_InvalidText, C_Truncated⟩ mg base := ⟨True.intro, PySem.W.mg_none_of X G b_bool, PySem.W.mg_none_of X G b_int, PySem.W.mg_none_of X G b_isinstance, PySem.W.mg_none_of X G b_len, PySem.W.mg_none_of X G b_list, PySem.W.mg_none_of X G b_max, PySem.W.mg_none_of X G b_min, PySem.W.mg_none_of X G b_range, ⟨_, PySem.W.mg_of X G g_LONGEST_NUMBER, ⟨_, rfl⟩⟩, PySem.W.mg_of X G aC_FormstripesError, PySem.W.mg_of X G aC_InvalidData, PySem.W.mg_of X G aC_InvalidText, PySem.W.mg_of X G aC_Truncated, N_InvalidData, N_Truncated, xf_InvalidData, xf_Truncated, xc_InvalidData, xc_Truncated, j8_InvalidData, j8_Truncated, j9_InvalidData, j9_Truncated, em_InvalidData_FormstripesError, ko_InvalidData_FormstripesError, em_InvalidData_InvalidData, ko_InvalidData_InvalidData, em_InvalidData_InvalidText, ko_InvalidData_InvalidText, em_InvalidData_Truncated, ko_InvalidData_Truncated, em_Truncated_FormstripesError, ko_Truncated_FormstripesError, em_Truncated_InvalidData, ko_Truncated_InvalidData, em_Truncated_InvalidText, ko_Truncated_InvalidText, em_Truncated_Truncated, ko_Truncated_Truncated⟩
  have E_write_number : FnE P w K mg base CX0 "write_number" 1 ["n"] (sp_write_number ⟨K, C_FormstripesError, C_InvalidData, C_InvalidText, C_Truncated⟩) := ⟨_, _, PySem.W.mg_of X G a1, k1, F1.binds (ps := ["n"]) fun _ _ _ _ _ _ us hl => match us, hl with | [_], _ => rfl, ok_write_number (G := ⟨K, C_FormstripesError, C_InvalidData, C_InvalidText, C_Truncated⟩) T F1⟩
  have E_read_number : FnE P w K mg base (L2.CX P w) "read_number" 4 ["octets", "at"] (sp_read_number ⟨K, C_FormstripesError, C_InvalidData, C_InvalidText, C_Truncated⟩) := ⟨_, _, PySem.W.mg_of X G a2, k2, F2.binds (ps := ["octets", "at"]) fun _ _ _ _ _ _ us hl => match us, hl with | [_, _], _ => rfl, ok_read_number (G := ⟨K, C_FormstripesError, C_InvalidData, C_InvalidText, C_Truncated⟩) T F2⟩
  have E__law_draw : FnE P w K mg base CX0 "_law_draw" 1 ["cell", "many", "bound"] (sp__law_draw ⟨K, C_FormstripesError, C_InvalidData, C_InvalidText, C_Truncated⟩) := ⟨_, _, PySem.W.mg_of X G a3, k3, F3.binds (ps := ["cell", "many", "bound"]) fun _ _ _ _ _ _ us hl => match us, hl with | [_, _, _], _ => rfl, ok__law_draw (G := ⟨K, C_FormstripesError, C_InvalidData, C_InvalidText, C_Truncated⟩) T F3⟩
  have E__law_is_integer : FnE P w K mg base CX0 "_law_is_integer" 1 ["actual"] (sp__law_is_integer ⟨K, C_FormstripesError, C_InvalidData, C_InvalidText, C_Truncated⟩) := ⟨_, _, PySem.W.mg_of X G a4, k4, F4.binds (ps := ["actual"]) fun _ _ _ _ _ _ us hl => match us, hl with | [_], _ => rfl, ok__law_is_integer (G := ⟨K, C_FormstripesError, C_InvalidData, C_InvalidText, C_Truncated⟩) T F4⟩
  have E__law_same : FnE P w K mg base CX0 "_law_same" 2 ["actual", "expected"] (sp__law_same ⟨K, C_FormstripesError, C_InvalidData, C_InvalidText, C_Truncated⟩) := ⟨_, _, PySem.W.mg_of X G a5, k5, F5.binds (ps := ["actual", "expected"]) fun _ _ _ _ _ _ us hl => match us, hl with | [_, _], _ => rfl, ok__law_same (G := ⟨K, C_FormstripesError, C_InvalidData, C_InvalidText, C_Truncated⟩) T E__law_is_integer F5⟩
  have E__law_octets_of : FnE P w K mg base CX0 "_law_octets_of" 1 ["n"] (sp__law_octets_of ⟨K, C_FormstripesError, C_InvalidData, C_InvalidText, C_Truncated⟩) := ⟨_, _, PySem.W.mg_of X G a6, k6, F6.binds (ps := ["n"]) fun _ _ _ _ _ _ us hl => match us, hl with | [_], _ => rfl, ok__law_octets_of (G := ⟨K, C_FormstripesError, C_InvalidData, C_InvalidText, C_Truncated⟩) T F6⟩
  have E__law_due : FnE P w K mg base CX0 "_law_due" 1 ["octets", "at"] (sp__law_due ⟨K, C_FormstripesError, C_InvalidData, C_InvalidText, C_Truncated⟩) := ⟨_, _, PySem.W.mg_of X G a7, k7, F7.binds (ps := ["octets", "at"]) fun _ _ _ _ _ _ us hl => match us, hl with | [_, _], _ => rfl, ok__law_due (G := ⟨K, C_FormstripesError, C_InvalidData, C_InvalidText, C_Truncated⟩) T F7⟩
  have E__law_told : FnE P w K mg base CX0 "_law_told" 5 ["octets", "at"] (sp__law_told ⟨K, C_FormstripesError, C_InvalidData, C_InvalidText, C_Truncated⟩) := ⟨_, _, PySem.W.mg_of X G a8, k8, F8.binds (ps := ["octets", "at"]) fun _ _ _ _ _ _ us hl => match us, hl with | [_, _], _ => rfl, ok__law_told (G := ⟨K, C_FormstripesError, C_InvalidData, C_InvalidText, C_Truncated⟩) T E_read_number F8⟩
  have E__law_number : FnE P w K mg base CX0 "_law_number" 1 ["numbers"] (sp__law_number ⟨K, C_FormstripesError, C_InvalidData, C_InvalidText, C_Truncated⟩) := ⟨_, _, PySem.W.mg_of X G a9, k9, F9.binds (ps := ["numbers"]) fun _ _ _ _ _ _ us hl => match us, hl with | [_], _ => rfl, ok__law_number (G := ⟨K, C_FormstripesError, C_InvalidData, C_InvalidText, C_Truncated⟩) T F9⟩
  exact lawS (ok_law (G := ⟨K, C_FormstripesError, C_InvalidData, C_InvalidText, C_Truncated⟩) T E__law_draw E__law_due E__law_is_integer E__law_number E__law_octets_of E__law_same E__law_told E_read_number E_write_number F10)
theorem walk {l : PySem.W.OpenLaw} {q : Program} {loose : List Str} {XP : (Str → Option Value) → Heap → Prop} {YP : World → Heap → Prop} {d : DefRec} {K : Params → PySem.W.Frag} (hn : l.most = some 63) (hdf : d.params.defaults = [])
    (hY : ∀ (w : World) (h : Heap), YP w h → (K w.params).In h)
    (F : ∀ (w : World) (mg : Str → Option Value) (fa : Addr) (h : Heap), (K w.params).In h → h.Ns mainGlobals mg → mg d.name = some (.ref fa) →
      ∃ fd : FuncData, (∀ (s : Shared) (u : Value), BindsTo s fd ⟨[u], []⟩ [("script", u)]) ∧ ∀ base : Heap, (K w.params).In base → base.Ns mainGlobals mg → FnOk l.prog w (K w.params) mg base CX0 6 fa fd ["script"] (spLawS (K w.params))) :
    PySem.W.WalkO q loose XP YP l.row.toRowW d [] (fun f vs => PySem.call f vs) :=
  L2.walk_of (n := 63) (k := 6) (x := "script") (CX := fun _ => CX0) (sp := fun w => spLawS (K w.params)) hn (by decide) hdf ⟨rfl, by decide, by decide⟩ hY F (fun _ _ a ns hl _ hS => ⟨a, ns, rfl, hS, hl, fun _ => rfl⟩) fun _ _ _ _ _ z => z
end My

open PySem PySem.W PyProof.Rows in
set_option maxRecDepth 100000 in
set_option maxHeartbeats 0 in
theorem PySem.Challenge.cw_formstripes_k09_numbers_as_octets_holds : PySem.Challenge.rw_formstripes_k09_numbers_as_octets.Holds := by
  w_on; o_law; k_head; (case hw => w_witness2)
  k_fill
  refine My.walk (l := PySem.Challenge.rw_formstripes_k09_numbers_as_octets) rfl rfl (fun w h Y => PySem.W.kIn_of Y) ?F
  case F =>
    intro w mg fa h KX G hmg
    refine' My.all_mk KX G hmg ?a1 ?l1 ?c1 ?k1 ?a2 ?l2 ?c2 ?k2 ?a3 ?l3 ?c3 ?k3 ?a4 ?l4 ?c4 ?k4 ?a5 ?l5 ?c5 ?k5 ?a6 ?l6 ?c6 ?k6 ?a7 ?l7 ?c7 ?k7 ?a8 ?l8 ?c8 ?k8 ?a9 ?l9 ?c9 ?k9 ?a10 ?l10 ?c10 ?k10 ?b_bool ?b_int ?b_isinstance ?b_len ?b_list ?b_max ?b_min ?b_range ?g_LONGEST_NUMBER ?aC_FormstripesError ?aC_InvalidData ?aC_InvalidText ?aC_Truncated ?d0 ?i0_FormstripesError ?i1_FormstripesError ?i2_FormstripesError ?i3_FormstripesError ?i4_FormstripesError ?i5_FormstripesError ?i6_FormstripesError ?i7_FormstripesError ?i8_FormstripesError ?i9_FormstripesError ?i0_InvalidData ?i1_InvalidData ?i2_InvalidData ?i3_InvalidData ?i4_InvalidData ?i5_InvalidData ?i6_InvalidData ?i7_InvalidData ?i8_InvalidData ?i9_InvalidData ?i0_Truncated ?i1_Truncated ?i2_Truncated ?i3_Truncated ?i4_Truncated ?i5_Truncated ?i6_Truncated ?i7_Truncated ?i8_Truncated ?i9_Truncated ?zs ?zt ?z3 ?j0_InvalidData ?j1_InvalidData ?j2_InvalidData ?j3_InvalidData ?j4_InvalidData ?j5_InvalidData ?j6_InvalidData ?j7_InvalidData ?j8_InvalidData ?j9_InvalidData ?l0_InvalidData ?l1_InvalidData ?l2_InvalidData ?l3_InvalidData ?l4_InvalidData ?l5_InvalidData ?m0_InvalidData ?m3_InvalidData ?em_InvalidData_FormstripesError ?ko_InvalidData_FormstripesError ?em_InvalidData_InvalidData ?ko_InvalidData_InvalidData ?em_InvalidData_InvalidText ?ko_InvalidData_InvalidText ?em_InvalidData_Truncated ?ko_InvalidData_Truncated ?j0_Truncated ?j1_Truncated ?j2_Truncated ?j3_Truncated ?j4_Truncated ?j5_Truncated ?j6_Truncated ?j7_Truncated ?j8_Truncated ?j9_Truncated ?l0_Truncated ?l1_Truncated ?l2_Truncated ?l3_Truncated ?l4_Truncated ?l5_Truncated ?m0_Truncated ?m3_Truncated ?em_Truncated_FormstripesError ?ko_Truncated_FormstripesError ?em_Truncated_InvalidData ?ko_Truncated_InvalidData ?em_Truncated_InvalidText ?ko_Truncated_InvalidText ?em_Truncated_Truncated ?ko_Truncated_Truncated ?m1 ?m2
    (case a1 => first | k_is | kernel_rfl)
    (case l1 => first | k_is | kernel_rfl)
    (case c1 => first | k_is | kernel_rfl)
    (case k1 => first | k_is | kernel_rfl)
    (case a2 => first | k_is | kernel_rfl)
    (case l2 => first | k_is | kernel_rfl)
    (case c2 => first | k_is | kernel_rfl)
    (case k2 => first | k_is | kernel_rfl)
    (case a3 => first | k_is | kernel_rfl)
    (case l3 => first | k_is | kernel_rfl)
    (case c3 => first | k_is | kernel_rfl)
    (case k3 => first | k_is | kernel_rfl)
    (case a4 => first | k_is | kernel_rfl)
    (case l4 => first | k_is | kernel_rfl)
    (case c4 => first | k_is | kernel_rfl)
    (case k4 => first | k_is | kernel_rfl)
    (case a5 => first | k_is | kernel_rfl)
    (case l5 => first | k_is | kernel_rfl)
    (case c5 => first | k_is | kernel_rfl)
    (case k5 => first | k_is | kernel_rfl)
    (case a6 => first | k_is | kernel_rfl)
    (case l6 => first | k_is | kernel_rfl)
    (case c6 => first | k_is | kernel_rfl)
    (case k6 => first | k_is | kernel_rfl)
    (case a7 => first | k_is | kernel_rfl)
    (case l7 => first | k_is | kernel_rfl)
    (case c7 => first | k_is | kernel_rfl)
    (case k7 => first | k_is | kernel_rfl)
    (case a8 => first | k_is | kernel_rfl)
    (case l8 => first | k_is | kernel_rfl)
    (case c8 => first | k_is | kernel_rfl)
    (case k8 => first | k_is | kernel_rfl)
    (case a9 => first | k_is | kernel_rfl)
    (case l9 => first | k_is | kernel_rfl)
    (case c9 => first | k_is | kernel_rfl)
    (case k9 => first | k_is | kernel_rfl)
    (case a10 => first | k_is | kernel_rfl)
    (case l10 => first | k_is | kernel_rfl)
    (case c10 => first | k_is | kernel_rfl)
    (case k10 => first | k_is | kernel_rfl)
    (case b_bool => first | k_is | kernel_rfl)
    (case b_int => first | k_is | kernel_rfl)
    (case b_isinstance => first | k_is | kernel_rfl)
    (case b_len => first | k_is | kernel_rfl)
    (case b_list => first | k_is | kernel_rfl)
    (case b_max => first | k_is | kernel_rfl)
    (case b_min => first | k_is | kernel_rfl)
    (case b_range => first | k_is | kernel_rfl)
    (case g_LONGEST_NUMBER => first | k_is | kernel_rfl)
    (case aC_FormstripesError => first | k_is | kernel_rfl)
    (case aC_InvalidData => first | k_is | kernel_rfl)
    (case aC_InvalidText => first | k_is | kernel_rfl)
    (case aC_Truncated => first | k_is | kernel_rfl)
    (case i0_FormstripesError => first | k_is | kernel_rfl)
    (case i1_FormstripesError => first | k_is | kernel_rfl)
    (case i2_FormstripesError => first | k_is | kernel_rfl)
    (case i3_FormstripesError => first | k_is | kernel_rfl)
    (case i4_FormstripesError => first | k_is | kernel_rfl)
    (case i5_FormstripesError => first | k_is | kernel_rfl)
    (case i6_FormstripesError => rfl)
    (case i7_FormstripesError => first | rfl | decide +kernel)
    (case i8_FormstripesError => first | k_is | kernel_rfl)
    (case i9_FormstripesError => first | k_is | kernel_rfl)
    (case i0_InvalidData => first | k_is | kernel_rfl)
    (case i1_InvalidData => first | k_is | kernel_rfl)
    (case i2_InvalidData => first | k_is | kernel_rfl)
    (case i3_InvalidData => first | k_is | kernel_rfl)
    (case i4_InvalidData => first | k_is | kernel_rfl)
    (case i5_InvalidData => first | k_is | kernel_rfl)
    (case i6_InvalidData => rfl)
    (case i7_InvalidData => first | rfl | decide +kernel)
    (case i8_InvalidData => first | k_is | kernel_rfl)
    (case i9_InvalidData => first | k_is | kernel_rfl)
    (case i0_Truncated => first | k_is | kernel_rfl)
    (case i1_Truncated => first | k_is | kernel_rfl)
    (case i2_Truncated => first | k_is | kernel_rfl)
    (case i3_Truncated => first | k_is | kernel_rfl)
    (case i4_Truncated => first | k_is | kernel_rfl)
    (case i5_Truncated => first | k_is | kernel_rfl)
    (case i6_Truncated => rfl)
    (case i7_Truncated => first | rfl | decide +kernel)
    (case i8_Truncated => first | k_is | kernel_rfl)
    (case i9_Truncated => first | k_is | kernel_rfl)
    (case zs => first | k_is | kernel_rfl)
    (case zt => first | rfl | decide +kernel)
    (case z3 => first | k_is | kernel_rfl)
    (case j0_InvalidData => first | k_is | kernel_rfl)
    (case j1_InvalidData => first | rfl | decide +kernel)
    (case j2_InvalidData => first | k_is | kernel_rfl)
    (case j3_InvalidData => first | k_is | kernel_rfl)
    (case j4_InvalidData => first | k_is | kernel_rfl)
    (case j5_InvalidData => first | k_is | kernel_rfl)
    (case j6_InvalidData => first | k_is | kernel_rfl)
    (case j7_InvalidData => first | k_is | kernel_rfl)
    (case j8_InvalidData => first | k_is | kernel_rfl)
    (case j9_InvalidData => first | k_is | kernel_rfl)
    (case l0_InvalidData => ks_is)
    (case l1_InvalidData => first | k_is | kernel_rfl)
    (case l2_InvalidData => ks_is)
    (case l3_InvalidData => first | k_is | kernel_rfl)
    (case l4_InvalidData => first | k_is | kernel_rfl)
    (case l5_InvalidData => first | k_is | kernel_rfl)
    (case m0_InvalidData => first | k_is | kernel_rfl)
    (case m3_InvalidData => first | k_is | kernel_rfl)
    (case em_InvalidData_FormstripesError => first | k_is | kx_is | rfl | kernel_rfl)
    (case ko_InvalidData_FormstripesError => kit_is)
    (case em_InvalidData_InvalidData => first | k_is | kx_is | rfl | kernel_rfl)
    (case ko_InvalidData_InvalidData => kit_is)
    (case em_InvalidData_InvalidText => first | k_is | kx_is | rfl | kernel_rfl)
    (case ko_InvalidData_InvalidText => kit_is)
    (case em_InvalidData_Truncated => first | k_is | kx_is | rfl | kernel_rfl)
    (case ko_InvalidData_Truncated => kit_is)
    (case j0_Truncated => first | k_is | kernel_rfl)
    (case j1_Truncated => first | rfl | decide +kernel)
    (case j2_Truncated => first | k_is | kernel_rfl)
    (case j3_Truncated => first | k_is | kernel_rfl)
    (case j4_Truncated => first | k_is | kernel_rfl)
    (case j5_Truncated => first | k_is | kernel_rfl)
    (case j6_Truncated => first | k_is | kernel_rfl)
    (case j7_Truncated => first | k_is | kernel_rfl)
    (case j8_Truncated => first | k_is | kernel_rfl)
    (case j9_Truncated => first | k_is | kernel_rfl)
    (case l0_Truncated => ks_is)
    (case l1_Truncated => first | k_is | kernel_rfl)
    (case l2_Truncated => ks_is)
    (case l3_Truncated => first | k_is | kernel_rfl)
    (case l4_Truncated => first | k_is | kernel_rfl)
    (case l5_Truncated => first | k_is | kernel_rfl)
    (case m0_Truncated => first | k_is | kernel_rfl)
    (case m3_Truncated => first | k_is | kernel_rfl)
    (case em_Truncated_FormstripesError => first | k_is | kx_is | rfl | kernel_rfl)
    (case ko_Truncated_FormstripesError => kit_is)
    (case em_Truncated_InvalidData => first | k_is | kx_is | rfl | kernel_rfl)
    (case ko_Truncated_InvalidData => kit_is)
    (case em_Truncated_InvalidText => first | k_is | kx_is | rfl | kernel_rfl)
    (case ko_Truncated_InvalidText => kit_is)
    (case em_Truncated_Truncated => first | k_is | kx_is | rfl | kernel_rfl)
    (case ko_Truncated_Truncated => kit_is)
    (case m1 => first | k_is | kernel_rfl)
    (case m2 => first | k_is | kernel_rfl)
    (case d0 => k_is)

