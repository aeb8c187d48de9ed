import PyProof.Rows.All
import Wide.All
import OpenK.AllK
import Wide.FinOn
import HandS.ForMost
import HandS.Wide
import HandS.WideBits
import HandS.IsInst
import HandS.Flow
import HandS.More
import KE.OsArith
import KE.KExcSuper
import KE.KSuper
import HandS.ExcInit
import HandS.Nested
import HandS.TryOnly
import HandS.TryMany
import HandS.WordsExc
import HandS.SuiteRaise
import HandS.ExcIs
import HandS.ExcField
import HandS.ExcOwn
import HandS.CallSlots
import KE.KExcIs
import HandS.Defaults
import HandS.Replace
import HandS.Walk
import HandS.Dict
import HandS.Small
import HandS.TupLe
import HandS.ListItems
import HandS.Text
import HandS.Iter
import HandS.DictComp
import HandS.IntHex
import HandS.Deep
import HandS.TupAny
import HandS.SortKw
import HandS.Style
import HandS.AnyAll
import HandS.GenList
import HandS.EndOwn
import PySem.Challenge.RW_formstripes_k04_names
set_option Elab.async false
set_option linter.all false
set_option maxRecDepth 100000
set_option maxHeartbeats 4000000
/-! R: rules joined by kinds of values, with the equations of their readings. -/
namespace R
open PySem PySem.Spec PyProof.Rows L2

section
variable {X : Cx}
theorem opImp {f : Value → Value → Sem Value} {r r' : R2} (h : OpR X f r) (i : ∀ x y H Q, r' x y H Q → r x y H Q) : OpR X f r' :=
  fun pins s σ H x y u v Q I rx ry q => h pins s σ H x y u v Q I rx ry (i _ _ _ _ q)
theorem unImp {f : Value → Sem Value} {r r' : V → Hp → VK → Prop} (h : UnR X f r) (i : ∀ x H Q, r' x H Q → r x H Q) : UnR X f r' :=
  fun pins s σ H x v Q I rx q => h pins s σ H x v Q I rx (i _ _ _ q)
theorem callImp {f : Value} {r r' : List V → Hp → VK → Prop} (h : CallR X f r) (i : ∀ xs H Q, r' xs H Q → r xs H Q) : CallR X f r' :=
  fun pins s σ H xs us Q I rx q => h pins s σ H xs us Q I rx (i _ _ _ q)
theorem ixImp {r r' : R2} (h : IxR X r) (i : ∀ x y H Q, r' x y H Q → r x y H Q) : IxR X r' :=
  fun a b pins s σ H x y u v Q I rx ry q e => h a b pins s σ H x y u v Q I rx ry (i _ _ _ _ q) e
theorem mtImp {id : String} {r r' : V → List V → Hp → VK → Prop} (h : MtR X id r) (i : ∀ x xs H Q, r' x xs H Q → r x xs H Q) : MtR X id r' :=
  fun pins s σ H x xs u us Q I rx ry q => h pins s σ H x xs u us Q I rx ry (i _ _ _ _ q)
end

/-! ### ints -/
def mI (C : Int → Int → Prop) (g : Int → Int → V) : R2 := fun x y H Q => match x, y with
  | .int i, .int j => C i j ∧ Q (g i j) H
  | _, _ => False
def mI0 (g : Int → Int → V) : R2 := fun x y H Q => match x, y with
  | .int i, .int j => Q (g i j) H
  | _, _ => False
theorem mI_e {C g i j H Q} : mI C g (.int i) (.int j) H Q = (C i j ∧ Q (g i j) H) := rfl
theorem mI0_e {g i j H Q} : mI0 g (.int i) (.int j) H Q = Q (g i j) H := rfl
theorem mI_of {X : Cx} {f : Value → Value → Sem Value} {C g} (h : OpR X f (rI C g)) : OpR X f (mI C g) := opImp h fun x y H Q q => by
  cases x <;> cases y <;> first | exact q.elim | exact ⟨_, _, rfl, rfl, q.1, q.2⟩
theorem mI0_of {X : Cx} {f : Value → Value → Sem Value} {g} (h : OpR X f (rI0 g)) : OpR X f (mI0 g) := opImp h fun x y H Q q => by
  cases x <;> cases y <;> first | exact q.elim | exact ⟨_, _, rfl, rfl, q⟩
/-- a product's sizes -/
def CM (i j : Int) : Prop := CMul i j ∨ CMulW i j
/-- a divisor's size -/
def CD (i j : Int) : Prop := 0 < j ∧ (j < 1073741824 ∨ j.natAbs.log2 < 9000)
/-- a shift's sizes -/
def CS (i j : Int) : Prop := 0 ≤ j ∧ ((j ≤ 1000000 ∧ i.natAbs < 2 ^ 64) ∨ (Builtin.Int.intBits i : Int) + j ≤ 2 ^ 27)
section
variable {X : Cx}
theorem orI {f : Value → Value → Sem Value} {C C' g} (h : OpR X f (rI C g)) (h' : OpR X f (rI C' g)) : OpR X f (rI (fun i j => C i j ∨ C' i j) g) :=
  opImp (h.or h') fun x y H Q ⟨i, j, e1, e2, c, q⟩ => c.elim (fun c => .inl ⟨i, j, e1, e2, c, q⟩) fun c => .inr ⟨i, j, e1, e2, c, q⟩
theorem cI {f : Value → Value → Sem Value} {C C' : Int → Int → Prop} {g} (h : OpR X f (rI C g)) (i : ∀ i j, C' i j → C i j) : OpR X f (rI C' g) :=
  opImp h fun x y H Q ⟨a, b, e1, e2, c, q⟩ => ⟨a, b, e1, e2, i _ _ c, q⟩
def rSubI : R2 := mI0 fun i j => .int (i - j)
def rMulI : R2 := mI CM fun i j => .int (i * j)
def rFdiv : R2 := mI CD fun i j => .int (i / j)
def rMod : R2 := mI (fun _ j => 0 < j) fun i j => .int (i % j)
def rShl : R2 := mI CS fun i j => .int (i * 2 ^ j.toNat)
def rShr : R2 := mI (fun _ j => 0 ≤ j) fun i j => .int (i / 2 ^ j.toNat)
def rXor : R2 := mI0 fun i j => .int (Builtin.bitXor i j)
def rAndB : R2 := mI0 fun i j => .int (Builtin.bitAnd i j)
def rOrB : R2 := mI0 fun i j => .int (Builtin.bitOr i j)
def rPow : R2 := mI CPow fun i j => .int (i ^ j.toNat)
theorem u_sub : OpR X (binaryOp .Sub) rSubI := mI0_of op_sub
theorem u_mulI : OpR X (binaryOp .Mult) rMulI := mI_of (orI op_mul op_mulW)
theorem u_fdiv : OpR X (binaryOp .FloorDiv) rFdiv := mI_of (cI (orI op_fdiv op_fdivW) fun i j c => c.2.elim (fun h => .inl ⟨c.1, h⟩) fun h => .inr ⟨c.1, h⟩)
theorem u_mod : OpR X (binaryOp .Mod) rMod := mI_of op_mod
theorem u_shl : OpR X (binaryOp .LShift) rShl := mI_of (cI (orI op_shl op_shlW) fun i j c => c.2.elim (fun h => .inl ⟨c.1, h.1, h.2⟩) fun h => .inr ⟨c.1, h⟩)
theorem u_shr : OpR X (binaryOp .RShift) rShr := mI_of op_shr
theorem u_xor : OpR X (binaryOp .BitXor) rXor := mI0_of op_xor
theorem u_and : OpR X (binaryOp .BitAnd) rAndB := mI0_of op_and
theorem u_or : OpR X (binaryOp .BitOr) rOrB := mI0_of op_or
theorem u_pow : OpR X (binaryOp .Pow) rPow := mI_of op_pow
theorem i_sub : OpR X (inplaceOp .Sub) rSubI := mI0_of iop_sub
theorem i_mod : OpR X (inplaceOp .Mod) rMod := mI_of iop_mod
theorem i_shl : OpR X (inplaceOp .LShift) rShl := mI_of (cI (orI iop_shl iop_shlW) fun i j c => c.2.elim (fun h => .inl ⟨c.1, h.1, h.2⟩) fun h => .inr ⟨c.1, h⟩)
theorem i_shr : OpR X (inplaceOp .RShift) rShr := mI_of iop_shr
theorem i_xor : OpR X (inplaceOp .BitXor) rXor := mI0_of iop_xor
theorem i_and : OpR X (inplaceOp .BitAnd) rAndB := mI0_of iop_and
theorem i_or : OpR X (inplaceOp .BitOr) rOrB := mI0_of iop_or
end
/-! ### new objects -/
def Nw (H : Hp) (o : HO) (Q : VK) : Prop := ∀ p, H p = none → Q (.ref p) (upd H p o)
/-- all that was tracked is as it was -/
theorem Same.new {H : Hp} {p : Addr} {o : HO} (h : H p = none) : Same H (upd H p o) := fun a u e => by
  rw [upd_ne (ne_of_none e h)]
  exact e
theorem nw {H : Hp} {o : HO} {Q : VK} (h : ∀ p H', H p = none → Same H H' → H' p = some o → Q (.ref p) H') : Nw H o Q := fun p hp => h p _ hp (Same.new hp) upd_same

/-! ### lists and tuples that are read -/
open Classical in
noncomputable def klst (K : PySem.W.Frag) (p : Addr) : Option (List V) := if h : ∃ xs, SqL K (fun _ => none) p xs then some (Classical.choose h) else none
open Classical in
noncomputable def ktup (K : PySem.W.Frag) (p : Addr) : Option (List V) := if h : ∃ xs, SqT K (fun _ => none) p xs then some (Classical.choose h) else none
noncomputable def lstv (K : PySem.W.Frag) (H : Hp) (p : Addr) : Option (List V) := match H p with
  | some (.lst xs) => some xs
  | some (.frz _ (.lst xs)) => some xs
  | none => klst K p
  | _ => none
noncomputable def tupv (K : PySem.W.Frag) (H : Hp) (p : Addr) : Option (List V) := match H p with
  | some (.tup xs) => some xs
  | some (.frz _ (.tup xs)) => some xs
  | none => ktup K p
  | _ => none
section
variable {K : PySem.W.Frag} {H H' : Hp} {p : Addr} {xs : List V}
theorem lstv_of (h : H p = some (.lst xs)) : lstv K H p = some xs := by unfold lstv; rw [h]
theorem lstv_frz {o} (h : H p = some (.frz o (.lst xs))) : lstv K H p = some xs := by unfold lstv; rw [h]
theorem tupv_of (h : H p = some (.tup xs)) : tupv K H p = some xs := by unfold tupv; rw [h]
theorem lstv_tup (h : H p = some (.tup xs)) : lstv K H p = none := by unfold lstv; rw [h]
theorem tupv_lst (h : H p = some (.lst xs)) : tupv K H p = none := by unfold tupv; rw [h]
theorem tupv_frz {o} (h : H p = some (.frz o (.lst xs))) : tupv K H p = none := by unfold tupv; rw [h]
theorem lstv_sq (h : lstv K H p = some xs) : SqL K H p xs := by
  unfold lstv at h
  split at h
  · cases h; exact .inl (.inl ‹_›)
  · cases h; exact .inl (.inr ⟨_, ‹_›⟩)
  · unfold klst at h
    split at h
    · rename_i hn he
      have q := Classical.choose_spec he
      cases h
      rcases q with (q | ⟨_, q⟩) | q
      · cases q
      · cases q
      · exact .inr q
    · cases h
  · cases h
theorem tupv_sq (h : tupv K H p = some xs) : SqT K H p xs := by
  unfold tupv at h
  split at h
  · cases h; exact .inl (.inl ‹_›)
  · cases h; exact .inl (.inr ⟨_, ‹_›⟩)
  · unfold ktup at h
    split at h
    · rename_i hn he
      have q := Classical.choose_spec he
      cases h
      rcases q with (q | ⟨_, q⟩) | q
      · cases q
      · cases q
      · exact .inr q
    · cases h
  · cases h
end
/-- a list or a tuple -/
noncomputable def sqv (K : PySem.W.Frag) (H : Hp) (p : Addr) : Option (List V) := match lstv K H p with
  | some xs => some xs
  | none => tupv K H p
theorem sqv_sq {K : PySem.W.Frag} {H : Hp} {p : Addr} {xs : List V} (h : sqv K H p = some xs) : SqL K H p xs ∨ SqT K H p xs := by
  unfold sqv at h
  split at h
  · cases h; exact .inl (lstv_sq ‹_›)
  · exact .inr (tupv_sq h)
theorem sqv_l {K : PySem.W.Frag} {H : Hp} {p : Addr} {xs : List V} (h : lstv K H p = some xs) : sqv K H p = some xs := by unfold sqv; rw [h]
theorem sqv_t {K : PySem.W.Frag} {H : Hp} {p : Addr} {xs : List V} (h : H p = some (.tup xs)) : sqv K H p = some xs := by unfold sqv; rw [lstv_tup h]; exact tupv_of h

/-! ### + -/
def rAddU : R2 := fun x y H Q => match x, y with
  | .int i, .int j => Q (.int (i + j)) H
  | .str a, .str b => a.length + b.length ≤ sizeLine ∧ Q (.str (a ++ b)) H
  | .byt a, .byt b => a.size + b.size ≤ 16777216 ∧ Q (.byt (a ++ b)) H
  | .ref a, .ref b => match H a, H b with
    | some (.lst xs), some (.lst ys) => xs.length + ys.length ≤ sizeLine ∧ Nw H (.lst (xs ++ ys)) Q
    | some (.tup xs), some (.tup ys) => xs ≠ [] ∧ xs.length + ys.length ≤ sizeLine ∧ (ys = [] → Q (.ref a) H) ∧ (ys ≠ [] → Nw H (.tup (xs ++ ys)) Q)
    | _, _ => False
  | _, _ => False
theorem rAddU_int {i j H Q} : rAddU (.int i) (.int j) H Q = Q (.int (i + j)) H := rfl
theorem rAddU_str {i j H Q} : rAddU (.str i) (.str j) H Q = (i.length + j.length ≤ sizeLine ∧ Q (.str (i ++ j)) H) := rfl
theorem rAddU_lst {a b : Addr} {xs ys : List V} {H : Hp} {Q} (ha : H a = some (.lst xs)) (hb : H b = some (.lst ys)) : rAddU (.ref a) (.ref b) H Q = (xs.length + ys.length ≤ sizeLine ∧ Nw H (.lst (xs ++ ys)) Q) := by
  unfold rAddU; simp only [ha, hb]
section
variable {X : Cx}
theorem u_add : OpR X (binaryOp .Add) rAddU := opImp (((op_add.or op_add_str).or op_add_byt).or (op_cat.or op_catT)) fun x y H Q q => by
  unfold rAddU at q
  split at q
  · exact .inl (.inl (.inl ⟨_, _, rfl, rfl, q⟩))
  · exact .inl (.inl (.inr ⟨_, _, rfl, rfl, q⟩))
  · exact .inl (.inr ⟨_, _, rfl, rfl, q⟩)
  · split at q
    · exact .inr (.inl ⟨_, _, _, _, rfl, rfl, ‹_›, ‹_›, q⟩)
    · exact .inr (.inr ⟨_, _, _, _, rfl, rfl, SqT.of ‹_›, SqT.of ‹_›, q⟩)
    · exact q.elim
  · exact q.elim
def rIaddU : R2 := fun x y H Q => match x, y with
  | .int i, .int j => Q (.int (i + j)) H
  | .str a, .str b => a.length + b.length ≤ sizeLine ∧ Q (.str (a ++ b)) H
  | _, _ => False
theorem i_add : OpR X (inplaceOp .Add) rIaddU := opImp (iop_add.or iop_add_str) fun x y H Q q => by
  unfold rIaddU at q
  split at q
  · exact .inl ⟨_, _, rfl, rfl, q⟩
  · exact .inr ⟨_, _, rfl, rfl, q⟩
  · exact q.elim
def rMulU : R2 := fun x y H Q => match x, y with
  | .int i, .int j => CM i j ∧ Q (.int (i * j)) H
  | .ref a, .int k => match H a with
    | some (.lst xs) => -(2 ^ 63) ≤ k ∧ k < 2 ^ 63 ∧ xs.length * k.toNat ≤ sizeLine ∧ Nw H (.lst (List.replicate k.toNat xs).flatten) Q
    | _ => False
  | _, _ => False
theorem u_mul : OpR X (binaryOp .Mult) rMulU := opImp (u_mulI.or op_rep) fun x y H Q q => by
  unfold rMulU at q
  split at q
  · exact .inl q
  · split at q
    · exact .inr ⟨_, _, _, rfl, rfl, ‹_›, q⟩
    · exact q.elim
  · exact q.elim

/-! ### comparisons -/
def rLtU : R2 := fun x y H Q => match x, y with
  | .int i, .int j => Q (.bl (decide (i < j))) H
  | .str a, .str b => Q (.bl (decide (a.cps.toList < b.cps.toList))) H
  | _, _ => False
def rLeU : R2 := fun x y H Q => match x, y with
  | .int i, .int j => Q (.bl (decide (i ≤ j))) H
  | .str a, .str b => Q (.bl (!decide (b.cps.toList < a.cps.toList))) H
  | _, _ => False
def rGtU : R2 := fun x y H Q => match x, y with
  | .int i, .int j => Q (.bl (decide (j < i))) H
  | .str a, .str b => Q (.bl (decide (b.cps.toList < a.cps.toList))) H
  | _, _ => False
def rGeU : R2 := fun x y H Q => match x, y with
  | .int i, .int j => Q (.bl (decide (j ≤ i))) H
  | .str a, .str b => Q (.bl (!decide (a.cps.toList < b.cps.toList))) H
  | _, _ => False
theorem u_lt : OpR X (compareOp .Lt) rLtU := opImp (op_lt.or op_lt_str) fun x y H Q q => by
  cases x <;> cases y <;> first | exact q.elim | exact .inl ⟨_, _, rfl, rfl, q⟩ | exact .inr ⟨_, _, rfl, rfl, q⟩
theorem u_le : OpR X (compareOp .LtE) rLeU := opImp (op_le.or op_le_str) fun x y H Q q => by
  cases x <;> cases y <;> first | exact q.elim | exact .inl ⟨_, _, rfl, rfl, q⟩ | exact .inr ⟨_, _, rfl, rfl, q⟩
theorem u_gt : OpR X (compareOp .Gt) rGtU := opImp (op_gt.or op_gt_str) fun x y H Q q => by
  cases x <;> cases y <;> first | exact q.elim | exact .inl ⟨_, _, rfl, rfl, q⟩ | exact .inr ⟨_, _, rfl, rfl, q⟩
theorem u_ge : OpR X (compareOp .GtE) rGeU := opImp (op_ge.or op_ge_str) fun x y H Q q => by
  cases x <;> cases y <;> first | exact q.elim | exact .inl ⟨_, _, rfl, rfl, q⟩ | exact .inr ⟨_, _, rfl, rfl, q⟩
def isRef : V → Bool
  | .ref _ => true
  | _ => false
def rEqU (K : PySem.W.Frag) : R2 := fun x y H Q => if (isRef x || isRef y) = true then rEqD K x y H Q else scal x y = true ∧ Q (.bl (decide (x = y))) H
def rNeU (K : PySem.W.Frag) : R2 := fun x y H Q => if (isRef x || isRef y) = true then rNeD K x y H Q else scal x y = true ∧ Q (.bl (!decide (x = y))) H
theorem u_eq (hu : X.A.units + 64 < cLine) : OpR X (compareOp .Eq) (rEqU X.K) := opImp (op_eq.or (op_eqD hu)) fun x y H Q q => by
  unfold rEqU at q
  split at q
  · exact .inr q
  · exact .inl q
theorem u_ne (hu : X.A.units + 64 < cLine) : OpR X (compareOp .NotEq) (rNeU X.K) := opImp (op_ne.or (op_neD hu)) fun x y H Q q => by
  unfold rNeU at q
  split at q
  · exact .inr q
  · exact .inl q
theorem rEqU_int {K i j H Q} : rEqU K (.int i) (.int j) H Q = Q (.bl (decide (i = j))) H := by unfold rEqU; simp [isRef, scal]
theorem rNeU_int {K i j H Q} : rNeU K (.int i) (.int j) H Q = Q (.bl (!decide (i = j))) H := by unfold rNeU; simp [isRef, scal]
theorem rEqU_str {K i j H Q} : rEqU K (.str i) (.str j) H Q = Q (.bl (decide (i = j))) H := by unfold rEqU; simp [isRef, scal]
theorem rNeU_str {K i j H Q} : rNeU K (.str i) (.str j) H Q = Q (.bl (!decide (i = j))) H := by unfold rNeU; simp [isRef, scal]
theorem rEqU_bl {K i j H Q} : rEqU K (.bl i) (.bl j) H Q = Q (.bl (decide (i = j))) H := by unfold rEqU; simp [isRef, scal]
theorem rNeU_bl {K i j H Q} : rNeU K (.bl i) (.bl j) H Q = Q (.bl (!decide (i = j))) H := by unfold rNeU; simp [isRef, scal]
theorem rEqU_ref {K a y H Q} : rEqU K (.ref a) y H Q = rEqD K (.ref a) y H Q := rfl
theorem rNeU_ref {K a y H Q} : rNeU K (.ref a) y H Q = rNeD K (.ref a) y H Q := rfl
/-- is -/
def rIsU : R2 := fun x y H Q => match x, y with
  | x, .non => Q (.bl (decide (x = .non))) H
  | _, _ => False
def rIsNU : R2 := fun x y H Q => match x, y with
  | x, .non => Q (.bl (!decide (x = .non))) H
  | _, _ => False
theorem u_is : OpR X (compareOp .Is) rIsU := opImp op_isN fun x y H Q q => by
  cases y <;> first | exact q.elim | exact ⟨rfl, q⟩
theorem u_isN : OpR X (compareOp .IsNot) rIsNU := opImp op_notN fun x y H Q q => by
  cases y <;> first | exact q.elim | exact ⟨rfl, q⟩
/-- in -/
def inS (a b : Str) : Bool := !(Builtin.Str.occurrences b a 0 b.length 1).isEmpty
theorem inS_one (c : Nat) (z : Str) : inS ⟨#[c]⟩ z = decide (c ∈ z.cps.toList) := PySem.StrLaws.found_one z c
noncomputable def rInU (K : PySem.W.Frag) (neg : Bool) : R2 := fun x y H Q => match y with
  | .str b => (match x with
    | .str a => Q (.bl (if neg then !inS a b else inS a b)) H
    | _ => False)
  | .ref p => (match sqv K H p with
    | some xs => flatV x = true ∧ xs.all flatV = true ∧ Q (.bl (if neg then !inV x xs else inV x xs)) H
    | none => False)
  | _ => False
theorem u_in : OpR X (compareOp .In) (rInU X.K false) := opImp (op_in_str.or op_in_seq) fun x y H Q q => by
  unfold rInU at q
  split at q
  · split at q
    · exact .inl ⟨_, _, rfl, rfl, q⟩
    · exact q.elim
  · split at q
    · exact .inr ⟨_, _, rfl, sqv_sq ‹_›, q⟩
    · exact q.elim
  · exact q.elim
theorem u_nin : OpR X (compareOp .NotIn) (rInU X.K true) := opImp (op_notin_str.or op_notIn_seq) fun x y H Q q => by
  unfold rInU at q
  split at q
  · split at q
    · exact .inl ⟨_, _, rfl, rfl, q⟩
    · exact q.elim
  · split at q
    · exact .inr ⟨_, _, rfl, sqv_sq ‹_›, q⟩
    · exact q.elim
  · exact q.elim
theorem rInU_str {K neg a b H Q} : rInU K neg (.str a) (.str b) H Q = Q (.bl (if neg then !inS a b else inS a b)) H := rfl

/-! ### - and not -/
def mU (g : Int → V) : V → Hp → VK → Prop := fun x H Q => match x with
  | .int i => Q (g i) H
  | _ => False
theorem u_neg : UnR X (unaryOp .USub) (mU fun i => .int (-i)) := unImp un_neg fun x H Q q => by
  cases x <;> first | exact q.elim | exact ⟨_, rfl, q⟩

/-! ### items, slices -/
noncomputable def rIxU (K : PySem.W.Frag) : R2 := fun x y H Q => match x, y with
  | .str z, .int i => z.length ≤ sizeLine ∧ (match atI z.cps.toList i with
    | some c => Q (.str ⟨#[c]⟩) H
    | none => False)
  | .ref p, .int i => (match sqv K H p with
    | some xs => (match atI xs i with
      | some v => Q v H
      | none => False)
    | none => False)
  | _, _ => False
theorem u_ix : IxR X (rIxU X.K) := ixImp ix_seq fun x y H Q q => by
  unfold rIxU at q
  split at q
  · split at q
    · exact .inr (.inr ⟨_, _, _, rfl, rfl, q.1, ‹_›, q.2⟩)
    · exact q.2.elim
  · split at q
    · rename_i h
      split at q
      · rcases sqv_sq h with h | h
        · exact .inl ⟨_, _, _, _, rfl, rfl, h, ‹_›, q⟩
        · exact .inr (.inl ⟨_, _, _, _, rfl, rfl, h, ‹_›, q⟩)
      · exact q.elim
    · exact q.elim
  · exact q.elim
noncomputable def rSlU (K : PySem.W.Frag) : V → Option Int → Option Int → Hp → VK → Prop := fun x lo hi H Q => match x with
  | .str z => z.length ≤ sizeLine ∧ Q (.str (cutS z lo hi)) H
  | .ref p => (match lstv K H p with
    | some xs => Nw H (.lst (cutV xs lo hi)) Q
    | none => False)
  | _ => False
theorem slImp {r r' : V → Option Int → Option Int → Hp → VK → Prop} (h : SlR X r) (i : ∀ x lo hi H Q, r' x lo hi H Q → r x lo hi H Q) : SlR X r' := by
  intro pins s σ H x v lo hi
  intros
  apply h <;> first | assumption | (apply i; assumption)
theorem u_sl : SlR X (rSlU X.K) := slImp (sl_str.or sl_list) fun x lo hi H Q q => by
  unfold rSlU at q
  split at q
  · exact .inl ⟨_, rfl, q⟩
  · split at q
    · exact .inr ⟨_, _, rfl, lstv_sq ‹_›, q⟩
    · exact q.elim
  · exact q.elim
end

/-! ### built-in calls -/
section
variable {X : Cx}
noncomputable def rLenU (K : PySem.W.Frag) : List V → Hp → VK → Prop := fun xs H Q => match xs with
  | [.str z] => z.length ≤ sizeLine ∧ Q (.int z.length) H
  | [.byt z] => z.size ≤ sizeLine ∧ Q (.int z.size) H
  | [.ref p] => (match sqv K H p with
    | some xs => Q (.int xs.length) H
    | none => (match H p with
      | some (.dK kvs) => Q (.int kvs.length) H
      | _ => False))
  | _ => False
theorem c_len : CallR X (.builtin "len") (rLenU X.K) := callImp (call_len.or call_lenD) fun xs H Q q => by
  unfold rLenU at q
  split at q
  · exact .inl ⟨_, _, rfl, ⟨q.1, rfl⟩, q.2⟩
  · exact .inl ⟨_, _, rfl, ⟨q.1, rfl⟩, q.2⟩
  · split at q
    · rename_i h
      refine .inl ⟨_, _, rfl, ?_, q⟩
      rcases sqv_sq h with h | h
      · exact .inl ⟨_, h, rfl⟩
      · exact .inr ⟨_, h, rfl⟩
    · split at q
      · exact .inr ⟨_, _, rfl, ‹_›, q⟩
      · exact q.elim
  · exact q.elim
def rInt : List V → Hp → VK → Prop := fun xs H Q => match xs with
  | [.int i] => Q (.int i) H
  | [.bl k] => Q (.int (if k then 1 else 0)) H
  | [.str a] => (match PySem.intText? a with
    | some n => a.length ≤ 640 ∧ Q (.int n) H
    | none => False)
  | _ => False
theorem c_int : CallR X (.type "int") rInt := callImp (call_int1.or call_int_str) fun xs H Q q => by
  unfold rInt at q
  split at q
  · exact .inl (.inl ⟨_, rfl, q⟩)
  · exact .inl (.inr ⟨_, rfl, q⟩)
  · split at q
    · exact .inr ⟨_, _, rfl, ‹_›, q.1, q.2⟩
    · exact q.elim
  · exact q.elim
def rAbs : List V → Hp → VK → Prop := fun xs H Q => match xs with
  | [.int i] => Q (.int (if i < 0 then -i else i)) H
  | _ => False
theorem c_abs : CallR X (.builtin "abs") rAbs := callImp call_abs fun xs H Q q => by
  unfold rAbs at q
  split at q
  · exact ⟨_, rfl, q⟩
  · exact q.elim
def rMax2 : List V → Hp → VK → Prop := fun xs H Q => match xs with
  | [.int i, .int j] => Q (.int (if j > i then j else i)) H
  | _ => False
def rMin2 : List V → Hp → VK → Prop := fun xs H Q => match xs with
  | [.int i, .int j] => Q (.int (if j < i then j else i)) H
  | _ => False
theorem c_max2 (hc : X.calm = true) : CallR X (.builtin "max") rMax2 := callImp (call_max2 hc) fun xs H Q q => by
  unfold rMax2 at q
  split at q
  · exact ⟨_, _, rfl, q⟩
  · exact q.elim
theorem c_min2 (hc : X.calm = true) : CallR X (.builtin "min") rMin2 := callImp (call_min2 hc) fun xs H Q q => by
  unfold rMin2 at q
  split at q
  · exact ⟨_, _, rfl, q⟩
  · exact q.elim
noncomputable def rListOf (K : PySem.W.Frag) : List V → Hp → VK → Prop := fun xs H Q => match xs with
  | [.ref p] => (match sqv K H p with
    | some ys => Nw H (.lst ys) Q
    | none => (match H p with
      | some (.dK kvs) => Nw H (.lst (kvs.map fun kv => kV kv.1)) Q
      | _ => False))
  | _ => False
theorem c_list (hc : X.calm = true) : CallR X (.type "list") (rListOf X.K) := callImp (call_list_of.or (call_listD hc)) fun xs H Q q => by
  unfold rListOf at q
  split at q
  · split at q
    · exact .inl ⟨_, _, rfl, sqv_sq ‹_›, q⟩
    · split at q
      · exact .inr ⟨_, _, rfl, .inl ‹_›, q⟩
      · exact q.elim
  · exact q.elim
/-- a value's type by name -/
def tyN (H : Hp) : V → Option String
  | .non => some "NoneType"
  | .bl _ => some "bool"
  | .int _ => some "int"
  | .str _ => some "str"
  | .byt _ => some "bytes"
  | .ref p => (match H p with
    | some (.lst _) => some "list"
    | some (.frz _ (.lst _)) => some "list"
    | some (.tup _) => some "tuple"
    | some (.dK _) => some "dict"
    | some (.dT _) => some "dict"
    | _ => none)
  | _ => none
theorem tyN_x {K : PySem.W.Frag} {H : Hp} {x : V} {t : String} (h : tyN H x = some t) : TyX K H x (.type t) := by
  cases x with
  | non => cases h; exact .base .non
  | bl b => cases h; exact .base (.bl b)
  | int b => cases h; exact .base (.int b)
  | str b => cases h; exact .base (.str b)
  | byt b => cases h; exact .byt b
  | flt b => cases h
  | ty b => cases h
  | ref p =>
    unfold tyN at h
    simp only at h
    split at h
    · cases h; exact .base (.lst ‹_›)
    · cases h; exact .base (.frz ‹_›)
    · cases h; exact .base (.tup ‹_›)
    · cases h; exact .base (.dK ‹_›)
    · cases h; exact .base (.dT ‹_›)
    · cases h
def rIsiB : List V → Hp → VK → Prop := fun xs H Q => match xs with
  | [x, .ty T] => (match tyN H x with
    | some t => (match kitB t T with
      | some b => Q (.bl b) H
      | none => False)
    | none => False)
  | _ => False
theorem c_isi : CallR X (.builtin "isinstance") rIsiB := callImp call_isi fun xs H Q q => by
  unfold rIsiB at q
  split at q
  · split at q
    · split at q
      · exact ⟨_, _, _, _, _, rfl, .ty _, tyN_x ‹_›, kit_ty ‹_›, q⟩
      · exact q.elim
    · exact q.elim
  · exact q.elim
theorem kit_NoneType_bool : kitB "NoneType" "bool" = some false := by decide +kernel
theorem kit_NoneType_int : kitB "NoneType" "int" = some false := by decide +kernel
theorem kit_NoneType_str : kitB "NoneType" "str" = some false := by decide +kernel
theorem kit_NoneType_bytes : kitB "NoneType" "bytes" = some false := by decide +kernel
theorem kit_NoneType_list : kitB "NoneType" "list" = some false := by decide +kernel
theorem kit_NoneType_tuple : kitB "NoneType" "tuple" = some false := by decide +kernel
theorem kit_NoneType_dict : kitB "NoneType" "dict" = some false := by decide +kernel
theorem kit_bool_bool : kitB "bool" "bool" = some true := by decide +kernel
theorem kit_bool_int : kitB "bool" "int" = some true := by decide +kernel
theorem kit_bool_str : kitB "bool" "str" = some false := by decide +kernel
theorem kit_bool_bytes : kitB "bool" "bytes" = some false := by decide +kernel
theorem kit_bool_list : kitB "bool" "list" = some false := by decide +kernel
theorem kit_bool_tuple : kitB "bool" "tuple" = some false := by decide +kernel
theorem kit_bool_dict : kitB "bool" "dict" = some false := by decide +kernel
theorem kit_int_bool : kitB "int" "bool" = some false := by decide +kernel
theorem kit_int_int : kitB "int" "int" = some true := by decide +kernel
theorem kit_int_str : kitB "int" "str" = some false := by decide +kernel
theorem kit_int_bytes : kitB "int" "bytes" = some false := by decide +kernel
theorem kit_int_list : kitB "int" "list" = some false := by decide +kernel
theorem kit_int_tuple : kitB "int" "tuple" = some false := by decide +kernel
theorem kit_int_dict : kitB "int" "dict" = some false := by decide +kernel
theorem kit_str_bool : kitB "str" "bool" = some false := by decide +kernel
theorem kit_str_int : kitB "str" "int" = some false := by decide +kernel
theorem kit_str_str : kitB "str" "str" = some true := by decide +kernel
theorem kit_str_bytes : kitB "str" "bytes" = some false := by decide +kernel
theorem kit_str_list : kitB "str" "list" = some false := by decide +kernel
theorem kit_str_tuple : kitB "str" "tuple" = some false := by decide +kernel
theorem kit_str_dict : kitB "str" "dict" = some false := by decide +kernel
theorem kit_bytes_bool : kitB "bytes" "bool" = some false := by decide +kernel
theorem kit_bytes_int : kitB "bytes" "int" = some false := by decide +kernel
theorem kit_bytes_str : kitB "bytes" "str" = some false := by decide +kernel
theorem kit_bytes_bytes : kitB "bytes" "bytes" = some true := by decide +kernel
theorem kit_bytes_list : kitB "bytes" "list" = some false := by decide +kernel
theorem kit_bytes_tuple : kitB "bytes" "tuple" = some false := by decide +kernel
theorem kit_bytes_dict : kitB "bytes" "dict" = some false := by decide +kernel
theorem kit_list_bool : kitB "list" "bool" = some false := by decide +kernel
theorem kit_list_int : kitB "list" "int" = some false := by decide +kernel
theorem kit_list_str : kitB "list" "str" = some false := by decide +kernel
theorem kit_list_bytes : kitB "list" "bytes" = some false := by decide +kernel
theorem kit_list_list : kitB "list" "list" = some true := by decide +kernel
theorem kit_list_tuple : kitB "list" "tuple" = some false := by decide +kernel
theorem kit_list_dict : kitB "list" "dict" = some false := by decide +kernel
theorem kit_tuple_bool : kitB "tuple" "bool" = some false := by decide +kernel
theorem kit_tuple_int : kitB "tuple" "int" = some false := by decide +kernel
theorem kit_tuple_str : kitB "tuple" "str" = some false := by decide +kernel
theorem kit_tuple_bytes : kitB "tuple" "bytes" = some false := by decide +kernel
theorem kit_tuple_list : kitB "tuple" "list" = some false := by decide +kernel
theorem kit_tuple_tuple : kitB "tuple" "tuple" = some true := by decide +kernel
theorem kit_tuple_dict : kitB "tuple" "dict" = some false := by decide +kernel
theorem kit_dict_bool : kitB "dict" "bool" = some false := by decide +kernel
theorem kit_dict_int : kitB "dict" "int" = some false := by decide +kernel
theorem kit_dict_str : kitB "dict" "str" = some false := by decide +kernel
theorem kit_dict_bytes : kitB "dict" "bytes" = some false := by decide +kernel
theorem kit_dict_list : kitB "dict" "list" = some false := by decide +kernel
theorem kit_dict_tuple : kitB "dict" "tuple" = some false := by decide +kernel
theorem kit_dict_dict : kitB "dict" "dict" = some true := by decide +kernel
end

/-! ### tests -/
noncomputable def truV (K : PySem.W.Frag) (x : V) (H : Hp) (Q : Bool → Hp → Prop) : Prop := match x with
  | .non => Q false H
  | .bl b => Q b H
  | .int i => Q (i != 0) H
  | .str y => y.length ≤ sizeLine ∧ Q ((y.length : Int) != 0) H
  | .ref p => (match sqv K H p with
    | some xs => Q (!xs.isEmpty) H
    | none => (match H p with
      | some (.dK kvs) => Q (!kvs.isEmpty) H
      | _ => False))
  | _ => False
theorem truV_k {K : PySem.W.Frag} {x : V} {H : Hp} {Q : Bool → Hp → Prop} (q : truV K x H Q) : ∃ k, TruV K x H k ∧ Q k H := by
  unfold truV at q
  split at q
  · exact ⟨_, rfl, q⟩
  · exact ⟨_, rfl, q⟩
  · exact ⟨_, rfl, q⟩
  · exact ⟨_, ⟨q.1, rfl⟩, q.2⟩
  · split at q
    · rename_i h
      refine ⟨_, ?_, q⟩
      rcases sqv_sq h with h | h
      · exact .inl ⟨_, h, rfl⟩
      · exact .inr (.inl ⟨_, h, rfl⟩)
    · split at q
      · exact ⟨_, .inr (.inr ⟨_, ‹_›, rfl⟩), q⟩
      · exact q.elim
  · exact q.elim
def tTr (K : PySem.W.Frag) (ta : TE) : TT := fun σ H Q => ta σ H fun x H' => truV K x H' Q
section
variable {X : Cx} {a b : Expr} {ta tb : TE} {pos : Pos} {rest : List Expr}
theorem pt_tr (ha : PE X a ta) (he : ∀ whole, isTrue a X.env whole = (do let v ← whole; standAt a.pos; holding [v] (truthy v)) := by intro _; rfl) : PT X a (tTr X.K ta) := by
  refine ⟨fun pins s σ H Q I h => ?_⟩
  exact isTrue_plain (thn (ha.run pins s σ H _ I h) fun v s1 ⟨x, H1, I1, r1, q1⟩ => tru_ok pins s1 σ H1 x v Q I1 r1 (truV_k q1)) (he _)
/-- not, as a value -/
def tNotU (K : PySem.W.Frag) (ta : TE) : TE := fun σ H Q => ta σ H fun x H1 => truV K x H1 fun k H2 => Q (.bl (!k)) H2
/-- a comparison as a test -/
def tTe (t : TE) : TT := fun σ H Q => t σ H fun x H' => match x with
  | .bl k => Q k H'
  | _ => False
end

/-! ### readings closed upward -/
def clE (t : TE) : TE := fun σ H Q => ∃ Q0 : VK, t σ H Q0 ∧ ∀ v H', Q0 v H' → Q v H'
def clA (t : TA) : TA := fun σ H Q => ∃ Q0 : List V → Hp → Prop, t σ H Q0 ∧ ∀ v H', Q0 v H' → Q v H'
section
variable {X : Cx} {e : Expr} {es : List Expr} {t : TE} {ta : TA}
theorem peCl (h : PE X e t) : PE X e (clE t) := ⟨fun pins s σ H Q I ⟨Q0, q, m⟩ =>
  thn (h.run pins s σ H Q0 I q) fun _ _ ⟨v, H', I', r, q'⟩ => ⟨v, H', I', r, m _ _ q'⟩⟩
theorem paCl (h : PA X es ta) : PA X es (clA ta) := ⟨fun pos pins s σ H Q I ⟨Q0, q, m⟩ =>
  thn (h.run pos pins s σ H Q0 I q) fun _ _ ⟨v, H', I', r, q'⟩ => ⟨v, H', I', r, m _ _ q'⟩⟩
theorem peImp {t' : TE} (h : PE X e t) (i : ∀ σ H Q, t' σ H Q → t σ H Q) : PE X e t' := ⟨fun pins s σ H Q I q => h.run pins s σ H Q I (i _ _ _ q)⟩
end

/-! ### what is walked -/
noncomputable def iLst (K : PySem.W.Frag) (tl : TE) : TI := fun σ H R => tl σ H fun x H1 => match x with
  | .ref a => (match lstv K H1 a with
    | some _ => R (Itl K a) H1
    | none => False)
  | _ => False
noncomputable def iTp (K : PySem.W.Frag) (tl : TE) : TI := fun σ H R => tl σ H fun x H1 => match x with
  | .ref a => (match tupv K H1 a with
    | some _ => R (Itt K a) H1
    | none => False)
  | _ => False
def iSt (tl : TE) : TI := fun σ H R => tl σ H fun x H1 => match x with
  | .str z => R (Its z) H1
  | _ => False
section
variable {X : Cx} {tg l : Expr} {tl : TE}
theorem pi_lst (hl : PE X l tl) : PI X tg l (iLst X.K tl) := ⟨fun pins s σ H R I h => (pi_list (peCl hl)).run pins s σ H R I ⟨_, h, fun x H1 q => by
  cases x <;> first | exact q.elim | skip
  simp only at q
  split at q
  · exact ⟨_, rfl, ⟨_, lstv_sq ‹_›⟩, q⟩
  · exact q.elim⟩⟩
theorem pi_tp (hl : PE X l tl) : PI X tg l (iTp X.K tl) := ⟨fun pins s σ H R I h => (pi_tup (peCl hl)).run pins s σ H R I ⟨_, h, fun x H1 q => by
  cases x <;> first | exact q.elim | skip
  simp only at q
  split at q
  · exact ⟨_, rfl, ⟨_, tupv_sq ‹_›⟩, q⟩
  · exact q.elim⟩⟩
theorem pi_st (hl : PE X l tl) : PI X tg l (iSt tl) := ⟨fun pins s σ H R I h => (pi_str (peCl hl)).run pins s σ H R I ⟨_, h, fun x H1 q => by
  cases x <;> first | exact q.elim | skip
  exact ⟨_, rfl, q⟩⟩⟩
end

/-! ### methods of lists and texts -/
noncomputable def tML (K : PySem.W.Frag) (r : V → List V → Hp → VK → Prop) (to : TE) (t : TA) : TE := fun σ H Q => to σ H fun x H1 => match x with
  | .ref p => (match lstv K H1 p with
    | some _ => t σ H1 fun vs H2 => r (.ref p) vs H2 Q
    | none => False)
  | _ => False
def tMS (r : V → List V → Hp → VK → Prop) (to : TE) (t : TA) : TE := fun σ H Q => to σ H fun x H1 => match x with
  | .str z => t σ H1 fun vs H2 => r (.str z) vs H2 Q
  | _ => False
theorem tml_of {K : PySem.W.Frag} {r : V → List V → Hp → VK → Prop} {to : TE} {t : TA} (σ : L2.St) (H : Hp) (Q : VK) (h : tML K r to t σ H Q) : tBM K "list" r (clE to) (clA t) σ H Q := ⟨_, h, fun x H1 q => by
  cases x <;> first | exact q.elim | skip
  simp only at q
  split at q
  · exact ⟨.inl ⟨rfl, _, lstv_sq ‹_›⟩, _, q, fun _ _ z => z⟩
  · exact q.elim⟩
theorem tml0_of {K : PySem.W.Frag} {r : V → List V → Hp → VK → Prop} {to : TE} (σ : L2.St) (H : Hp) (Q : VK) (h : tML K r to tNil σ H Q) : tBM0 K "list" r (clE to) σ H Q := ⟨_, h, fun x H1 q => by
  cases x <;> first | exact q.elim | skip
  simp only at q
  split at q
  · exact ⟨.inl ⟨rfl, _, lstv_sq ‹_›⟩, q⟩
  · exact q.elim⟩
theorem tms_of {K : PySem.W.Frag} {r : V → List V → Hp → VK → Prop} {to : TE} {t : TA} (σ : L2.St) (H : Hp) (Q : VK) (h : tMS r to t σ H Q) : tBM K "str" r (clE to) (clA t) σ H Q := ⟨_, h, fun x H1 q => by
  cases x <;> first | exact q.elim | skip
  exact ⟨rfl, _, q, fun _ _ z => z⟩⟩
theorem tms0_of {K : PySem.W.Frag} {r : V → List V → Hp → VK → Prop} {to : TE} (σ : L2.St) (H : Hp) (Q : VK) (h : tMS r to tNil σ H Q) : tBM0 K "str" r (clE to) σ H Q := ⟨_, h, fun x H1 q => by
  cases x <;> first | exact q.elim | skip
  exact ⟨rfl, q⟩⟩
def rApp : V → List V → Hp → VK → Prop := fun x vs H Q => match x, vs with
  | .ref l, [y] => (match H l with
    | some (.lst xs) => xs.length < sizeLine ∧ Q .non (upd H l (.lst (xs ++ [y])))
    | _ => False)
  | _, _ => False
theorem m_append {X : Cx} : MtM X "list.append" rApp := fun pins s σ H x xs v us Q I rx rs h => mt_append pins s σ H x xs v us Q I rx rs (by
  unfold rApp at h
  split at h
  · split at h
    · exact ⟨_, _, _, rfl, rfl, ‹_›, h⟩
    · exact h.elim
  · exact h.elim)
section
variable {X : Cx} {o e : Expr} {es : List Expr} {to : TE} {t : TA} {apos pos : Pos}
theorem pe_bitlen (ho : PE X o to) (hbase : attributeBase o "bit_length" X.env (eval o X.env) = eval o X.env := by rfl) (hline : (apos.endLine == pos.line) = true := by rfl) :
    PE X (.Call (.Attribute o "bit_length" apos) [] [] pos) (tUn (mU fun i => .int (Builtin.Int.intBits i : Nat)) to) :=
  peImp (pe_bits (peCl ho) hbase hline) fun σ H Q q => ⟨_, q, fun x H1 q => by cases x <;> first | exact q.elim | exact ⟨_, rfl, q⟩⟩
variable {T id : String} {r : V → List V → Hp → VK → Prop} {name : Str}
theorem pe_ml (slot : Slot "list" name id) (hty : typeOf (.builtin id) = pure (.type "method_descriptor")) (hm : MtR X id r) (ho : PE X o to) (ha : PA X (e :: es) t)
    (hb : attributeBase o name X.env (eval o X.env) = eval o X.env := by rfl)
    (hf : ((backTo pos (starEach (e :: es) X.env)).all (fun x => !x.1) && (backToKw pos (keywordEach [] X.env)).all (fun x => x.1.isSome) && decide ((e :: es).length + ([] : List Keyword).length + (if ([] : List Keyword).isEmpty then 0 else 1) < 30)) = true := by rfl)
    (hl : (apos.endLine == pos.line) = true := by rfl) (hs : starEach (e :: es) X.env = (false, eval e X.env) :: starEach es X.env := by rfl) (hp : (backTo pos (starEach es X.env)).any (·.1) = false := by rfl) :
    PE X (.Call (.Attribute o name apos) (e :: es) [] pos) (tML X.K r to t) := peImp (pe_bm PySem.F.plainAttrs_list slot hty hm (peCl ho) (paCl ha) hb hf hl hs hp) tml_of
theorem pe_ml0 (slot : Slot "list" name id) (hty : typeOf (.builtin id) = pure (.type "method_descriptor")) (hm : MtR X id r) (ho : PE X o to)
    (hb : attributeBase o name X.env (eval o X.env) = eval o X.env := by rfl) (hl : (apos.endLine == pos.line) = true := by rfl) :
    PE X (.Call (.Attribute o name apos) [] [] pos) (tML X.K r to tNil) := peImp (pe_bm0 PySem.F.plainAttrs_list slot hty hm (peCl ho) hb hl) tml0_of
theorem pe_ms (pa : PlainAttrs "str") (slot : Slot "str" name id) (hty : typeOf (.builtin id) = pure (.type "method_descriptor")) (hm : MtR X id r) (ho : PE X o to) (ha : PA X (e :: es) t)
    (hb : attributeBase o name X.env (eval o X.env) = eval o X.env := by rfl)
    (hf : ((backTo pos (starEach (e :: es) X.env)).all (fun x => !x.1) && (backToKw pos (keywordEach [] X.env)).all (fun x => x.1.isSome) && decide ((e :: es).length + ([] : List Keyword).length + (if ([] : List Keyword).isEmpty then 0 else 1) < 30)) = true := by rfl)
    (hl : (apos.endLine == pos.line) = true := by rfl) (hs : starEach (e :: es) X.env = (false, eval e X.env) :: starEach es X.env := by rfl) (hp : (backTo pos (starEach es X.env)).any (·.1) = false := by rfl) :
    PE X (.Call (.Attribute o name apos) (e :: es) [] pos) (tMS r to t) := peImp (pe_bm pa slot hty hm (peCl ho) (paCl ha) hb hf hl hs hp) (tms_of (K := X.K))
theorem pe_ms0 (pa : PlainAttrs "str") (slot : Slot "str" name id) (hty : typeOf (.builtin id) = pure (.type "method_descriptor")) (hm : MtR X id r) (ho : PE X o to)
    (hb : attributeBase o name X.env (eval o X.env) = eval o X.env := by rfl) (hl : (apos.endLine == pos.line) = true := by rfl) :
    PE X (.Call (.Attribute o name apos) [] [] pos) (tMS r to tNil) := peImp (pe_bm0 pa slot hty hm (peCl ho) hb hl) (tms0_of (K := X.K))
theorem pe_append (ho : PE X o to) (ha : PA X (e :: es) t)
    (hb : attributeBase o "append" X.env (eval o X.env) = eval o X.env := by rfl)
    (hf : ((backTo pos (starEach (e :: es) X.env)).all (fun x => !x.1) && (backToKw pos (keywordEach [] X.env)).all (fun x => x.1.isSome) && decide ((e :: es).length + ([] : List Keyword).length + (if ([] : List Keyword).isEmpty then 0 else 1) < 30)) = true := by rfl)
    (hl : (apos.endLine == pos.line) = true := by rfl) (hs : starEach (e :: es) X.env = (false, eval e X.env) :: starEach es X.env := by rfl) (hp : (backTo pos (starEach es X.env)).any (·.1) = false := by rfl) :
    PE X (.Call (.Attribute o "append" apos) (e :: es) [] pos) (tML X.K rApp to t) := pe_ml PySem.F.slot_list_append PySem.F.type_list_append m_append ho ha hb hf hl hs hp
end

/-! ### defs of the text -/
/-- the def x keeps its promise -/
structure FnE (P : Program) (w : World) (K : PySem.W.Frag) (mg : Str → Option Value) (base : Heap) (CX : CXT) (x : Str) (k : Nat) (ps : List Str) (sp : Sp) : Prop where
  ex : ∃ f fd, mg x = some (.ref f) ∧ PySem.W.keepIn K (.ref f) = true ∧ Binds K fd ps [] ∧ FnOk P w K mg base CX k f fd ps sp
/-- a module's constant -/
def Cst (mg : Str → Option Value) (x : Str) (v : V) : Prop := ∃ u, mg x = some u ∧ RelV v u
section
variable {X : Cx} {CX : CXT} {k : Nat} {x : Str} {ps : List Str} {sp : Sp} {E : XK} {p pos : Pos} {e : Expr} {es : List Expr} {t : TA}
theorem pe_fn (F : FnE X.prog X.w X.K X.mg X.base CX x k ps sp) (hr : Room k X.A) (hg : Gl X x) (hx : Passes CX X E) (ha : PA X (e :: es) t)
    (hdb : (x == ("__debug__" : Str)) = false := by decide) (he : starEach (e :: es) X.env = (false, eval e X.env) :: starEach es X.env := by rfl) (hp : (backTo pos (starEach es X.env)).any (·.1) = false := by rfl) :
    PE X (.Call (.Name x p) (e :: es) [] pos) (tCall sp [] E t) := by
  obtain ⟨f, fd, h1, h2, h3, h4⟩ := F.ex
  exact pe_call h4 hr hg h1 h2 h3 .nil hx ha hdb he hp
theorem pe_fn0 (F : FnE X.prog X.w X.K X.mg X.base CX x k ps sp) (hr : Room k X.A) (hg : Gl X x) (hx : Passes CX X E) (hdb : (x == ("__debug__" : Str)) = false := by decide) :
    PE X (.Call (.Name x p) [] [] pos) (tCall sp [] E tNil) := by
  obtain ⟨f, fd, h1, h2, h3, h4⟩ := F.ex
  exact pe_call0 h4 hr hg h1 h2 h3 .nil hx hdb
theorem pe_cst {v : V} (h : Cst X.mg x v) (hg : Gl X x) (hd : (x == ("__debug__" : Str)) = false := by decide) : PE X (.Name x p) (tC v) := by
  obtain ⟨u, h1, h2⟩ := h
  exact pe_glob hg h1 h2 hd
end

/-! ### loops -/
section
variable {K : PySem.W.Frag} {a : Addr} {xs : List V} {g : TG} {tb : TS} {D : Ends} {σ : L2.St} {H : Hp}
/-- what a turn over a known row is to do -/
def Goes (J : It) (g : TG) (tb : TS) (D : Ends) (σ : L2.St) (H : Hp) : Prop := ∃ W : Nat → Nat → L2.St → Hp → Prop, (∃ m, W 0 m σ H) ∧ ∀ i m σ H, W i m σ H →
  (J.stop i H ∧ D.nx σ H) ∨ (J.go i H ∧ ∃ N : L2.St → Hp → Prop, (∀ σ' H', N σ' H' → ∃ m', m' < m ∧ W (i + 1) m' σ' H') ∧ ∀ x H', J.yld i H x H' → g x σ H' fun σ2 H2 => tb { D with nx := N, ct := N, bk := D.nx } σ2 H2)
def tForU (wi : TI) (g : TG) (tb : TS) : TS := fun D σ H => wi σ H fun J H1 => Goes J g tb D σ H1
theorem goesL (Pv : Nat → L2.St → Hp → Prop) (h0 : Pv 0 σ H) (hl : ∀ i σ H, i ≤ xs.length → Pv i σ H → lstv K H a = some xs)
    (hs : ∀ i x σ H, xs[i]? = some x → Pv i σ H → g x σ H fun σ2 H2 => tb { D with nx := Pv (i + 1), ct := Pv (i + 1), bk := D.nx } σ2 H2) (hd : ∀ σ H, Pv xs.length σ H → D.nx σ H) : Goes (Itl K a) g tb D σ H :=
  for_list (K := K) (a := a) (xs := xs) Pv h0 (fun i σ H hi p => lstv_sq (hl i σ H hi p)) hs hd
theorem goesT (Pv : Nat → L2.St → Hp → Prop) (h0 : Pv 0 σ H) (hl : ∀ i σ H, i ≤ xs.length → Pv i σ H → tupv K H a = some xs)
    (hs : ∀ i x σ H, xs[i]? = some x → Pv i σ H → g x σ H fun σ2 H2 => tb { D with nx := Pv (i + 1), ct := Pv (i + 1), bk := D.nx } σ2 H2) (hd : ∀ σ H, Pv xs.length σ H → D.nx σ H) : Goes (Itt K a) g tb D σ H :=
  for_tup (K := K) (a := a) (xs := xs) Pv h0 (fun i σ H hi p => tupv_sq (hl i σ H hi p)) hs hd
theorem goesR {lo : Int} {n : Nat} (Pv : Nat → L2.St → Hp → Prop) (h0 : Pv 0 σ H)
    (hs : ∀ i σ H, i < n → Pv i σ H → g (.int (lo + i)) σ H fun σ2 H2 => tb { D with nx := Pv (i + 1), ct := Pv (i + 1), bk := D.nx } σ2 H2) (hd : ∀ σ H, Pv n σ H → D.nx σ H) : Goes (Itr lo n) g tb D σ H :=
  for_range (lo := lo) (n := n) Pv h0 hs hd
end

/-! ### built-in names -/
theorem bt_len : bootBuiltins "len" = some (.builtin "len") := by decide +kernel
theorem bt_abs : bootBuiltins "abs" = some (.builtin "abs") := by decide +kernel
theorem bt_max : bootBuiltins "max" = some (.builtin "max") := by decide +kernel
theorem bt_min : bootBuiltins "min" = some (.builtin "min") := by decide +kernel
theorem bt_isinstance : bootBuiltins "isinstance" = some (.builtin "isinstance") := by decide +kernel
theorem bt_all : bootBuiltins "all" = some (.builtin "all") := by decide +kernel
theorem bt_any : bootBuiltins "any" = some (.builtin "any") := by decide +kernel
theorem bt_sorted : bootBuiltins "sorted" = some (.builtin "sorted") := by decide +kernel
theorem bt_sum : bootBuiltins "sum" = some (.builtin "sum") := by decide +kernel
theorem bt_ord : bootBuiltins "ord" = some (.builtin "ord") := by decide +kernel
theorem bt_chr : bootBuiltins "chr" = some (.builtin "chr") := by decide +kernel
theorem bt_repr : bootBuiltins "repr" = some (.builtin "repr") := by decide +kernel
theorem bt_divmod : bootBuiltins "divmod" = some (.builtin "divmod") := by decide +kernel
theorem bt_int : bootBuiltins "int" = some (.type "int") := by decide +kernel
theorem bt_bool : bootBuiltins "bool" = some (.type "bool") := by decide +kernel
theorem bt_str : bootBuiltins "str" = some (.type "str") := by decide +kernel
theorem bt_list : bootBuiltins "list" = some (.type "list") := by decide +kernel
theorem bt_tuple : bootBuiltins "tuple" = some (.type "tuple") := by decide +kernel
theorem bt_dict : bootBuiltins "dict" = some (.type "dict") := by decide +kernel
theorem bt_bytes : bootBuiltins "bytes" = some (.type "bytes") := by decide +kernel
theorem bt_set : bootBuiltins "set" = some (.type "set") := by decide +kernel
theorem bt_range : bootBuiltins "range" = some (.type "range") := by decide +kernel
theorem bt_enumerate : bootBuiltins "enumerate" = some (.type "enumerate") := by decide +kernel
theorem bt_zip : bootBuiltins "zip" = some (.type "zip") := by decide +kernel
theorem bt_reversed : bootBuiltins "reversed" = some (.type "reversed") := by decide +kernel
theorem bt_type : bootBuiltins "type" = some (.type "type") := by decide +kernel

/-! ### list comprehensions -/
section
/-- the block over a known row -/
def LcGo (J : It) (g : TG) (tt : TT) (te : TE) (vs : List Nat) (σ : L2.St) (H1 : Hp) (Q : VK) : Prop := ∀ D, H1 D = none → ∃ W : Nat → Nat → Hp → Prop, (∃ m, W 0 m (upd H1 D (.lst []))) ∧ ∀ i m H, W i m H →
  (J.stop i H ∧ Q (.ref D) H) ∨ (J.go i H ∧ ∃ Nx : Hp → Prop, (∀ H', Nx H' → ∃ m', m' < m ∧ W (i + 1) m' H') ∧ ∀ x H', J.yld i H x H' → g x (wipe σ vs) H' fun σ2 H2 => wipe σ2 vs = wipe σ vs ∧ tt σ2 H2 fun b H3 =>
    if b = true then te σ2 H3 fun y H4 => ∃ acc, H4 D = some (.lst acc) ∧ acc.length < sizeLine ∧ Nx (upd H4 D (.lst (acc ++ [y]))) else Nx H3)
def tLcU (wi : TI) (g : TG) (tt : TT) (te : TE) (vs : List Nat) : TE := fun σ H Q => wi σ H fun J H1 => LcGo J g tt te vs σ H1 Q
/-- a turn's shape -/
abbrev LTurn (g : TG) (tt : TT) (te : TE) (vs : List Nat) (σ : L2.St) (x : V) (H : Hp) (Qy : VK) (Qn : Hp → Prop) : Prop :=
  g x (wipe σ vs) H fun σ2 H2 => wipe σ2 vs = wipe σ vs ∧ tt σ2 H2 fun b H3 => if b = true then te σ2 H3 Qy else Qn H3
theorem filterMap_snoc {α β : Type} (f : α → Option β) (l : List α) (x : α) : (l ++ [x]).filterMap f = l.filterMap f ++ (match f x with | some y => [y] | none => []) := by
  rw [List.filterMap_append]
  cases h : f x <;> simp [h]
theorem take_snoc {α : Type} {l : List α} {i : Nat} {x : α} (h : l[i]? = some x) : l.take (i + 1) = l.take i ++ [x] := by
  rw [List.take_add_one, h]; rfl
theorem filterMap_len {α β : Type} (f : α → Option β) (l : List α) (i : Nat) (h : i < l.length) : ((l.take i).filterMap f).length < l.length := by
  refine Nat.lt_of_le_of_lt (List.length_filterMap_le _ _) ?_
  rw [List.length_take]; omega
variable {K : PySem.W.Frag} {a : Addr} {xs : List V} {g : TG} {tt : TT} {te : TE} {vs : List Nat} {σ : L2.St} {H1 : Hp} {Q : VK}
/-- each item gives a value of its own, or is passed over -/
theorem lcL (F : V → Option V) (hx : ∀ H', Same H1 H' → lstv K H' a = some xs) (hz : xs.length ≤ sizeLine)
    (step : ∀ x ∈ xs, ∀ H', Same H1 H' → ∀ (Qy : VK) (Qn : Hp → Prop), (∀ y, F x = some y → ∀ H'', Same H' H'' → Qy y H'') → (F x = none → ∀ H'', Same H' H'' → Qn H'') → LTurn g tt te vs σ x H' Qy Qn)
    (hq : ∀ p H', H1 p = none → Same H1 H' → H' p = some (.lst (xs.filterMap F)) → Q (.ref p) H') : LcGo (Itl K a) g tt te vs σ H1 Q := by
  intro D hD
  refine lc_list (K := K) (a := a) (xs := xs) (fun i H => Same H1 H ∧ H D = some (.lst ((xs.take i).filterMap F))) ⟨Same.new hD, by rw [upd_same]; rfl⟩ (fun i H _ h => lstv_sq (hx H h.1)) ?_ (fun H h => ?_)
  · rintro i x H hi ⟨h1, h2⟩
    have hlt : i < xs.length := (List.getElem?_eq_some_iff.mp hi).1
    refine step x (List.mem_of_getElem? hi) H h1 _ _ (fun y hy H2 s2 => ?_) (fun hy H2 s2 => ?_)
    · refine ⟨_, s2 _ _ h2, Nat.lt_of_lt_of_le (filterMap_len F xs i hlt) hz, fun b o hb => ?_, ?_⟩
      · rw [upd_ne (ne_of_none hb hD)]
        exact s2 _ _ (h1 _ _ hb)
      · rw [upd_same, take_snoc hi, filterMap_snoc, hy]
    · refine ⟨h1.trans s2, ?_⟩
      rw [take_snoc hi, filterMap_snoc, hy, s2 _ _ h2]
      simp
  · rw [List.take_length] at h
    exact hq D H hD h.1 h.2
/-- over a range -/
theorem lcR {lo : Int} {n : Nat} (F : Int → Option V) (hz : n ≤ sizeLine)
    (step : ∀ j : Nat, j < n → ∀ H', Same H1 H' → ∀ (Qy : VK) (Qn : Hp → Prop), (∀ y, F (lo + j) = some y → ∀ H'', Same H' H'' → Qy y H'') → (F (lo + j) = none → ∀ H'', Same H' H'' → Qn H'') → LTurn g tt te vs σ (.int (lo + j)) H' Qy Qn)
    (hq : ∀ p H', H1 p = none → Same H1 H' → H' p = some (.lst ((List.range n).filterMap fun j => F (lo + (j : Nat)))) → Q (.ref p) H') : LcGo (Itr lo n) g tt te vs σ H1 Q := by
  intro D hD
  refine lc_range (lo := lo) (n := n) (fun i H => Same H1 H ∧ H D = some (.lst ((List.range i).filterMap fun j => F (lo + (j : Nat))))) ⟨Same.new hD, by rw [upd_same]; rfl⟩ ?_ (fun H h => hq D H hD h.1 h.2)
  rintro i H hi ⟨h1, h2⟩
  have hl : ((List.range i).filterMap fun j => F (lo + (j : Nat))).length < sizeLine := by
    refine Nat.lt_of_le_of_lt (List.length_filterMap_le _ _) ?_
    rw [List.length_range]; omega
  refine step i hi H h1 _ _ (fun y hy H2 s2 => ?_) (fun hy H2 s2 => ?_)
  · refine ⟨_, s2 _ _ h2, hl, fun b o hb => ?_, ?_⟩
    · rw [upd_ne (ne_of_none hb hD)]
      exact s2 _ _ (h1 _ _ hb)
    · rw [upd_same, List.range_succ, filterMap_snoc, hy]
  · refine ⟨h1.trans s2, ?_⟩
    rw [List.range_succ, filterMap_snoc, hy, s2 _ _ h2]
    simp
end
section
variable {X : Cx} {a : Expr} {ta : TE} {pos : Pos}
theorem pe_notU (ha : PE X a ta) : PE X (.UnaryOp .Not a pos) (tNotU X.K ta) := peImp (pe_notT (peCl ha)) fun σ H Q q => by
  exact ⟨_, q, fun v H' q => truV_k q⟩
end

/-! ### equations -/
section
variable {i : Nat} {v : V} {o : Option V} {l : List (Option V)} {H : Hp} {Q : VK} {K : PySem.W.Frag}
theorem tv0 : tVar 0 (some v :: l) H Q = Q v H := by simp [tVar]
theorem tvs : tVar (i + 1) (o :: l) H Q = tVar i l H Q := by simp [tVar]
theorem tAug_e {te : TE} {ti : TIp} {D : Ends} {σ : L2.St} : tAug i te ti D σ H = tVar i σ H (fun x H1 => te σ H1 fun y H2 => ti x y H2 fun z H3 => D.nx (σ.set i (some z)) H3) := rfl
theorem tBool {b : Bool} {Q : Bool → Hp → Prop} : (∃ k, V.bl b = V.bl k ∧ Q k H) = Q b H := by simp
theorem exBl {b : Bool} {P : Bool → Prop} : (∃ k, V.bl b = V.bl k ∧ P k) = P b := by simp
theorem truV_bl {b : Bool} {Q : Bool → Hp → Prop} : truV K (.bl b) H Q = Q b H := rfl
theorem truV_int {b : Int} {Q : Bool → Hp → Prop} : truV K (.int b) H Q = Q (b != 0) H := rfl
theorem truV_non {Q : Bool → Hp → Prop} : truV K .non H Q = Q false H := rfl
theorem truV_lst {p : Addr} {xs : List V} {Q : Bool → Hp → Prop} (h : lstv K H p = some xs) : truV K (.ref p) H Q = Q (!xs.isEmpty) H := by
  unfold truV; simp only [sqv_l h]
theorem rInt_int {j : Int} : rInt [.int j] H Q = Q (.int j) H := rfl
theorem rAbs_int {j : Int} : rAbs [.int j] H Q = Q (.int (if j < 0 then -j else j)) H := rfl
theorem rLt_int {i j : Int} : rLtU (.int i) (.int j) H Q = Q (.bl (decide (i < j))) H := rfl
theorem rLe_int {i j : Int} : rLeU (.int i) (.int j) H Q = Q (.bl (decide (i ≤ j))) H := rfl
theorem rGt_int {i j : Int} : rGtU (.int i) (.int j) H Q = Q (.bl (decide (j < i))) H := rfl
theorem rGe_int {i j : Int} : rGeU (.int i) (.int j) H Q = Q (.bl (decide (j ≤ i))) H := rfl
theorem rMul_int {i j : Int} : rMulU (.int i) (.int j) H Q = (CM i j ∧ Q (.int (i * j)) H) := rfl
theorem rIadd_int {i j : Int} : rIaddU (.int i) (.int j) H Q = Q (.int (i + j)) H := rfl
theorem rIadd_str {i j : Str} : rIaddU (.str i) (.str j) H Q = (i.length + j.length ≤ sizeLine ∧ Q (.str (i ++ j)) H) := rfl
theorem mU_int {g : Int → V} {j : Int} : mU g (.int j) H Q = Q (g j) H := rfl
theorem rMax2_int {i j : Int} : rMax2 [.int i, .int j] H Q = Q (.int (if j > i then j else i)) H := rfl
theorem rMin2_int {i j : Int} : rMin2 [.int i, .int j] H Q = Q (.int (if j < i then j else i)) H := rfl
theorem rIsi_int {T : String} {b : Bool} {j : Int} (h : kitB "int" T = some b) : rIsiB [.int j, .ty T] H Q = Q (.bl b) H := by unfold rIsiB; simp only [tyN, h]
theorem rIsi_bl {T : String} {b : Bool} {j : Bool} (h : kitB "bool" T = some b) : rIsiB [.bl j, .ty T] H Q = Q (.bl b) H := by unfold rIsiB; simp only [tyN, h]
theorem rIsi_str {T : String} {b : Bool} {j : Str} (h : kitB "str" T = some b) : rIsiB [.str j, .ty T] H Q = Q (.bl b) H := by unfold rIsiB; simp only [tyN, h]
theorem rIsi_non {T : String} {b : Bool} (h : kitB "NoneType" T = some b) : rIsiB [.non, .ty T] H Q = Q (.bl b) H := by unfold rIsiB; simp only [tyN, h]
theorem rIsi_lst {T : String} {b : Bool} {p : Addr} {xs : List V} (hp : H p = some (.lst xs)) (h : kitB "list" T = some b) : rIsiB [.ref p, .ty T] H Q = Q (.bl b) H := by unfold rIsiB; simp only [tyN, hp, h]
theorem rIsi_tup {T : String} {b : Bool} {p : Addr} {xs : List V} (hp : H p = some (.tup xs)) (h : kitB "tuple" T = some b) : rIsiB [.ref p, .ty T] H Q = Q (.bl b) H := by unfold rIsiB; simp only [tyN, hp, h]
theorem rLen_lst {p : Addr} {xs : List V} (h : lstv K H p = some xs) : rLenU K [.ref p] H Q = Q (.int xs.length) H := by unfold rLenU; simp only [sqv_l h]
theorem rLen_tup {p : Addr} {xs : List V} (h : H p = some (.tup xs)) : rLenU K [.ref p] H Q = Q (.int xs.length) H := by unfold rLenU; simp only [sqv_t h]
theorem rLen_str {z : Str} : rLenU K [.str z] H Q = (z.length ≤ sizeLine ∧ Q (.int z.length) H) := rfl
theorem rListOf_lst {p : Addr} {xs : List V} (h : lstv K H p = some xs) : rListOf K [.ref p] H Q = Nw H (.lst xs) Q := by unfold rListOf; simp only [sqv_l h]
theorem rIx_lst {p : Addr} {xs : List V} {j : Int} (h : lstv K H p = some xs) : rIxU K (.ref p) (.int j) H Q = (match atI xs j with | some v => Q v H | none => False) := by unfold rIxU; simp only [sqv_l h]
theorem rIx_tup {p : Addr} {xs : List V} {j : Int} (h : H p = some (.tup xs)) : rIxU K (.ref p) (.int j) H Q = (match atI xs j with | some v => Q v H | none => False) := by unfold rIxU; simp only [sqv_t h]
theorem rIx_str {z : Str} {j : Int} : rIxU K (.str z) (.int j) H Q = (z.length ≤ sizeLine ∧ (match atI z.cps.toList j with | some c => Q (.str ⟨#[c]⟩) H | none => False)) := rfl
theorem rSl_lst {p : Addr} {xs : List V} {lo hi : Option Int} (h : lstv K H p = some xs) : rSlU K (.ref p) lo hi H Q = Nw H (.lst (cutV xs lo hi)) Q := by unfold rSlU; simp only [h]
theorem rSl_str {z : Str} {lo hi : Option Int} : rSlU K (.str z) lo hi H Q = (z.length ≤ sizeLine ∧ Q (.str (cutS z lo hi)) H) := rfl
theorem rApp_lst {p : Addr} {xs : List V} {y : V} (h : H p = some (.lst xs)) : rApp (.ref p) [y] H Q = (xs.length < sizeLine ∧ Q .non (upd H p (.lst (xs ++ [y])))) := by unfold rApp; simp only [h]
theorem exInt {n : Int} {P : Int → Prop} : (∃ j, [V.int n] = [V.int j] ∧ P j) = P n := by simp
theorem exInt2 {m n : Int} {P : Int → Int → Prop} : (∃ i j, [V.int m, V.int n] = [V.int i, V.int j] ∧ P i j) = P m n := propext ⟨fun ⟨_, _, h, p⟩ => by cases h; exact p, fun p => ⟨_, _, rfl, p⟩⟩
theorem tPart_e {t : TE} {σ : L2.St} {Q : Option Int → Hp → Prop} : tPart t σ H Q = t σ H fun x H1 => ∃ i, x = .int i ∧ Q (some i) H1 := rfl
theorem exIntV {n : Int} {P : Int → Prop} : (∃ j, V.int n = V.int j ∧ P j) = P n := by simp
theorem lst_nil {H : Hp} {Q : VK} : tLst tNil ([] : L2.St) H Q = (0 ≤ sizeLine ∧ Nw H (.lst []) Q) := rfl
theorem tLst_e {t : TA} {σ : L2.St} : tLst t σ H Q = t σ H fun xs H1 => xs.length ≤ sizeLine ∧ Nw H1 (.lst xs) Q := rfl
theorem tTup_e {t : TA} {σ : L2.St} : tTup t σ H Q = t σ H fun xs H1 => xs.length ≤ sizeLine ∧ Nw H1 (.tup xs) Q := rfl
end
section
variable {K : PySem.W.Frag} {H : Hp} {Q : VK} {p : Addr}
theorem rSub_int {i j : Int} : rSubI (.int i) (.int j) H Q = Q (.int (i - j)) H := rfl
theorem rFdiv_int {i j : Int} : rFdiv (.int i) (.int j) H Q = (CD i j ∧ Q (.int (i / j)) H) := rfl
theorem rMod_int {i j : Int} : rMod (.int i) (.int j) H Q = (0 < j ∧ Q (.int (i % j)) H) := rfl
theorem rShl_int {i j : Int} : rShl (.int i) (.int j) H Q = (CS i j ∧ Q (.int (i * 2 ^ j.toNat)) H) := rfl
theorem rShr_int {i j : Int} : rShr (.int i) (.int j) H Q = (0 ≤ j ∧ Q (.int (i / 2 ^ j.toNat)) H) := rfl
theorem rXor_int {i j : Int} : rXor (.int i) (.int j) H Q = Q (.int (Builtin.bitXor i j)) H := rfl
theorem rAndB_int {i j : Int} : rAndB (.int i) (.int j) H Q = Q (.int (Builtin.bitAnd i j)) H := rfl
theorem rOrB_int {i j : Int} : rOrB (.int i) (.int j) H Q = Q (.int (Builtin.bitOr i j)) H := rfl
theorem rPow_int {i j : Int} : rPow (.int i) (.int j) H Q = (CPow i j ∧ Q (.int (i ^ j.toNat)) H) := rfl
theorem sqv_e : sqv K H p = (match lstv K H p with | some xs => some xs | none => tupv K H p) := rfl
theorem rLenU_ref : rLenU K [.ref p] H Q = (match sqv K H p with | some xs => Q (.int xs.length) H | none => (match H p with | some (.dK kvs) => Q (.int kvs.length) H | _ => False)) := rfl
theorem rListOf_ref : rListOf K [.ref p] H Q = (match sqv K H p with | some ys => Nw H (.lst ys) Q | none => (match H p with | some (.dK kvs) => Nw H (.lst (kvs.map fun kv => kV kv.1)) Q | _ => False)) := rfl
theorem rIxU_ref {j : Int} : rIxU K (.ref p) (.int j) H Q = (match sqv K H p with | some xs => (match atI xs j with | some v => Q v H | none => False) | none => False) := rfl
theorem rSlU_ref {lo hi : Option Int} : rSlU K (.ref p) lo hi H Q = (match lstv K H p with | some xs => Nw H (.lst (cutV xs lo hi)) Q | none => False) := rfl
theorem rApp_ref {y : V} : rApp (.ref p) [y] H Q = (match H p with | some (.lst xs) => xs.length < sizeLine ∧ Q .non (upd H p (.lst (xs ++ [y]))) | _ => False) := rfl
theorem rAddU_ref {b : Addr} : rAddU (.ref p) (.ref b) H Q = (match H p, H b with
    | some (.lst xs), some (.lst ys) => xs.length + ys.length ≤ sizeLine ∧ Nw H (.lst (xs ++ ys)) Q
    | some (.tup xs), some (.tup ys) => xs ≠ [] ∧ xs.length + ys.length ≤ sizeLine ∧ (ys = [] → Q (.ref p) H) ∧ (ys ≠ [] → Nw H (.tup (xs ++ ys)) Q)
    | _, _ => False) := rfl
theorem truV_ref {Q : Bool → Hp → Prop} : truV K (.ref p) H Q = (match sqv K H p with | some xs => Q (!xs.isEmpty) H | none => (match H p with | some (.dK kvs) => Q (!kvs.isEmpty) H | _ => False)) := rfl
theorem rInU_ref {neg : Bool} {x : V} : rInU K neg x (.ref p) H Q = (match sqv K H p with | some xs => flatV x = true ∧ xs.all flatV = true ∧ Q (.bl (if neg then !inV x xs else inV x xs)) H | none => False) := by cases x <;> rfl
theorem rMulU_ref {k : Int} : rMulU (.ref p) (.int k) H Q = (match H p with
    | some (.lst xs) => -(2 ^ 63) ≤ k ∧ k < 2 ^ 63 ∧ xs.length * k.toNat ≤ sizeLine ∧ Nw H (.lst (List.replicate k.toNat xs).flatten) Q
    | _ => False) := rfl
theorem rIsi_ref {T : String} : rIsiB [.ref p, .ty T] H Q = (match tyN H (.ref p) with | some t => (match kitB t T with | some b => Q (.bl b) H | none => False) | none => False) := rfl
end
theorem lstv_same {K : PySem.W.Frag} {H H' : Hp} {p : Addr} {xs : List V} (s : Same H H') (h : H p = some (.lst xs)) : lstv K H' p = some xs := lstv_of (s _ _ h)
theorem sz (n : Nat) (h : n ≤ 10000000) : n ≤ sizeLine := by rw [sizeLine_eq]; omega
theorem szl (n : Nat) (h : n ≤ 10000000) : n < sizeLine := by rw [sizeLine_eq]; omega
/-- lists to be read stay where H' grows; K's own are apart from what is tracked -/
def Apart (K : PySem.W.Frag) (H : Hp) : Prop := ∀ b o, K.lookup b = some o → H b = none
theorem klst_uniq {K : PySem.W.Frag} {p : Addr} {xs : List V} (h : SqL K (fun _ => none) p xs) : klst K p = some xs := by
  unfold klst
  have he : ∃ ys, SqL K (fun _ => none) p ys := ⟨xs, h⟩
  rw [dif_pos he]
  have q := Classical.choose_spec he
  generalize Classical.choose he = ys at q
  rcases h with (h | ⟨_, h⟩) | ⟨o, its, n, h1, _, _, h4, _, h6⟩
  · cases h
  · cases h
  · rcases q with (q | ⟨_, q⟩) | ⟨o', its', n', q1, _, _, q4, _, q6⟩
    · cases q
    · cases q
    · rw [h1] at q1; cases q1
      rw [h4] at q4; cases q4
      rw [Vals.inj q6 h6]
theorem lstv_of_sq {K : PySem.W.Frag} {H : Hp} {p : Addr} {xs : List V} (ap : Apart K H) (h : SqL K H p xs) : lstv K H p = some xs := by
  rcases h with (h | ⟨_, h⟩) | ⟨o, its, n, h1, h2⟩
  · exact lstv_of h
  · exact lstv_frz h
  · unfold lstv
    rw [ap _ _ h1]
    exact klst_uniq (.inr ⟨o, its, n, h1, h2⟩)
theorem fnApart {P : Program} {w : World} {K : PySem.W.Frag} {mg : Str → Option Value} {base : Heap} {CX : CXT} {k : Nat} {f : Addr} {fd : FuncData} {ps : List Str} {sp sp' : Sp} (F : FnOk P w K mg base CX k f fd ps sp)
    (hl : ∀ vs H Q E, sp' vs H Q E → vs.length = ps.length) (h : ∀ vs H Q E, Apart K H → sp' vs H Q E → sp vs H Q E) : FnOk P w K mg base CX k f fd ps sp' :=
  ⟨hl, fun A outer s H args us vs Q E hr he hb hv hs => F.run A outer s H args us vs Q E hr he hb hv (h _ _ _ _ (fun b o e => (he.bs b o (he.mod.kin b o e)).2) hs)⟩

/-! ### lists of ints compared -/
theorem dp_ints {K : PySem.W.Frag} {H : Hp} : ∀ ns : List Int, DpAll K H (ns.map V.int) (ns.map PyData.int)
  | [] => .nil
  | n :: ns => .cons (.int n) (dp_ints ns)
theorem eqv_ints : ∀ ns ms : List Int, PyData.eqvAll (ns.map PyData.int) (ms.map PyData.int) = decide (ns = ms)
  | [], [] => rfl
  | [], _ :: _ => rfl
  | _ :: _, [] => rfl
  | n :: ns, m :: ms => by
    show ((n == m) && PyData.eqvAll (ns.map PyData.int) (ms.map PyData.int)) = _
    rw [eqv_ints ns ms]
    by_cases h : n = m <;> by_cases h2 : ns = ms <;> simp [h, h2]
theorem rEq_ints {K : PySem.W.Frag} {a b : Addr} {H : Hp} {Q : VK} {ns ms : List Int} (ha : lstv K H a = some (ns.map V.int)) (hb : lstv K H b = some (ms.map V.int)) (q : Q (.bl (decide (ns = ms))) H) : rEqU K (.ref a) (.ref b) H Q := by
  rw [rEqU_ref]
  refine ⟨.list (ns.map PyData.int), .list (ms.map PyData.int), .lst (lstv_sq ha) (dp_ints ns), .lst (lstv_sq hb) (dp_ints ms), PySem.W.ke_shaped_ints _, PySem.W.ke_shaped_ints _, ?_⟩
  show Q (.bl (PyData.eqvAll (ns.map PyData.int) (ms.map PyData.int))) H
  rw [eqv_ints]
  exact q
theorem rNe_ints {K : PySem.W.Frag} {a b : Addr} {H : Hp} {Q : VK} {ns ms : List Int} (ha : lstv K H a = some (ns.map V.int)) (hb : lstv K H b = some (ms.map V.int)) (q : Q (.bl (!decide (ns = ms))) H) : rNeU K (.ref a) (.ref b) H Q := by
  rw [rNeU_ref]
  refine ⟨.list (ns.map PyData.int), .list (ms.map PyData.int), .lst (lstv_sq ha) (dp_ints ns), .lst (lstv_sq hb) (dp_ints ms), PySem.W.ke_shaped_ints _, PySem.W.ke_shaped_ints _, ?_⟩
  show Q (.bl (!PyData.eqvAll (ns.map PyData.int) (ms.map PyData.int))) H
  rw [eqv_ints]
  exact q
/-! ### octets -/
def octs (ns : List Nat) : List V := ns.map fun (n : Nat) => V.int n
theorem octs_int (ns : List Nat) : octs ns = (ns.map fun (n : Nat) => (n : Int)).map V.int := by unfold octs; rw [List.map_map]; rfl
theorem octs_inj {ns ms : List Nat} : (ns.map fun (n : Nat) => (n : Int)) = (ms.map fun (n : Nat) => (n : Int)) ↔ ns = ms := by
  constructor
  · intro h
    exact List.map_inj_right (fun a b e => Int.ofNat.inj e) |>.mp h
  · intro h; rw [h]
theorem rEq_octs {K : PySem.W.Frag} {a b : Addr} {H : Hp} {Q : VK} {ns ms : List Nat} (ha : lstv K H a = some (octs ns)) (hb : lstv K H b = some (octs ms)) (q : Q (.bl (decide (ns = ms))) H) : rEqU K (.ref a) (.ref b) H Q := by
  rw [octs_int] at ha hb
  refine rEq_ints ha hb ?_
  rw [decide_eq_decide.mpr octs_inj]
  exact q
theorem rNe_octs {K : PySem.W.Frag} {a b : Addr} {H : Hp} {Q : VK} {ns ms : List Nat} (ha : lstv K H a = some (octs ns)) (hb : lstv K H b = some (octs ms)) (q : Q (.bl (!decide (ns = ms))) H) : rNeU K (.ref a) (.ref b) H Q := by
  rw [octs_int] at ha hb
  refine rNe_ints ha hb ?_
  rw [decide_eq_decide.mpr octs_inj]
  exact q
theorem octs_at {ns : List Nat} {i : Nat} {x : V} (h : (octs ns)[i]? = some x) : ∃ n : Nat, ns[i]? = some n ∧ x = .int n := by
  unfold octs at h
  rw [List.getElem?_map] at h
  cases e : ns[i]? with
  | none => rw [e] at h; cases h
  | some n => rw [e] at h; cases h; exact ⟨n, rfl, rfl⟩
theorem octs_len (ns : List Nat) : (octs ns).length = ns.length := by simp [octs]
theorem octs_snoc {ns : List Nat} {n : Nat} {i : Int} (h : i = n) : octs ns ++ [V.int i] = octs (ns ++ [n]) := by
  subst h; simp [octs]
theorem cs_small {i j : Int} (h1 : 0 ≤ j) (h2 : j ≤ 1000000) (h3 : i.natAbs < 2 ^ 64) : CS i j := ⟨h1, .inl ⟨h2, h3⟩⟩
theorem cm_l {i j : Int} (h1 : -(2 ^ 64) < i) (h2 : i < 2 ^ 64) : CM i j := .inl (.inl ⟨h1, h2⟩)
theorem cm_r {i j : Int} (h1 : -(2 ^ 64) < j) (h2 : j < 2 ^ 64) : CM i j := .inl (.inr ⟨h1, h2⟩)
theorem cd_small {i j : Int} (h1 : 0 < j) (h2 : j < 1073741824) : CD i j := ⟨h1, .inl h2⟩
theorem cd_wide {i j : Int} {b : Nat} (h : 0 < j) (hb : j.natAbs < 2 ^ b) (h0 : 0 < b) (h9 : b ≤ 9000) : CD i j := ⟨h, .inr (wide_div (i := i) h hb h0 h9).2⟩
theorem Same.upd {H H' : Hp} {l : Addr} {o : HO} (s : Same H H') (h : H l = none) : Same H (upd H' l o) := fun b u e => by
  rw [upd_ne (ne_of_none e h)]
  exact s _ _ e
/-! ### bits -/
theorem xor_nat (a b : Nat) : Builtin.bitXor (a : Int) (b : Int) = ((a ^^^ b : Nat) : Int) := by
  rw [PyProof.Rows.bitXor_and, PySem.W.os_band]
  have h : ∀ n : Nat, ∀ a b : Nat, a ≤ n → a + b = (a ^^^ b) + 2 * (a &&& b) := by
    intro n
    induction n with
    | zero =>
      intro a b h
      have : a = 0 := by omega
      subst this
      simp
    | succ n ih =>
      intro a b h
      by_cases ha : a = 0
      · subst ha; simp
      · have e := ih (a / 2) (b / 2) (by omega)
        have x1 : (a ^^^ b) % 2 = (a % 2 + b % 2) % 2 := by
          have := Nat.xor_mod_two_pow (a := a) (b := b) (n := 1)
          simp at this
          rw [this]
          rcases Nat.mod_two_eq_zero_or_one a with h1 | h1 <;> rcases Nat.mod_two_eq_zero_or_one b with h2 | h2 <;> rw [h1, h2] <;> decide
        have x2 : (a ^^^ b) / 2 = (a / 2) ^^^ (b / 2) := by
          have := Nat.xor_div_two_pow (a := a) (b := b) (n := 1); simpa using this
        have y1 : (a &&& b) % 2 = (a % 2) * (b % 2) := by
          have := Nat.and_mod_two_pow (a := a) (b := b) (n := 1)
          simp at this
          rw [this]
          rcases Nat.mod_two_eq_zero_or_one a with h1 | h1 <;> rcases Nat.mod_two_eq_zero_or_one b with h2 | h2 <;> rw [h1, h2] <;> decide
        have y2 : (a &&& b) / 2 = (a / 2) &&& (b / 2) := by
          have := Nat.and_div_two_pow (a := a) (b := b) (n := 1); simpa using this
        rw [← x2, ← y2] at e
        rcases Nat.mod_two_eq_zero_or_one a with h1 | h1 <;> rcases Nat.mod_two_eq_zero_or_one b with h2 | h2 <;> rw [h1, h2] at x1 y1 <;> omega
  have := h a a b (Nat.le_refl _)
  omega

/-! ### what K holds is not tracked: told at the head of each named block -/
def tAp (K : PySem.W.Frag) (t : TS) : TS := fun D σ H => Apart K H → t D σ H
theorem pssAp {X : Cx} {sts : List Stmt} {t : TS} (h : PSs X sts t) : PSs X sts (tAp X.K t) :=
  ⟨fun pins s σ H D I q => h.run pins s σ H D I (q fun b o e => (I.bs b o (I.ok.mod.kin b o e)).2)⟩
theorem tAp_e {K : PySem.W.Frag} {t : TS} {D : Ends} {σ : L2.St} {H : Hp} : tAp K t D σ H = (Apart K H → t D σ H) := rfl
theorem klst_in {K : PySem.W.Frag} {p : Addr} {xs : List V} (h : klst K p = some xs) : ∃ o, K.lookup p = some o := by
  unfold klst at h
  split at h
  · rename_i he
    rcases Classical.choose_spec he with (q | ⟨_, q⟩) | ⟨o, _, _, q, _⟩
    · cases q
    · cases q
    · exact ⟨o, q⟩
  · cases h
theorem ktup_in {K : PySem.W.Frag} {p : Addr} {xs : List V} (h : ktup K p = some xs) : ∃ o, K.lookup p = some o := by
  unfold ktup at h
  split at h
  · rename_i he
    rcases Classical.choose_spec he with (q | ⟨_, q⟩) | ⟨o, _, _, q, _⟩
    · cases q
    · cases q
    · exact ⟨o, q⟩
  · cases h
theorem lstv_mono {K : PySem.W.Frag} {H H' : Hp} {p : Addr} {xs : List V} (s : Same H H') (ap : Apart K H') (h : lstv K H p = some xs) : lstv K H' p = some xs := by
  unfold lstv at h
  split at h
  · cases h; exact lstv_of (s _ _ ‹_›)
  · cases h; exact lstv_frz (s _ _ ‹_›)
  · obtain ⟨o, q⟩ := klst_in h
    unfold lstv
    rw [ap _ _ q]
    exact h
  · cases h
theorem tupv_mono {K : PySem.W.Frag} {H H' : Hp} {p : Addr} {xs : List V} (s : Same H H') (ap : Apart K H') (h : tupv K H p = some xs) : tupv K H' p = some xs := by
  unfold tupv at h
  split at h
  · cases h; exact tupv_of (s _ _ ‹_›)
  · cases h
    unfold tupv
    rw [s _ _ ‹_›]
  · obtain ⟨o, q⟩ := ktup_in h
    unfold tupv
    rw [ap _ _ q]
    exact h
  · cases h

/-! ### the law's own promise -/
noncomputable def spLaw (K : PySem.W.Frag) : Sp := fun vs H Q _ => ∃ (a : Addr) (ns : List Int), vs = [.ref a] ∧ lstv K H a = some (ns.map V.int) ∧ ns.length ≤ 63 ∧ ∀ H', Q (.bl true) H'
def spLawS (K : PySem.W.Frag) : Sp := fun vs H Q _ => ∃ (a : Addr) (ns : List Int), vs = [.ref a] ∧ SqL K H a (ns.map V.int) ∧ ns.length ≤ 63 ∧ ∀ H', Q (.bl true) H'
theorem lawS {P : Program} {w : World} {K : PySem.W.Frag} {mg : Str → Option Value} {base : Heap} {CX : CXT} {k : Nat} {f : Addr} {fd : FuncData} {x : Str} (F : FnOk P w K mg base CX k f fd [x] (spLaw K)) : FnOk P w K mg base CX k f fd [x] (spLawS K) :=
  fnApart F (fun vs H Q E ⟨a, ns, e, _⟩ => by rw [e]; rfl) fun vs H Q E ap ⟨a, ns, e, h, z, q⟩ => ⟨a, ns, e, lstv_of_sq ap h, z, q⟩
end R

/-! E: own exceptions over ValueError whose __init__ says super().__init__(..), two classes deep. -/
namespace R
open PySem PySem.Spec PyProof.Rows L2 NdefX
/-- what the written part says of a method that closes over its class -/
structure SupF (P : Program) (K : PySem.W.Frag) (mg : Str → Option Value) (name qual : Str) (st : Stmt) (f : Addr) (D : Addr) (fd : FuncData) (cda cc : Addr) : Prop where
  ex : ∃ (oc : Value) (od : Option Addr) (dV kV doc pm : Value) (an : Option Addr) (ct : Value) (osl : Array (Option Value)),
    fd = PySem.W.ksFn name qual (defArgs st) (defBody st) (defScope st) dV kV doc pm an (.ref cda) ct cc ∧ K.lookup f = some ⟨oc, od, .func fd, osl⟩
  cd : PySem.W.codeIn K (.ref cda) qual = true
  fl : ∃ (ccl : Value) (cdd : Option Addr) (vs : Array Value) (ccs : Array (Option Value)) (file : Str) (tf : Tok), K.lookup cda = some ⟨ccl, cdd, .fields vs, ccs⟩ ∧ vs[2]? = some (.str file tf) ∧ ((P.main.file : Str) == file) = true
  ce : ∃ (cl : Value) (cld : Option Addr) (csl : Array (Option Value)), K.lookup cc = some ⟨cl, cld, .cell (some (.ref D)), csl⟩
  dc : ∃ cdD, PySem.W.clsIn K D = some cdD
  sg : mg "super" = none
  tp : (P.main.scope.names.lookup ("super" : Str)).isSome = false
  tst : PySem.W.nsIn K cStatics "thirdparty.any" = some none
abbrev supNF (qual : Str) (st : Stmt) (cda cc : Addr) : NF := ⟨"__init__", qual, defArgs st, defBody st, defScope st, [("__class__", cc)], cda⟩
/-- .. of a class of such exceptions, below D -/
structure SupC (K : PySem.W.Frag) (C D : Addr) : Prop where
  ox : OexC K C
  sub : PySem.W.mroIn K C (.ref D) = some true
section
variable {P : Program} {w : World} {K : PySem.W.Frag} {mg : Str → Option Value} {base : Heap}
theorem ncx_env {CX : CXT} {N : List Str} {F : NF} {f : Addr} {A : Around} {outer : List Env} {s : Shared} {H : Hp} {E : XK} : (ncx CX P w K mg base N F f A outer s H E).env = envF F f s.heap.objs.size := rfl
variable {X : Cx} {σ : L2.St} {H : Hp} {s : Shared} {pins : List (Addr × Obj)}
theorem exo_obj (I : Inv X pins σ H s) {a C : Addr} {d : Option Addr} (e : H a = some (exo a C d)) : ∃ t1 : Addr, s.heap.get? a = some ({ cls := .ref C, dict := d, data := .fields #[.ref t1, .none, .none, .none, .bool false, .none] } : Obj) := exo_at I.hok e
/-- super() in such a method: the object that looks behind D -/
theorem sup_node {name qual : Str} {st : Stmt} {f D : Addr} {fd : FuncData} {cda cc a C L : Addr} {body : List Stmt} {p0 p1 : Pos} {attr : Str} {whole : Sem Value} {ar : Arg} {Q : Value → Shared → Prop} {E : Value → Shared → Prop}
    (S : SupF X.prog X.K X.mg name qual st f D fd cda cc) (hX : X.env = envF (supNF qual st cda cc) f L) (I : Inv X pins σ H s)
    (hp : (fd.params.posonlyargs ++ fd.params.args).head? = some ar) (h0 : X.N[0]? = some ar.arg) (hs : σ[0]? = some (some (.ref a))) (e : H a = some (exo a C none)) (hsub : PySem.W.mroIn X.K C (.ref D) = some true)
    (hat : (attr == ("__class__" : Str)) = false) (hks : (defScope st).names.lookup ("super" : Str) = some .globalImplicit) (hkc : (defScope st).names.lookup ("__class__" : Str) = some .free) (hka : (defScope st).names.lookup ar.arg = some .local)
    (hk : (defScope st).kind = .function)
    (h : ∀ so h', (∀ b o, s.heap.get? b = some o → h'.get? b = some o) → h'.get? so = some (PySem.W.ks_superObj D a C) → Q (.ref so) { s with heap := h' }) :
    _root_.PySem.wpAt (model X.prog X.w) X.A (.func body X.env) (attributeBase (.Call (.Name "super" p0) [] [] p1) attr X.env whole) Q E s := by
  obtain ⟨oc, od, dV, kV, doc, pm, an, ct, osl, hfd, lk⟩ := S.ex
  obtain ⟨ccl, cdd, vs, ccs, file, tf, hcode, hvs, hfile⟩ := S.fl
  obtain ⟨cl, cld, csl, hcell⟩ := S.ce
  obtain ⟨cdD, hD⟩ := S.dc
  have KX := I.kIn
  obtain ⟨t1, ho⟩ := exo_obj I e
  obtain ⟨mb, hb1, hb2⟩ := I.mod.blt
  obtain ⟨m, hns, hloc⟩ := id I.loc
  have hv : m ar.arg = some (.ref a) := by
    obtain ⟨u, ru, lu⟩ := hloc 0 ar.arg (.ref a) h0 hs (.inl (by rw [hX]; exact hka))
    obtain rfl : u = Value.ref a := ru
    rcases lu with ⟨_, z⟩ | ⟨z, _⟩
    · exact z
    · have z' : (defScope st).names.lookup ar.arg = some .cell ∨ (defScope st).names.lookup ar.arg = some .free := by rw [hX] at z; exact z
      rw [hka] at z'; rcases z' with z' | z' <;> cases z'
  obtain ⟨oD, hD1, hD2⟩ : ∃ oD, s.heap.get? D = some oD ∧ oD.data = .cls cdD := by
    unfold PySem.W.clsIn at hD
    split at hD
    · rename_i q
      cases hD
      exact ⟨_, KX _ _ q, rfl⟩
    · cases hD
  have gl : s.heap.Ns X.env.globals X.mg := by rw [I.ok.glob]; exact I.mod.glob.keeps I.bk
  have bl : s.heap.Ns X.env.builtins mb := by rw [I.ok.blt]; exact hb1.keeps I.bk
  obtain ⟨hh, g, d, t, os⟩ := s
  rw [hX] at hns gl bl ⊢
  refine PySem.ks_wpAt_super_base (env := envF (supNF qual st cda cc) f L) hks hkc hat rfl (KX _ _ lk) rfl hp rfl (KX _ _ hcode) rfl hvs hfile S.tp ?_
  refine PySem.W.ks_loadName_global hk hks (Calls.loadGlobal_builtin gl S.sg bl ((hb2 "super" (by decide)).trans (by decide +kernel : bootBuiltins "super" = some (.type "super"))) ⟨rfl, ?_⟩)
  refine wpAny_loadName_free hk hkc rfl ⟨_, KX _ _ hcell, rfl⟩ ?_
  refine wpAny_loadName_local hk hka hns hv ?_
  refine PySem.ks_wpAny_isType_cls hD1 hD2 ⟨rfl, ?_⟩
  refine PySem.ks_wpAny_call_super hD1 hD2 ho rfl (fun c z => ?_) (PySem.W.looks_mroIn KX hsub) (fun h' e k => ?_)
  · cases z
  · exact h _ h' k e

/-- a new object that nobody tracks, pinned -/
theorem pin_new {q : Addr} {o : Obj} {h' : Heap} {t' : Nat} (I : Inv X pins σ H s) (k : ∀ b u, s.heap.get? b = some u → h'.get? b = some u) (hq : s.heap.objs.size ≤ q) (ho : h'.get? q = some o) (hc : ∀ v, o.data ≠ .cell v) :
    Inv X ((q, o) :: pins) σ H { s with heap := h', toks := t' } := by
  have J := I.kept (t' := t') k
  have fp := I.fpOk hq (I.hok.fresh hq)
  refine J.pins_of fun p hp => ?_
  rcases List.mem_cons.mp hp with rfl | hp
  · exact ⟨ho, fp.1, fp.2.1, fp.2.2.1, hc⟩
  · exact J.pin p (List.mem_append_right _ hp)
theorem unpin {q : Addr × Obj} (I : Inv X (q :: pins) σ H s) : Inv X pins σ H s := I.pins_of fun p hp => I.pin p (List.mem_append_right _ (List.mem_cons_of_mem _ hp))
/-- the bound built-in __init__ is called -/
theorem call_mw {u a C t0 : Addr} {rest : List Value} {Q : Value → Shared → Prop} {E : Value → Shared → Prop} {A : Around} (T : OexC X.K C) (I : Inv X pins σ H s) (hu : s.heap.get? u = some (PySem.W.kxs_mw "ValueError.__init__" a)) (he : H a = some (exo a C none)) (hz : rest.length ≤ sizeLine)
    (h : ∀ s', Inv X pins σ H s' → Q .none s') : wpAny (model X.prog X.w) A (call (.ref u) rest) Q E s := by
  obtain ⟨nm, q, N, bs, bm, sn, sub, ab, col, dd, k0, k1, k2, k3, k5, hC, hbm⟩ := T.cls
  obtain ⟨t1, ho⟩ := exo_obj I he
  have KX := I.kIn
  obtain ⟨hh, g, d, tk, os⟩ := s
  refine wpAny_call (codeAny_of_tree ?_)
  show wpAny (model X.prog X.w) A.in1 (callAny (.ref u) ⟨rest, []⟩) _ _ _
  simp only [callAny]
  refine wpAny_bind (wpAny_load hu ?_)
  simp only [PySem.W.kxs_mw, show (Value.type "method-wrapper" == Value.type "method" || Value.type "method-wrapper" == Value.type "builtin_function_or_method" || Value.type "method-wrapper" == Value.type "method-wrapper") = true by decide, if_true]
  refine PySem.W.KFB.if_so (by decide) ?_
  refine wpAny_bind (PySem.W.check_bound_init PySem.F.excBase_ValueError.toExcCallFacts (KX _ _ hC) ho rfl ?_)
  refine wpAny_bind (wpAny_pure (wpAny_pure ⟨plainId_quiet PySem.F.excBase_ValueError.init.plain _, codeAny_builtin PySem.F.excBase_ValueError.initEntry ?_⟩))
  refine PySem.W.exc_init_tree (cls := .ref C) (t0 := t1) (dv := none) (c2 := .none) (c3 := .none) (b4 := .bool false) ho hz fun h' k hx _ => ?_
  have J := I.write (t' := tk) (x := a) (e := a) (o := exo a C none) (by rw [he]; exact True.intro) (.inl rfl) k ⟨_, hx⟩ (exo_ok hx)
  have eu : upd H a (exo a C none) = H := by
    funext b
    by_cases hb : b = a
    · rw [hb, upd_same, he]
    · rw [upd_ne hb]
  rw [eu] at J
  exact h _ J
section
variable {name qual : Str} {st : Stmt} {f D : Addr} {fd : FuncData} {cda cc a C L : Addr} {body : List Stmt} {p0 p1 ap cp ep : Pos} {ar : Arg} {e0 : Expr} {es : List Expr} {ta : TA} {Dn : Ends} {pl : Sem Bool}
/-- super().__init__(..) that comes to ValueError's -/
theorem sup_base (S : SupF X.prog X.K X.mg name qual st f D fd cda cc) (hX : X.env = envF (supNF qual st cda cc) f L) (I : Inv X pins σ H s)
    (hp : (fd.params.posonlyargs ++ fd.params.args).head? = some ar) (h0 : X.N[0]? = some ar.arg) (hs : σ[0]? = some (some (.ref a))) (T : SupC X.K C D) (e : H a = some (exo a C none))
    (hsu : PySem.W.ks_superIn X.K C D "__init__" = some (some (.builtin "ValueError.__init__"))) (hB : PySem.W.subIn X.K (.ref C) (.type "ValueError") = some true)
    (ha : PA X (e0 :: es) ta) (hks : (defScope st).names.lookup ("super" : Str) = some .globalImplicit) (hkc : (defScope st).names.lookup ("__class__" : Str) = some .free) (hka : (defScope st).names.lookup ar.arg = some .local)
    (hk : (defScope st).kind = .function) (he : starEach (e0 :: es) X.env = (false, eval e0 X.env) :: starEach es X.env) (hpl : (backTo cp (starEach es X.env)).any (·.1) = false)
    (hq : ta σ H fun vs H1 => vs.length ≤ 1000 ∧ H1 a = some (exo a C none) ∧ Dn.nx σ H1)
    (hev : eval (.Call (.Attribute (.Call (.Name "super" p0) [] [] p1) "__init__" ap) (e0 :: es) [] cp) X.env = (do
      let ov ← attributeBase (.Call (.Name "super" p0) [] [] p1) "__init__" X.env (eval (.Call (.Name "super" p0) [] [] p1) X.env)
      standAt ap.atName
      let (f, first) ← holding [ov] (getMethod ov "__init__" pl)
      callWith cp f first (backTo cp (starEach (e0 :: es) X.env)) [])) :
    _root_.PySem.wpAt (model X.prog X.w) X.A (.func body X.env) (exec (.Expr (.Call (.Attribute (.Call (.Name "super" p0) [] [] p1) "__init__" ap) (e0 :: es) [] cp) ep) X.env) (SP X pins Dn) X.xe s := by
  refine PySem.ks_wpAt_Expr_any (PySem.ks_wpAt_MethodCall (sup_node S hX I hp h0 hs e T.sub (by decide) hks hkc hka hk fun so h' k hso => ?_) hev) I.quiet rfl
  have I1 := I.kept (t' := s.toks) k
  obtain ⟨t1, ho⟩ := exo_obj I1 e
  have KX := I1.kIn
  have hxC : a ≠ C := by
    obtain ⟨nm, q, N, bs, bm, sn, sub, ab, col, dd, k0, k1, k2, k3, k5, hC, _⟩ := T.ox.cls
    intro z
    rw [z] at ho
    have := KX _ _ hC
    rw [ho] at this
    cases this
  cases hcl : PySem.W.clsIn X.K C with
  | none => unfold PySem.W.ks_superIn at hsu; rw [hcl] at hsu; cases hsu
  | some cd =>
    unfold PySem.W.ks_superIn at hsu
    rw [hcl] at hsu
    have hI : PySem.W.Looks (model X.prog X.w) h' (isInstance (.ref a) (.type "ValueError")) true := by
      have LT : PySem.W.Looks (model X.prog X.w) h' (typeOf (.ref a)) (.ref C) := fun A Q E s k q => wpAny_typeOf_ref (k _ _ ho) q
      exact LT.andThen (PySem.W.looks_subIn KX hB)
    refine PySem.W.kxs_getMethod (h := h') (g := s.gens) (d := s.drawn) (t := s.toks) (os := s.os) PySem.W.kxs_ValueError hso (PySem.W.looks_opaque KX S.tst) (l₀ := cd.mro) (fun A Q E s k q => wpAny_bind ((PySem.W.looks_clsIn KX hcl) A _ E s k (wpAny_pure q))) rfl KX hsu hI hxC (by decide) ?_
    have I2 := pin_new (o := PySem.W.kxs_mw "ValueError.__init__" a) (h' := h'.push (PySem.W.kxs_mw "ValueError.__init__" a)) (t' := s.toks + 1) I1 (fun b u z => Heap.get?_push_of_some _ z) (Nat.le_refl _) (Heap.get?_push_at rfl rfl) (fun v z => by cases z)
    refine PySem.W.kxs_callWith1 (i := "ValueError.__init__") (x := a) (h₀ := X.base) (L := X.env.locals) (news := [(h'.objs.size, PySem.W.kxs_mw "ValueError.__init__" a)]) (fun p hp => ?_) (by simp) ?_ he hpl
    · simp at hp
      subst hp
      obtain ⟨g1, g2, g3, _⟩ := I2.pin (h'.objs.size, PySem.W.kxs_mw "ValueError.__init__" a) (by simp)
      refine ⟨g1, g3, ?_⟩
      cases z : X.base.get? h'.objs.size with
      | none => rfl
      | some o => exact absurd (Heap.lt_size (I1.bk _ _ z)) (Nat.lt_irrefl _)
    · refine thn (ha.run cp _ _ σ H _ I2 hq) fun us s3 ⟨vs, H3, I3, r3, q3⟩ => ?_
      obtain ⟨hl, e3, q3⟩ := q3
      have hu := (I3.pin (h'.objs.size, PySem.W.kxs_mw "ValueError.__init__" a) (by simp)).1
      refine ⟨hu, call_mw (t0 := t1) T.ox I3 hu e3 (by rw [← Paired.length r3, sizeLine_eq]; omega) fun s4 I4 => ?_⟩
      exact ⟨σ, H3, unpin I4, q3⟩
/-- super().__init__(..) that comes to an own class's -/
theorem sup_own {CX : CXT} {k2 : Nat} {f2 : Addr} {fd2 : FuncData} {ps2 : List Str} {sp2 : Sp} {Ex : XK} (S : SupF X.prog X.K X.mg name qual st f D fd cda cc) (hX : X.env = envF (supNF qual st cda cc) f L) (I : Inv X pins σ H s)
    (hp : (fd.params.posonlyargs ++ fd.params.args).head? = some ar) (h0 : X.N[0]? = some ar.arg) (hs : σ[0]? = some (some (.ref a))) (T : SupC X.K C D) (e : H a = some (exo a C none))
    (hsu : PySem.W.ks_superIn X.K C D "__init__" = some (some (.ref f2))) (ht : PySem.W.typeIn X.K (.ref f2) = some (.type "function")) (hfn : PySem.W.fnIn X.K f2 = true)
    (F2 : FnOk X.prog X.w X.K X.mg X.base CX k2 f2 fd2 ps2 sp2) (hr : Room k2 X.A) (hb : Binds X.K fd2 ps2 []) (hx : Passes CX X Ex)
    (ha : PA X (e0 :: es) ta) (hks : (defScope st).names.lookup ("super" : Str) = some .globalImplicit) (hkc : (defScope st).names.lookup ("__class__" : Str) = some .free) (hka : (defScope st).names.lookup ar.arg = some .local)
    (hk : (defScope st).kind = .function) (he : starEach (e0 :: es) X.env = (false, eval e0 X.env) :: starEach es X.env) (hpl : (backTo cp (starEach es X.env)).any (·.1) = false)
    (hq : ta σ H fun vs H1 => sp2 (.ref a :: vs) H1 (fun _ H2 => Dn.nx σ H2) Ex)
    (hev : eval (.Call (.Attribute (.Call (.Name "super" p0) [] [] p1) "__init__" ap) (e0 :: es) [] cp) X.env = (do
      let ov ← attributeBase (.Call (.Name "super" p0) [] [] p1) "__init__" X.env (eval (.Call (.Name "super" p0) [] [] p1) X.env)
      standAt ap.atName
      let (f, first) ← holding [ov] (getMethod ov "__init__" pl)
      callWith cp f first (backTo cp (starEach (e0 :: es) X.env)) [])) :
    _root_.PySem.wpAt (model X.prog X.w) X.A (.func body X.env) (exec (.Expr (.Call (.Attribute (.Call (.Name "super" p0) [] [] p1) "__init__" ap) (e0 :: es) [] cp) ep) X.env) (SP X pins Dn) X.xe s := by
  refine PySem.ks_wpAt_Expr_any (PySem.ks_wpAt_MethodCall (sup_node S hX I hp h0 hs e T.sub (by decide) hks hkc hka hk fun so h' k hso => ?_) hev) I.quiet rfl
  have I1 := I.kept (t' := s.toks) k
  obtain ⟨t1, ho⟩ := exo_obj I1 e
  have KX := I1.kIn
  have hxC : a ≠ C := by
    obtain ⟨nm, q, N, bs, bm, sn, sub, ab, col, dd, k0, k1, k2, k3, k5, hC, _⟩ := T.ox.cls
    intro z
    rw [z] at ho
    have := KX _ _ hC
    rw [ho] at this
    cases this
  cases hcl : PySem.W.clsIn X.K C with
  | none => unfold PySem.W.ks_superIn at hsu; rw [hcl] at hsu; cases hsu
  | some cd =>
    unfold PySem.W.ks_superIn at hsu
    rw [hcl] at hsu
    obtain ⟨of, hof, hofc⟩ : ∃ of, h'.get? f2 = some of ∧ of.cls = .type "function" := by
      have ht' : (X.K.lookup f2).map (·.cls) = some (.type "function") := ht
      cases z : X.K.lookup f2 with
      | none => rw [z] at ht'; cases ht'
      | some of => rw [z] at ht'; exact ⟨of, KX _ _ z, Option.some.inj ht'⟩
    refine PySem.ks_wpAny_getMethod_super (h := h') (g := s.gens) (d := s.drawn) (t := s.toks) (os := s.os) hso (PySem.W.looks_opaque KX S.tst) (l₀ := cd.mro) (fun A Q E s k q => wpAny_bind ((PySem.W.looks_clsIn KX hcl) A _ E s k (wpAny_pure q))) rfl KX hsu hof hofc hxC (by decide) ?_
    have I2 := pin_new (o := PySem.W.methodObj (.ref f2) (.ref a)) (h' := h'.push (PySem.W.methodObj (.ref f2) (.ref a))) (t' := s.toks + 1) I1 (fun b u z => Heap.get?_push_of_some _ z) (Nat.le_refl _) (Heap.get?_push_at rfl rfl) (fun v z => by cases z)
    refine PySem.W.callWith_M (K := X.K) (g := f2) (self := .ref a) (h₀ := X.base) (L := X.env.locals) (news := [(h'.objs.size, PySem.W.methodObj (.ref f2) (.ref a))]) I.ok.mod.kin (fun p hp => ?_) (by simp) hfn ?_ he hpl
    · simp at hp
      subst hp
      obtain ⟨g1, g2, g3, _⟩ := I2.pin (h'.objs.size, PySem.W.methodObj (.ref f2) (.ref a)) (by simp)
      refine ⟨g1, g3, ?_⟩
      cases z : X.base.get? h'.objs.size with
      | none => rfl
      | some o => exact absurd (Heap.lt_size (I1.bk _ _ z)) (Nat.lt_irrefl _)
    · refine thn (ha.run cp _ _ σ H _ I2 hq) fun us s3 ⟨vs, H3, I3, r3, q3⟩ => ?_
      have hu := (I3.pin (h'.objs.size, PySem.W.methodObj (.ref f2) (.ref a)) (by simp)).1
      refine ⟨⟨hu, I3.kIn⟩, ?_⟩
      have rr : Vals (V.ref a :: vs) (Value.ref a :: us) := .cons rfl r3
      have hl : (Value.ref a :: us ++ []).length = ps2.length := by
        rw [List.append_nil, ← rr.length]; exact F2.len _ _ _ _ q3
      have hbd := hb s3 (Value.ref a :: us) I3.kIn hl
      rw [List.append_nil] at hbd
      refine wpAny_call (PySem.ks_codeAny_call_bound hu (codeAny_mono (F2.run X.A X.stack s3 H3 ⟨Value.ref a :: us, []⟩ (Value.ref a :: us) (V.ref a :: vs) _ Ex hr I3.env0 hbd rr q3) fun r s' hq' => ?_))
      cases r with
      | error er => exact hx _ σ H3 s3 er s' I3 hq'
      | ok fl =>
        cases fl with
        | ret u =>
          obtain ⟨v, H4, I4, _, q4⟩ := I3.after hq'
          exact ⟨σ, H4, unpin I4, q4⟩
        | next => exact False.elim hq'
        | brk => exact False.elim hq'
        | cont => exact False.elim hq'
end
end

/-! ### such an __init__ keeps its promise -/
/-- the call node's tree: by rfl where the places are written -/
def SupEv (p0 p1 ap cp : Pos) (args : List Expr) (pl : Sem Bool) : Prop := ∀ env : Env, eval (.Call (.Attribute (.Call (.Name "super" p0) [] [] p1) "__init__" ap) args [] cp) env = (do
  let ov ← attributeBase (.Call (.Name "super" p0) [] [] p1) "__init__" env (eval (.Call (.Name "super" p0) [] [] p1) env)
  standAt ap.atName
  let (f, first) ← holding [ov] (getMethod ov "__init__" pl)
  callWith cp f first (backTo cp (starEach args env)) [])
section
variable {P : Program} {w : World} {K : PySem.W.Frag} {mg : Str → Option Value} {base : Heap} {CX : CXT} {name qual : Str} {st : Stmt} {f D : Addr} {fd : FuncData} {cda cc : Addr} {N ps : List Str} {k : Nat} {sp : Sp}
theorem fn_sup (S : SupF P K mg name qual st f D fd cda cc) (NS : NScope N ps ["__class__"] (defScope st)) (len : ∀ vs H Q E, sp vs H Q E → vs.length = ps.length)
    (hbody : ∀ (A : Around) (outer : List Env) (s : Shared) (H : Hp) (vs : List V) (Q : VK) (E : XK), Room k (A.deeper (envF (supNF qual st cda cc) f s.heap.objs.size)) → sp vs H Q E →
      ∀ s1, Inv (ncx CX P w K mg base N (supNF qual st cda cc) f A outer s H E) [] (startF N vs [some (.ref D)]) H s1 →
        _root_.PySem.wpAt (model P w) (A.deeper (envF (supNF qual st cda cc) f s.heap.objs.size)) (.func (defBody st) (envF (supNF qual st cda cc) f s.heap.objs.size)) (execs (defBody st) (envF (supNF qual st cda cc) f s.heap.objs.size))
          (SP (ncx CX P w K mg base N (supNF qual st cda cc) f A outer s H E) [] { nx := fun _ H' => Q .non H', rt := Q }) (ncx CX P w K mg base N (supNF qual st cda cc) f A outer s H E).xe s1) :
    FnOk P w K mg base CX (k + 1) f fd ps sp := by
  refine ⟨len, fun A outer s H args us vs Q E hr e0 hb r hsp => ?_⟩
  obtain ⟨oc, od, dV, kV, doc, pm, an, ct, osl, rfl, lk⟩ := S.ex
  obtain ⟨cl, cld, csl, hcell⟩ := S.ce
  have hl := len _ _ _ _ hsp
  have KX : K.In s.heap := e0.mod.kin.keeps fun b o z => (e0.bs b o z).1
  have lim : s.heap.NoLimit := e0.mod.nolimit.keeps fun b o z => (e0.bs b o z).1
  refine codeAny_call_function hr.depth (KX _ _ lk) rfl NS.co NS.gen rfl (PySem.W.codeRec_of KX S.cd) (hb _ _ _ _ ?_)
  refine wpAny_newFunctionEnv NS.nocell (fun ⟨n, _⟩ hy => NS.par n (List.of_mem_zip hy).1) (fun h₁ hns hsb => ⟨lim.fresh _ hsb, ?_⟩) NS.kind
  refine PySem.ks_codeAny_funcAt (env := envF (supNF qual st cda cc) f s.heap.objs.size) ?_
  have kp : ∀ b o, s.heap.get? b = some o → h₁.get? b = some o := fun b o z => hsb.extBut b o (Nat.ne_of_lt (Heap.lt_size z)) (Heap.get?_push_of_some _ z)
  have C : CellsAt (supNF qual st cda cc).cl ["__class__"] [some (.ref D)] s.heap H := by
    refine ⟨rfl, fun y c z => ?_, fun x y c z1 z2 => ?_, fun i y hi => ?_⟩
    · have z' : List.lookup y [(("__class__" : Str), cc)] = some c := z
      have hc : c = cc := by
        rw [List.lookup_cons] at z'
        split at z'
        · cases z'; rfl
        · cases z'
      subst hc
      exact ⟨(e0.bs _ _ (e0.mod.kin _ _ hcell)).2, _, _, KX _ _ hcell, rfl⟩
    · have one : ∀ {u : Str}, List.lookup u [(("__class__" : Str), cc)] = some c → u = "__class__" := fun {u} q => by
        rw [List.lookup_cons] at q
        split at q
        · rename_i q2; simpa using q2
        · cases q
      rw [one z1, one z2]
    · cases i with
      | zero =>
        cases hi
        refine ⟨cc, rfl, fun v hv => ?_⟩
        cases hv
        exact ⟨_, rfl, _, KX _ _ hcell, rfl⟩
      | succ i => simp at hi
  have I : Inv (ncx CX P w K mg base N (supNF qual st cda cc) f A outer s H E) [] (startF N vs [some (.ref D)]) H { s with heap := h₁, toks := s.toks + (ps.zip us).length } := inv_startN NS hr.hd e0 hl r C hns kp
  refine PySem.ks_wpAt_mono (hbody A outer s H vs Q E (hr.deeper _) hsp _ I) (fun fl s' hs => ?_) fun e s' hs => hs
  have fin : ∀ {σ' : L2.St} {H' : Hp} {v : V} {u : Value}, Inv (ncx CX P w K mg base N (supNF qual st cda cc) f A outer s H E) [] σ' H' s' → L2.RelV v u → Q v H' → CE outer P w H s Q u s' :=
    fun {σ' H' v u} J rv q => ⟨v, H', J.os, J.bare, J.base, J.hok, rv, q⟩
  cases fl with
  | ret u => obtain ⟨v, σ', H', J, rv, q⟩ := hs; exact fin J rv q
  | next => obtain ⟨σ', H', J, q⟩ := hs; exact fin (v := V.non) (u := Value.none) J rfl q
  | brk => obtain ⟨_, _, _, q⟩ := hs; exact False.elim q
  | cont => obtain ⟨_, _, _, q⟩ := hs; exact False.elim q
end

/-! ### FormstripesError and its kin -/
/-- what is known of the class C below the class D whose __init__ is a def of one's own over ValueError -/
structure FormC (K : PySem.W.Frag) (C D : Addr) : Prop extends SupC K C D where
  nP : PySem.W.findIn K (.ref C) "place" = some none
  nN : PySem.W.findIn K (.ref C) "name" = some none
  su : PySem.W.ks_superIn K C D "__init__" = some (some (.builtin "ValueError.__init__"))
  vE : PySem.W.subIn K (.ref C) (.type "ValueError") = some true
/-- the promise of FormstripesError.__init__ -/
def spForm (K : PySem.W.Frag) (D : Addr) : Sp := fun vs H Q _ => ∃ (a C : Addr) (y z : V), vs = [.ref a, y, z] ∧ FormC K C D ∧ H a = some (exo a C none) ∧
  ∀ dx H', H dx = none → dx ≠ a → H' a = some (exo a C (some dx)) → H' dx = some (exd dx [("name", z), ("place", y)]) → (∀ b, b ≠ a → b ≠ dx → H' b = H b) → Q .non H'
/-- .. of a kin's -/
def spKin (K : PySem.W.Frag) (D D0 : Addr) (nm : Str) : Sp := fun vs H Q _ => ∃ (a : Addr) (y : V), vs = [.ref a, y] ∧ H a = some (exo a D none) ∧
  ∀ dx H', H dx = none → dx ≠ a → H' a = some (exo a D (some dx)) → H' dx = some (exd dx [("name", .str nm), ("place", y)]) → (∀ b, b ≠ a → b ≠ dx → H' b = H b) → Q .non H'
section
variable {P : Program} {w : World} {K : PySem.W.Frag} {mg : Str → Option Value} {base : Heap} {CX : CXT} {name qual : Str} {st : Stmt} {f D : Addr} {fd : FuncData} {cda cc : Addr} {ar : Arg} {p0 p1 ap cp ep p2 p3 p4 p5 p6 p7 p8 p9 p10 : Pos}
/-- def __init__(self, place, name): super().__init__(place); self.place = place; self.name = name -/
theorem ok_form (S : SupF P K mg name qual st f D fd cda cc) (NS : NScope ["self", "place", "name", "__class__"] ["self", "place", "name"] ["__class__"] (defScope st))
    (hb : defBody st = [.Expr (.Call (.Attribute (.Call (.Name "super" p0) [] [] p1) "__init__" ap) [.Name "place" p2] [] cp) ep,
      .Assign [.Attribute (.Name "self" p3) "place" p4] (.Name "place" p5) p6, .Assign [.Attribute (.Name "self" p7) "name" p8] (.Name "name" p9) p10]) {pl : Sem Bool} (hev : SupEv p0 p1 ap cp [.Name "place" p2] pl)
    (hp : (fd.params.posonlyargs ++ fd.params.args).head? = some ar) (har : ar.arg = "self") (hks : (defScope st).names.lookup ("super" : Str) = some .globalImplicit) (hkc : (defScope st).names.lookup ("__class__" : Str) = some .free) :
    FnOk P w K mg base CX 1 f fd ["self", "place", "name"] (spForm K D) := by
  refine fn_sup S NS (fun vs H Q E ⟨_, _, _, _, e, _⟩ => by rw [e]; rfl) fun A outer s H vs Q E hr h s1 I => ?_
  obtain ⟨a, C, y, z, rfl, T, e, hq⟩ := h
  rw [hb]
  have hka : (defScope st).names.lookup ("self" : Str) = some .local := NS.par "self" (by simp)
  have hkp : (defScope st).names.lookup ("place" : Str) = some .local := NS.par "place" (by simp)
  have hkn : (defScope st).names.lookup ("name" : Str) = some .local := NS.par "name" (by simp)
  refine PySem.ks_wpAt_execs_cons (PySem.ks_wpAt_mono (sup_base (Dn := ⟨fun σ' H' => σ' = [some (.ref a), some y, some z, some (.ref D)] ∧ H' = H, fun _ _ => False, fun _ _ => False, fun _ _ => False⟩) (ta := tCons (tVar 1) tNil) S rfl I hp (by rw [har]; rfl) rfl T.toSupC e T.su T.vE (pa_cons (pv 1 rfl (.inl hkp)) pa_nil) hks hkc (by rw [har]; exact hka) NS.kind rfl rfl
    ⟨y, rfl, by simp, e, rfl, rfl⟩ (hev _)) (fun fl s' hs => ?_) fun _ _ q => q)
  cases fl with
  | ret u => obtain ⟨_, _, _, _, _, q⟩ := hs; exact False.elim q
  | brk => obtain ⟨_, _, _, q⟩ := hs; exact False.elim q
  | cont => obtain ⟨_, _, _, q⟩ := hs; exact False.elim q
  | next =>
    obtain ⟨σ', H', I', rfl, rfl⟩ := hs
    refine wpAt_of_wpAny ((pss_cons (ps_ost (pv 0 rfl (.inl hka)) (pv 1 rfl (.inl hkp))) (pss_one (ps_ost (pv 0 rfl (.inl hka)) (pv 2 rfl (.inl hkn))))).run [] s' _ _ _ I' ?_)
    refine ⟨y, rfl, .ref a, rfl, a, C, rfl, T.ox, T.nP, .inl ⟨e, fun dx nd ne => ?_⟩⟩
    refine ⟨z, rfl, .ref a, rfl, a, C, rfl, T.ox, T.nN, .inr ⟨dx, [("place", y)], upd_same, by rw [upd_ne ne, upd_same], by simp, ?_⟩⟩
    refine hq dx _ nd ne ?_ upd_same ?_
    · rw [upd_ne (Ne.symm ne), upd_same]
    · intro b h1 h2
      rw [upd_ne h2, upd_ne h1, upd_ne h2]
/-- def __init__(self, place): super().__init__(place, nm) -/
theorem ok_kin {f0 D0 : Addr} {fd0 : FuncData} {nm : Str} {kk : Nat} (S : SupF P K mg name qual st f D fd cda cc) (NS : NScope ["self", "place", "__class__"] ["self", "place"] ["__class__"] (defScope st))
    (hb : defBody st = [.Expr (.Call (.Attribute (.Call (.Name "super" p0) [] [] p1) "__init__" ap) [.Name "place" p2, .Constant (.str nm) kk p3] [] cp) ep]) {pl : Sem Bool} (hev : SupEv p0 p1 ap cp [.Name "place" p2, .Constant (.str nm) kk p3] pl)
    (hp : (fd.params.posonlyargs ++ fd.params.args).head? = some ar) (har : ar.arg = "self") (hks : (defScope st).names.lookup ("super" : Str) = some .globalImplicit) (hkc : (defScope st).names.lookup ("__class__" : Str) = some .free)
    (T : SupC K D D) (T0 : FormC K D D0) (hsu : PySem.W.ks_superIn K D D "__init__" = some (some (.ref f0))) (ht : PySem.W.typeIn K (.ref f0) = some (.type "function")) (hfn : PySem.W.fnIn K f0 = true)
    (F0 : FnOk P w K mg base CX0 1 f0 fd0 ["self", "place", "name"] (spForm K D0)) (hb0 : Binds K fd0 ["self", "place", "name"] []) :
    FnOk P w K mg base CX0 2 f fd ["self", "place"] (spKin K D D0 nm) := by
  refine fn_sup S NS (fun vs H Q E ⟨_, _, e, _⟩ => by rw [e]; rfl) fun A outer s H vs Q E hr h s1 I => ?_
  obtain ⟨a, y, rfl, e, hq⟩ := h
  rw [hb]
  have hka : (defScope st).names.lookup ("self" : Str) = some .local := NS.par "self" (by simp)
  have hkp : (defScope st).names.lookup ("place" : Str) = some .local := NS.par "place" (by simp)
  refine PySem.ks_wpAt_execs_cons (PySem.ks_wpAt_mono (sup_own (Dn := ⟨fun σ' H' => Q .non H', fun _ _ => False, fun _ _ => False, fun _ _ => False⟩) (Ex := E0) (ta := tCons (tVar 1) (tCons (tC (.str nm)) tNil)) S rfl I hp (by rw [har]; rfl) rfl T e hsu ht hfn F0 hr hb0 pass0 (pa_cons (pv 1 rfl (.inl hkp)) (pa_cons pe_str pa_nil)) hks hkc (by rw [har]; exact hka) NS.kind rfl rfl
    ⟨y, rfl, a, D, y, .str nm, rfl, T0, e, hq⟩ (hev _)) (fun fl s' hs => ?_) fun _ _ q => q)
  cases fl with
  | ret u => obtain ⟨_, _, _, _, _, q⟩ := hs; exact False.elim q
  | brk => obtain ⟨_, _, _, q⟩ := hs; exact False.elim q
  | cont => obtain ⟨_, _, _, q⟩ := hs; exact False.elim q
  | next =>
    obtain ⟨σ', H', I', q⟩ := hs
    exact wpAt_of_wpAny (pss_nil.run [] s' σ' H' _ I' q)
end
/-- every parameter is given, though defaults stand -/
theorem binds_dfl {K : PySem.W.Frag} {fd : FuncData} {T : Addr} {o : Obj} {its : Array Value} {n : Nat} {ps : List Str} (lT : K.lookup T = some o) (oT : o.data = .seq its n)
    (h : ∀ us : List Value, us.length = ps.length → ∃ k, bindArgs fd ⟨us, []⟩ = seqItems? (.ref T) >>= k ∧ k (some its) = pure (ps.zip us)) : Binds K fd ps [] := by
  intro s us X hl
  rw [List.append_nil] at hl ⊢
  obtain ⟨k, e1, e2⟩ := h us hl
  refine BindsTo.of_looks fun M => ?_
  rw [e1]
  exact looks_items X lT oT (.of_pure e2)
/-- D(e), a kin made to be raised -/
def tMkF (D : Addr) (nm : Str) (te : TE) : L2.St → Hp → XK → Prop := fun σ H Q => te σ H fun y H1 => ∀ d H', H1 d = none → Same H1 H' → H' d = some (.xd [("name", .str nm), ("place", y)]) → Q (.ref D) (some d) H'
/-- what is asked of X and the class D to make one -/
structure KinE (P : Program) (w : World) (K : PySem.W.Frag) (mg : Str → Option Value) (base : Heap) (x : Str) (D D0 : Addr) (nm : Str) : Prop where
  ex : ∃ (fI : Addr) (fd : FuncData), PySem.W.findIn K (.ref D) "__init__" = some (some (.ref fI)) ∧ PySem.W.typeIn K (.ref fI) = some (.type "function") ∧ FnOk P w K mg base CX0 2 fI fd ["self", "place"] (spKin K D D0 nm) ∧ Binds K fd ["self", "place"] []
  ox : OexC K D
  mg : mg x = some (.ref D)
theorem pmk_kin {X : Cx} {x : Str} {D D0 : Addr} {nm : Str} {p pos : Pos} {e : Expr} {te : TE} (N : KinE X.prog X.w X.K X.mg X.base x D D0 nm) (hr : Room 3 X.A) (hg : Gl X x) (he : PE X e te)
    (hdb : (x == ("__debug__" : Str)) = false := by decide) (hs : starEach (e :: []) X.env = (false, eval e X.env) :: starEach [] X.env := by rfl) (hpl : (backTo pos (starEach [] X.env)).any (·.1) = false := by rfl) :
    PMk X (.Call (.Name x p) [e] [] pos) (tMkF D nm te) := by
  obtain ⟨fI, fd, h1, h2, h3, h4⟩ := N.ex
  intro pins s σ H Q I h
  refine pmk_oex (dvs := []) N.ox h1 h2 h3 hr h4 .nil pass0 hg N.mg (pa_cons (peCl he) pa_nil hs) hdb hs hpl pins s σ H Q I ?_
  refine ⟨_, h, fun y H1 q => ⟨by simp, fun a na => ⟨a, y, rfl, upd_same, fun dx H' nd ne e1 e2 e3 => ⟨rfl, dx, _, e1, e2, ?_, ?_⟩⟩⟩⟩
  · rw [upd_ne ne] at nd
    exact nd
  · rw [upd_ne ne] at nd
    refine q dx _ nd (fun b o hb => ?_) upd_same
    have ba : b ≠ a := ne_of_none hb na
    have bd : b ≠ dx := ne_of_none hb nd
    rw [upd_ne bd, del_ne ba, e3 b ba bd, upd_ne ba]
    exact hb

/-! ### raise, calls that may raise, try -/
def tRs (W : WX) (t : L2.St → Hp → XK → Prop) : TS := fun _ σ H => t σ H fun cls d H' => W cls d σ H'
theorem ps_rs {X : Cx} {W : WX} {e : Expr} {t : L2.St → Hp → XK → Prop} {pos : Pos} (hc : X.calm = true) (tk : Takes X W) (he : PMk X e t) : PS X (.Raise (some e) none pos) (tRs W t) := ps_raise hc tk he
theorem tRs_e {W : WX} {D : Ends} {σ : L2.St} {H : Hp} {t : L2.St → Hp → XK → Prop} : tRs W t D σ H = t σ H fun cls d H' => W cls d σ H' := rfl
def tCallW (sp : Sp) (W : WX) (t : TA) : TE := fun σ H Q => t σ H fun vs H1 => sp vs H1 Q (fun cls d H' => W cls d σ H')
section
variable {X : Cx} {W : WX} {k : Nat} {x : Str} {ps : List Str} {sp : Sp} {p pos : Pos} {e : Expr} {es : List Expr} {t : TA}
theorem pe_fnW (F : FnE X.prog X.w X.K X.mg X.base (L2.CX X.prog X.w) x k ps sp) (hr : Room k X.A) (hg : Gl X x) (tk : Takes X W) (ha : PA X (e :: es) t)
    (hdb : (x == ("__debug__" : Str)) = false := by decide) (he : starEach (e :: es) X.env = (false, eval e X.env) :: starEach es X.env := by rfl) (hp : (backTo pos (starEach es X.env)).any (·.1) = false := by rfl) :
    PE X (.Call (.Name x p) (e :: es) [] pos) (tCallW sp W t) := by
  obtain ⟨f, fd, h1, h2, h3, h4⟩ := F.ex
  refine peImp (pe_callSD (dvs := []) (E := fun σ => WE W σ) h4 hr hg h1 h2 h3 .nil (fun σ => passAt tk σ) ha hdb he hp) fun σ H Q q => ?_
  show t σ H fun vs H1 => sp (vs ++ []) H1 Q (WE W σ)
  simp only [List.append_nil]
  exact q
theorem tCallW_e {σ : L2.St} {H : Hp} {Q : VK} : tCallW sp W t σ H Q = t σ H fun vs H1 => sp vs H1 Q (fun cls d H' => W cls d σ H') := rfl
end
/-- the slots' wish of a try .. except C as n -/
def tTryAs (K : PySem.W.Frag) (c : Value) (i : Nat) (ts : Addr → Value → Option Addr → TS) (Wout : WX) (tb : WX → TS) : TS := fun D σ H => tb (wAs K c i ts Wout D) D σ H
def tTryOnly (K : PySem.W.Frag) (c : Value) (ts : Addr → Value → Option Addr → TS) (Wout : WX) (tb : WX → TS) : TS := fun D σ H => tb (wOnly K c ts Wout D) D σ H
section
variable {X : Cx} {x n : Str} {c : Value} {i : Nat} {body suite : List Stmt} {b₀ : Stmt} {np pos pos' : Pos} {tb : WX → TS} {ts : Addr → Value → Option Addr → TS} {Wout : WX}
theorem ps_tryAs (hs : X.stack = X.env :: X.outer) (hf : X.env.frame = some X.env.locals) (hN : X.N.Nodup) (hi : X.N[i]? = some n) (hln : X.env.kindOf n = some .local) (hc : Names X x c) (tk : Takes X Wout)
    (hb : ∀ (W : WX) (pn : List (Addr × Obj)) (xe : Value → Shared → Prop), Takes (X.tr pn xe) W → PassesOwn (model X.prog X.w) X.A X.env xe → PSs (X.tr pn xe) body (tb W))
    (hsu : ∀ (a : Addr) (oe : Obj) (cls : Value) (d : Option Addr) (pn : List (Addr × Obj)), Zc cls d oe → (∃ vs, oe.data = .fields vs) → PSs (X.suite a ((a, oe) :: pn)) (b₀ :: suite) (ts a cls d)) :
    PS X (.Try body [.ExceptHandler (some (.Name x np)) (some n) (b₀ :: suite) pos'] [] [] pos) (tTryAs X.K c i ts Wout tb) := ps_try_as hs hf hN hi hln hc tk hb hsu
theorem ps_tryOnly (hs : X.stack = X.env :: X.outer) (hf : X.env.frame = some X.env.locals) (hc : Names X x c) (tk : Takes X Wout)
    (hb : ∀ (W : WX) (pn : List (Addr × Obj)) (xe : Value → Shared → Prop), Takes (X.tr pn xe) W → PassesOwn (model X.prog X.w) X.A X.env xe → PSs (X.tr pn xe) body (tb W))
    (hsu : ∀ (a : Addr) (oe : Obj) (cls : Value) (d : Option Addr) (pn : List (Addr × Obj)), Zc cls d oe → (∃ vs, oe.data = .fields vs) → PSs (X.suite a ((a, oe) :: pn)) (b₀ :: suite) (ts a cls d)) :
    PS X (.Try body [.ExceptHandler (some (.Name x np)) none (b₀ :: suite) pos'] [] [] pos) (tTryOnly X.K c ts Wout tb) := ps_try_only hs hf hc tk hb hsu
end
/-- err.f in the suite -/
def tXfU (K : PySem.W.Frag) (a : Addr) (cls : Value) (d : Option Addr) (f : Str) (te : TE) : TE := fun σ H Q => ∃ C, cls = .ref C ∧ XfC K C ∧ PySem.W.findIn K (.ref C) f = some none ∧ te σ H fun x H1 => x = .ref a ∧ ∃ (dd : Addr) (fs : List (Str × V)) (v : V), d = some dd ∧ H1 dd = some (.xd fs) ∧ fs.lookup f = some v ∧ Q v H1
theorem pe_xfU {X : Cx} {a : Addr} {oe : Obj} {cls : Value} {d : Option Addr} {pn : List (Addr × Obj)} {e : Expr} {te : TE} {pos : Pos} {n : Str} (hz : Zc cls d oe) (hf : ∃ vs, oe.data = .fields vs) (he : PE (X.suite a ((a, oe) :: pn)) e te)
    (hb : attributeBase e n X.env (eval e X.env) = eval e X.env := by rfl) : PE (X.suite a ((a, oe) :: pn)) (.Attribute e n pos) (tXfU X.K a cls d n te) := by
  refine ⟨fun pins s σ H Q I ⟨C, ec, T, hno, h⟩ => ?_⟩
  refine (pe_xf T hno hz hf (peCl he) hb).run pins s σ H Q I ⟨_, h, fun x H1 ⟨e1, dd, fs, v, e2, e3, e4, q⟩ => ⟨e1, ec, dd, fs, v, e2, e3, e4, q⟩⟩
/-- isinstance(err, C) in the suite -/
def rIsX (K : PySem.W.Frag) (a : Addr) (cls : Value) (d : Option Addr) : List V → Hp → VK → Prop := fun xs H Q => match xs with
  | [.ref a', .ref C'] => a' = a ∧ ∃ D dd fs, cls = .ref D ∧ d = some dd ∧ H dd = some (.xd fs) ∧ ExcC K D ∧ (match PySem.W.kitOne K (.ref D) (.ref C') with | some b => Q (.bl b) H | none => False)
  | [.ref a', .ty T] => a' = a ∧ ∃ D dd fs, cls = .ref D ∧ d = some dd ∧ H dd = some (.xd fs) ∧ ExcC K D ∧ (match PySem.W.kitOne K (.ref D) (.type T) with | some b => Q (.bl b) H | none => False)
  | _ => False
theorem c_isX {X : Cx} {a : Addr} {oe : Obj} {cls : Value} {d : Option Addr} {pn : List (Addr × Obj)} (hz : Zc cls d oe) (hf : ∃ vs, oe.data = .fields vs) : CallR (X.suite a ((a, oe) :: pn)) (.builtin "isinstance") (rIsX X.K a cls d) := by
  intro pins s σ H xs us Q I r h
  have key : ∀ (D dd : Addr) (fs : List (Str × V)) (cv : Value) (b : Bool), cls = .ref D → d = some dd → H dd = some (.xd fs) → ExcC X.K D → PySem.W.kitOne X.K (.ref D) cv = some b → Q (.bl b) H →
      wpAny (model X.prog X.w) (X.A.mark (some (.ref a))) (call (.builtin "isinstance") [.ref a, cv]) (EP (X.suite a ((a, oe) :: pn)) pins σ Q) (fun _ _ => False) s := by
    intro D dd fs cv b e1 e2 e3 C e4 q
    subst e1 e2
    obtain ⟨hget, _⟩ := I.pin (a, oe) (List.mem_append.mpr (.inl List.mem_cons_self))
    obtain ⟨vs, hv⟩ := hf
    have hx : ObjOk X.prog X.w H s.heap dd (.xd fs) := I.hok dd _ e3
    obtain ⟨mA, ⟨od, es, ep, hod, _⟩, _⟩ := hx
    have J : PySem.W.InstAt s.heap a oe D (some od) := by
      obtain ⟨oc, odd, oda, osl⟩ := oe
      obtain ⟨h1, h2⟩ := hz
      dsimp only at h1 h2 hv
      subst h1 h2 hv
      exact ⟨hget, rfl, rfl, hod⟩
    have hcl : (PySem.W.clsIn X.K D).isSome = true := by
      have z := C.hd
      unfold PySem.W.hasDictIn at z
      cases e : PySem.W.clsIn X.K D with
      | none => rw [e] at z; cases z
      | some cd => rfl
    exact PySem.W.kia_one (PySem.W.kitx_exc hcl C.hg C.hk C.hs C.ha C.hn C.ht C.hm) I.kIn J e4 (fun z => nomatch z) fun tk => ⟨.bl b, H, I.kept (t' := tk) fun _ _ z => z, rfl, q⟩
  unfold rIsX at h
  split at h
  · obtain ⟨rfl, D, dd, fs, e1, e2, e3, C, q⟩ := h
    split at q
    · obtain ⟨u1, u2, rfl, r1, r2⟩ := vals2 r
      cases r1
      cases r2
      exact key D dd fs _ _ e1 e2 e3 C ‹_› q
    · exact q.elim
  · obtain ⟨rfl, D, dd, fs, e1, e2, e3, C, q⟩ := h
    split at q
    · obtain ⟨u1, u2, rfl, r1, r2⟩ := vals2 r
      cases r1
      cases r2
      exact key D dd fs _ _ e1 e2 e3 C ‹_› q
    · exact q.elim
  · exact h.elim
/-- nothing is let out -/
abbrev W0 : WX := fun _ _ _ _ => False
/-! ### the same data -/
theorem rNe_same {K : PySem.W.Frag} {H : Hp} {Q : VK} {x y : V} (d : PyData) (hr : (isRef x || isRef y) = true) (hx : Dp K H x d) (hy : Dp K H y d) (sh : SeqAt.shaped d = true) (q : Q (.bl false) H) : rNeU K x y H Q := by
  unfold rNeU
  rw [if_pos hr]
  refine ⟨d, d, hx, hy, sh, sh, ?_⟩
  rw [SeqAt.eqv_refl d (SeqAt.canLay_of_shaped sh)]
  exact q
theorem rEq_same {K : PySem.W.Frag} {H : Hp} {Q : VK} {x y : V} (d : PyData) (hr : (isRef x || isRef y) = true) (hx : Dp K H x d) (hy : Dp K H y d) (sh : SeqAt.shaped d = true) (q : Q (.bl true) H) : rEqU K x y H Q := by
  unfold rEqU
  rw [if_pos hr]
  refine ⟨d, d, hx, hy, sh, sh, ?_⟩
  rw [SeqAt.eqv_refl d (SeqAt.canLay_of_shaped sh)]
  exact q
theorem rIsX_i {K : PySem.W.Frag} {a C C' d : Addr} {fs : List (Str × V)} {b : Bool} {H : Hp} {Q : VK} (hd : H d = some (.xd fs)) (hx : ExcC K C) (hk : PySem.W.kitOne K (.ref C) (.ref C') = some b) (q : Q (.bl b) H) : rIsX K a (.ref C) (some d) [.ref a, .ref C'] H Q := by
  refine ⟨rfl, C, d, fs, rfl, rfl, hd, hx, ?_⟩
  rw [hk]
  exact q
/-! ### rows of octets -/
theorem cutV_map {α : Type} (f : α → V) (xs : List α) (lo hi : Option Int) : ∃ ys : List α, cutV (xs.map f) lo hi = ys.map f ∧ ys.length ≤ xs.length ∧ ∀ y ∈ ys, y ∈ xs := by
  refine ⟨(xs.drop (HT.sIx xs.length 0 lo)).take (HT.sIx xs.length xs.length hi - HT.sIx xs.length 0 lo), ?_, ?_, ?_⟩
  · unfold cutV
    rw [List.map_take, List.map_drop, List.length_map]
  · rw [List.length_take, List.length_drop]; omega
  · intro y hy
    exact List.mem_of_mem_drop (List.mem_of_mem_take hy)
theorem cut_octs (ns : List Nat) (lo hi : Option Int) : ∃ ms : List Nat, cutV (octs ns) lo hi = octs ms ∧ ms.length ≤ ns.length ∧ ∀ m ∈ ms, m ∈ ns := cutV_map _ ns lo hi
theorem octs_get {ns : List Nat} {i : Nat} {n : Nat} (h : ns[i]? = some n) : atI (octs ns) (i : Int) = some (.int n) := by
  have hi : i < ns.length := (List.getElem?_eq_some_iff.mp h).1
  unfold atI ixN
  rw [if_pos (by omega), octs_len, if_pos (by omega)]
  unfold octs
  simp [h]
theorem oat {ns : List Nat} {j : Int} (h0 : 0 ≤ j) (h : j < ns.length) : ∃ n : Nat, ns[j.toNat]? = some n ∧ atI (octs ns) j = some (.int n) := by
  refine ⟨ns[j.toNat]'(by omega), by simp, ?_⟩
  have := octs_get (ns := ns) (i := j.toNat) (n := ns[j.toNat]'(by omega)) (by simp)
  rw [show ((j.toNat : Nat) : Int) = j by omega] at this
  exact this
section
variable {K : PySem.W.Frag} {a : Addr} {g : TG} {tt : TT} {te : TE} {vs : List Nat} {σ : L2.St} {H1 : Hp} {Q : VK}
theorem lcO {ns : List Nat} (f : Nat → Nat) (hx : ∀ H', Same H1 H' → lstv K H' a = some (octs ns)) (hz : ns.length ≤ 10000000)
    (step : ∀ n ∈ ns, ∀ H', Same H1 H' → ∀ (Qy : VK) (Qn : Hp → Prop), (∀ H'', Same H' H'' → Qy (.int (f n)) H'') → LTurn g tt te vs σ (.int n) H' Qy Qn)
    (hq : ∀ p H', H1 p = none → Same H1 H' → H' p = some (.lst (octs (ns.map f))) → Q (.ref p) H') : LcGo (Itl K a) g tt te vs σ H1 Q := by
  refine lcL (xs := octs ns) (fun v => match v with | .int i => some (.int (f i.toNat)) | _ => none) hx (by rw [octs_len]; exact sz _ hz) ?_ ?_
  · intro x hx H' s Qy Qn hy hn
    obtain ⟨n, hn2, rfl⟩ := List.mem_map.mp hx
    exact step n hn2 H' s Qy Qn fun H'' s2 => hy _ (by simp) H'' s2
  · intro p H' h0 s e
    refine hq p H' h0 s ?_
    rw [e]
    congr 2
    unfold octs
    rw [List.filterMap_map, List.map_map]
    rw [← List.filterMap_eq_map]
    congr 1
end
/-! ### more of texts and lists -/
def rOrd : List V → Hp → VK → Prop := fun xs H Q => match xs with
  | [.str x] => x.length = 1 ∧ Q (.int (x.cps.getD 0 0 : Nat)) H
  | _ => False
theorem c_ord {X : Cx} : CallR X (.builtin "ord") rOrd := callImp call_ord fun xs H Q q => by
  unfold rOrd at q
  split at q
  · exact ⟨_, rfl, q.1, q.2⟩
  · exact q.elim
def rSidx : V → List V → Hp → VK → Prop := fun x xs H Q => match x, xs with
  | .str a, [.str b] => (match Builtin.Str.occurrences a b 0 a.length 1 with
    | i :: _ => Q (.int (i : Nat)) H
    | [] => False)
  | _, _ => False
noncomputable def rJoin (K : PySem.W.Frag) : V → List V → Hp → VK → Prop := fun x xs H Q => match x, xs with
  | .str a, [.ref p] => (match sqv K H p with
    | some vs => ∃ ys : List Str, vs = ys.map V.str ∧ (ys.map (·.length)).sum + ys.length * a.length ≤ 16777216 ∧ Q (.str (Txt.join a ys)) H
    | none => False)
  | _, _ => False
section
variable {X : Cx} {o e : Expr} {es : List Expr} {to : TE} {t : TA} {apos pos : Pos}
theorem pe_sindex (ho : PE X o to) (ha : PA X (e :: es) t)
    (hb : attributeBase o "index" X.env (eval o X.env) = eval o X.env := by rfl)
    (hf : ((backTo pos (starEach (e :: es) X.env)).all (fun x => !x.1) && (backToKw pos (keywordEach [] X.env)).all (fun x => x.1.isSome) && decide ((e :: es).length + ([] : List Keyword).length + (if ([] : List Keyword).isEmpty then 0 else 1) < 30)) = true := by rfl)
    (hl : (apos.endLine == pos.line) = true := by rfl) (hs : starEach (e :: es) X.env = (false, eval e X.env) :: starEach es X.env := by rfl) (hp : (backTo pos (starEach es X.env)).any (·.1) = false := by rfl) :
    PE X (.Call (.Attribute o "index" apos) (e :: es) [] pos) (tMS rSidx to t) := pe_ms PySem.F.plainAttrs_str PySem.F.slot_str_index PySem.F.type_str_index (mtImp mt_sindex fun x xs H Q q => by
      unfold rSidx at q
      split at q
      · split at q
        · exact ⟨_, _, _, _, rfl, rfl, ‹_›, q⟩
        · exact q.elim
      · exact q.elim) ho ha hb hf hl hs hp
theorem pe_sjoin (ho : PE X o to) (ha : PA X (e :: es) t)
    (hb : attributeBase o "join" X.env (eval o X.env) = eval o X.env := by rfl)
    (hf : ((backTo pos (starEach (e :: es) X.env)).all (fun x => !x.1) && (backToKw pos (keywordEach [] X.env)).all (fun x => x.1.isSome) && decide ((e :: es).length + ([] : List Keyword).length + (if ([] : List Keyword).isEmpty then 0 else 1) < 30)) = true := by rfl)
    (hl : (apos.endLine == pos.line) = true := by rfl) (hs : starEach (e :: es) X.env = (false, eval e X.env) :: starEach es X.env := by rfl) (hp : (backTo pos (starEach es X.env)).any (·.1) = false := by rfl) :
    PE X (.Call (.Attribute o "join" apos) (e :: es) [] pos) (tMS (rJoin X.K) to t) := pe_ms PySem.F.plainAttrs_str PySem.F.slot_str_join PySem.F.type_str_join (mtImp mt_join fun x xs H Q q => by
      unfold rJoin at q
      split at q
      · split at q
        · rename_i hq
          obtain ⟨ys, rfl, z, q⟩ := q
          exact ⟨_, _, ys, rfl, rfl, sqv_sq hq, z, q⟩
        · exact q.elim
      · exact q.elim) ho ha hb hf hl hs hp
end
/-- l[i] = v -/
def rSetLU : TSet := fun o i v H Q => match o, i with
  | .ref p, .int k => (match H p with
    | some (.lst xs) => (match ixN xs.length k with
      | some j => Q (upd H p (.lst (xs.set j v)))
      | none => False)
    | _ => False)
  | _, _ => False
theorem set_lstU {X : Cx} : PSet X rSetLU := by
  intro pins s σ H o i v ov iv u Q I ro ri rv h
  refine set_list pins s σ H o i v ov iv u Q I ro ri rv ?_
  unfold rSetLU at h
  split at h
  · split at h
    · split at h
      · exact ⟨_, _, _, _, rfl, rfl, ‹_›, ‹_›, h⟩
      · exact h.elim
    · exact h.elim
  · exact h.elim
theorem gSub_e {to ti : TE} {t : TSet} {v : V} {σ : L2.St} {H : Hp} {Q : L2.St → Hp → Prop} : gSub to ti t v σ H Q = to σ H fun o H1 => ti σ H1 fun i H2 => t o i v H2 fun H3 => Q σ H3 := rfl
theorem rSetLU_ref {p : Addr} {k : Int} {v : V} {H : Hp} {Q : Hp → Prop} {xs : List V} (h : H p = some (.lst xs)) : rSetLU (.ref p) (.int k) v H Q = (match ixN xs.length k with
      | some j => Q (upd H p (.lst (xs.set j v)))
      | none => False) := by unfold rSetLU; simp only [h]
theorem rOrd_str {x : Str} {H : Hp} {Q : VK} : rOrd [.str x] H Q = (x.length = 1 ∧ Q (.int (x.cps.getD 0 0 : Nat)) H) := rfl
theorem rSidx_str {a b : Str} {H : Hp} {Q : VK} : rSidx (.str a) [.str b] H Q = (match Builtin.Str.occurrences a b 0 a.length 1 with
    | i :: _ => Q (.int (i : Nat)) H
    | [] => False) := rfl
theorem rJoin_lst {K : PySem.W.Frag} {a : Str} {p : Addr} {H : Hp} {Q : VK} {ys : List Str} (h : lstv K H p = some (ys.map V.str)) (hz : (ys.map (·.length)).sum + ys.length * a.length ≤ 16777216) (q : Q (.str (Txt.join a ys)) H) : rJoin K (.str a) [.ref p] H Q := by
  unfold rJoin
  simp only [sqv_l h]
  exact ⟨ys, rfl, hz, q⟩
/-- a comprehension over a range whose turns may write -/
theorem lcRI {lo : Int} {n : Nat} {g : TG} {tt : TT} {te : TE} {vs : List Nat} {σ : L2.St} {H1 : Hp} {Q : VK} (Pv : Nat → Addr → Hp → Prop)
    (h0 : ∀ D, H1 D = none → Pv 0 D (upd H1 D (.lst [])))
    (step : ∀ D i H, H1 D = none → i < n → Pv i D H → LTurn g tt te vs σ (.int (lo + i)) H (fun y H4 => ∃ acc, H4 D = some (.lst acc) ∧ acc.length < sizeLine ∧ Pv (i + 1) D (upd H4 D (.lst (acc ++ [y])))) (fun H3 => Pv (i + 1) D H3))
    (hq : ∀ D H, H1 D = none → Pv n D H → Q (.ref D) H) : LcGo (Itr lo n) g tt te vs σ H1 Q := by
  intro D hD
  exact lc_range (fun i H => Pv i D H) (h0 D hD) (fun i H hi p => step D i H hD hi p) (fun H p => hq D H hD p)
/-! ### a text's signs walked -/
section
variable {z : Str} {l : List Nat} {g : TG} {tb : TS} {D : Ends} {σ : L2.St} {H : Hp} {tt : TT} {te : TE} {vs : List Nat} {H1 : Hp} {Q : VK}
theorem goesS (hz : z.cps.toList = l) (Pv : Nat → L2.St → Hp → Prop) (h0 : Pv 0 σ H)
    (hs : ∀ i c σ H, l[i]? = some c → Pv i σ H → g (.str ⟨#[c]⟩) σ H fun σ2 H2 => tb { D with nx := Pv (i + 1), ct := Pv (i + 1), bk := D.nx } σ2 H2) (hd : ∀ σ H, Pv l.length σ H → D.nx σ H) : Goes (Its z) g tb D σ H := by
  have hn : z.cps.size = l.length := by rw [← hz]; simp
  refine for_it walk_str Pv h0 (fun _ _ _ _ _ => True.intro) ?_ (by rw [hn]; exact hd)
  rintro i x σ H H' hi p ⟨rfl, c, hc, rfl⟩
  exact hs i c σ _ (by rw [← hz]; simpa using hc) p
theorem lcS (hz : z.cps.toList = l) (F : Nat → Option V) (hz2 : l.length ≤ 10000000)
    (step : ∀ c ∈ l, ∀ H', Same H1 H' → ∀ (Qy : VK) (Qn : Hp → Prop), (∀ y, F c = some y → ∀ H'', Same H' H'' → Qy y H'') → (F c = none → ∀ H'', Same H' H'' → Qn H'') → LTurn g tt te vs σ (.str ⟨#[c]⟩) H' Qy Qn)
    (hq : ∀ p H', H1 p = none → Same H1 H' → H' p = some (.lst (l.filterMap F)) → Q (.ref p) H') : LcGo (Its z) g tt te vs σ H1 Q := by
  intro D hD
  have hn : z.cps.size = l.length := by rw [← hz]; simp
  refine lc_it walk_str (fun i H => Same H1 H ∧ H D = some (.lst ((l.take i).filterMap F))) ⟨Same.new hD, by rw [upd_same]; rfl⟩ (fun _ _ _ _ => True.intro) ?_ (fun H h => ?_)
  · rintro i x H H' hi ⟨h1, h2⟩ ⟨rfl, c, hc, rfl⟩
    have hi2 : l[i]? = some c := by rw [← hz]; simpa using hc
    have hlt : i < l.length := by omega
    refine step c (List.mem_of_getElem? hi2) _ h1 _ _ (fun y hy H2 s2 => ?_) (fun hy H2 s2 => ?_)
    · refine ⟨_, s2 _ _ h2, Nat.lt_of_lt_of_le (Nat.lt_of_le_of_lt (List.length_filterMap_le _ _) (by rw [List.length_take]; omega : (l.take i).length < l.length)) (sz _ hz2), fun b o hb => ?_, ?_⟩
      · rw [upd_ne (ne_of_none hb hD)]
        exact s2 _ _ (h1 _ _ hb)
      · rw [upd_same, take_snoc hi2, filterMap_snoc, hy]
    · refine ⟨h1.trans s2, ?_⟩
      rw [s2 _ _ h2, take_snoc hi2, filterMap_snoc, hy, List.append_nil]
  · rw [hn, List.take_length] at h
    exact hq D H hD h.1 h.2
end
theorem tMS_e {r : V → List V → Hp → VK → Prop} {to : TE} {t : TA} {σ : L2.St} {H : Hp} {Q : VK} : tMS r to t σ H Q = to σ H fun x H1 => match x with
  | .str z => t σ H1 fun vs H2 => r (.str z) vs H2 Q
  | _ => False := rfl
theorem lstv_chg {K : PySem.W.Frag} {H H' : Hp} {p st : Addr} {xs : List V} (s : ∀ b o, b ≠ st → H b = some o → H' b = some o) (ne : p ≠ st) (ap : Apart K H') (h : lstv K H p = some xs) : lstv K H' p = some xs := by
  unfold lstv at h
  split at h
  · cases h; exact lstv_of (s _ _ ne ‹_›)
  · cases h; exact lstv_frz (s _ _ ne ‹_›)
  · obtain ⟨o, q⟩ := klst_in h
    unfold lstv
    rw [ap _ _ q]
    exact h
  · cases h
theorem lstv_ne {K : PySem.W.Frag} {H H' : Hp} {a p : Addr} {xs : List V} {o : HO} (hp : H p = none) (e : H' p = some o) (ap : Apart K H') (h : lstv K H a = some xs) : a ≠ p := by
  rintro rfl
  unfold lstv at h
  rw [hp] at h
  obtain ⟨o', q⟩ := klst_in h
  rw [ap _ _ q] at e
  cases e
theorem rIs_e {x : V} {H : Hp} {Q : VK} : rIsU x .non H Q = Q (.bl (decide (x = .non))) H := by cases x <;> rfl
theorem rIsN_e {x : V} {H : Hp} {Q : VK} : rIsNU x .non H Q = Q (.bl (!decide (x = .non))) H := by cases x <;> rfl
/-! ### dicts -/
theorem u1 {n c : Nat} (h : n + 64 < c) : n + 1 < c := by omega
/-- o[i] = v of a list or a dict -/
def rSetU : TSet := fun o i v H Q => match o with
  | .ref p => (match H p with
    | some (.lst xs) => (match i with
      | .int k => (match ixN xs.length k with
        | some j => Q (upd H p (.lst (xs.set j v)))
        | none => False)
      | _ => False)
    | some (.dK kvs) => ∃ k, i = kV k ∧ kvs.length < sizeLine ∧ Q (upd H p (.dK (putK kvs k v)))
    | _ => False)
  | _ => False
theorem set_U {X : Cx} (hu : X.A.units + 1 < cLine) : PSet X rSetU := by
  intro pins s σ H o i v ov iv u Q I ro ri rv h
  unfold rSetU at h
  split at h
  · split at h
    · split at h
      · split at h
        · exact set_list pins s σ H _ _ v ov iv u Q I ro ri rv ⟨_, _, _, _, rfl, rfl, ‹_›, ‹_›, h⟩
        · exact h.elim
      · exact h.elim
    · obtain ⟨k, rfl, hz, q⟩ := h
      exact set_dict hu pins s σ H _ _ v ov iv u Q I ro ri rv ⟨_, _, rfl, DPut.k ‹_› hz, q⟩
    · exact h.elim
  · exact h.elim
theorem rSetU_lst {p : Addr} {k : Int} {v : V} {H : Hp} {Q : Hp → Prop} {xs : List V} (h : H p = some (.lst xs)) : rSetU (.ref p) (.int k) v H Q = (match ixN xs.length k with
      | some j => Q (upd H p (.lst (xs.set j v)))
      | none => False) := by unfold rSetU; simp only [h]
theorem rSetU_str {p : Addr} {k : Str} {v : V} {H : Hp} {Q : Hp → Prop} {kvs : List (Key × V)} (h : H p = some (.dK kvs)) (hz : kvs.length < sizeLine) (q : Q (upd H p (.dK (putK kvs (.inr k) v)))) : rSetU (.ref p) (.str k) v H Q := by
  unfold rSetU
  simp only [h]
  exact ⟨.inr k, rfl, hz, q⟩
theorem dget_k {H : Hp} {p : Addr} {kvs : List (Key × V)} {k : Key} {v : V} (e : H p = some (.dK kvs)) (hv : valV kvs k = some v) : DGet H p (kV k) (some v) := hv ▸ DGet.k e
theorem tPairs_nil {σ : L2.St} {H : Hp} {Q : List (V × V) → Hp → Prop} : tPairs [] σ H Q = Q [] H := rfl
theorem tPairs_cons {tk tv : TE} {r : List (TE × TE)} {σ : L2.St} {H : Hp} {Q : List (V × V) → Hp → Prop} : tPairs ((tk, tv) :: r) σ H Q = tk σ H fun x H1 => tv σ H1 fun y H2 => tPairs r σ H2 fun ps H3 => Q ((x, y) :: ps) H3 := rfl
/-- list(d.values()) -/
def tListVals (te : TE) : TE := fun σ H Q => te σ H fun x H1 => match x with
  | .ref d => (match H1 d with
    | some (.dK kvs) => Nw H1 (.lst (kvs.map (·.2))) Q
    | _ => False)
  | _ => False
theorem vals_of_kv : ∀ {kvs : List (Key × V)} {vs : List (Key × Value)}, KV kvs vs → Vals (kvs.map (·.2)) (vs.map (·.2)) := by
  intro kvs vs h
  unfold KV at h
  induction h with
  | nil => exact .nil
  | cons h t ih => exact .cons h.2 ih
section
variable {X : Cx} {e : Expr} {te : TE} {p apos cpos pos : Pos}
theorem pe_listVals (hc : X.calm = true) (he : PE X e te) (hg : Gl X "list") (hm : X.mg "list" = none) (hv : bootBuiltins "list" = some (.type "list")) (hbase : attributeBase e "values" X.env (eval e X.env) = eval e X.env := by rfl) (hline : (apos.endLine == cpos.line) = true := by rfl)
    (hs : starEach [.Call (.Attribute e "values" apos) [] [] cpos] X.env = (false, eval (.Call (.Attribute e "values" apos) [] [] cpos) X.env) :: starEach [] X.env := by rfl) :
    PE X (.Call (.Name "list" p) [.Call (.Attribute e "values" apos) [] [] cpos] [] pos) (tListVals te) := by
  refine ⟨fun pins s σ H Q I hq => ?_⟩
  refine wpAny_Call_Name_kw (ld_blt I hg hm hv ?_)
  refine PyProof.Rows.callWith_type1 ?_ hs rfl
  rw [hs]
  show wpAny _ _ (spliced ((false, eval (.Call (.Attribute e "values" apos) [] [] cpos) X.env) :: backTo pos (starEach [] X.env))) _ _ s
  refine Calls.spliced_cons ?_
  refine wpAny_Call_method (T := "dict") (id := "dict.values") hbase rfl hline PySem.F.plainAttrs_dict PySem.F.slot_dict_values PySem.F.type_dict_values (thn ((peCl he).run pins s σ H _ I ⟨_, hq, fun _ _ z => z⟩) fun u s1 ⟨x, H1, I1, rx, q⟩ => ?_)
  dsimp only at q
  split at q
  · rename_i d
    split at q
    · rename_i kvs hd
      obtain rfl : u = Value.ref d := rx
      obtain ⟨hz, hs0, vs, kv, hdo⟩ := I1.hok d _ hd
      obtain ⟨ep, hat⟩ := hdo.dictAt
      have lk : kvs.length = vs.length := Paired.length kv
      have I2 : Inv X pins σ H1 { s1 with heap := s1.heap.push { cls := .type "dict_values", data := .fields #[.ref d] } } := I1.kept (t' := s1.toks) fun b ob q => Heap.get?_push_of_some _ q
      refine ⟨hdo.typeIs, hdo.mapOf.noDict, ?_⟩
      show wpAny _ _ (callWith cpos (.builtin "dict.values") [.ref d] [] []) _ X.xe s1
      refine method_meetsIn PySem.F.slot_dict_values PySem.F.entry_dict_values rfl (PySem.evalArgs_none ⟨rfl, hdo.typeIs, PySem.F.args_dict_values_1 _, _, meets_dict_values (mixKind X.prog X.w) d hs0, ⟨vs, hdo⟩, ?_⟩)
      refine Calls.spliced_nil ?_
      refine PySem.W.kdl_call (PySem.W.kdl_values (knd := mixKind X.prog X.w) (kvs := vs) (ep := ep)) (I1.ok.hd hc) ⟨⟨_, Heap.get?_push_size _ rfl, rfl, rfl⟩, hat.push _⟩ (by omega) fun h' tk acc c' hk hD hacc => ?_
      have ev : acc.toList = vs.map (·.2) := PySem.W.kdl_vals_eq acc.toList (by rw [Array.length_toList]; exact hacc.1) fun j v e => hacc.2 j v (by rw [← Array.getElem?_toList]; exact e)
      have fr := I2.hok.fresh (Nat.le_refl _)
      refine ⟨.ref _, upd H1 _ (.lst (kvs.map (·.2))), I2.laid (t' := tk) hk (Nat.le_refl _)
        (show ObjOk X.prog X.w _ _ _ (.lst (kvs.map (·.2))) from ⟨by rw [List.length_map]; exact hz, acc.toList, c', by rw [ev]; exact vals_of_kv kv, by rw [Array.toArray_toList]; exact hD⟩), rfl, q _ fr⟩
    · exact q.elim
  · exact q.elim
end
/-- l.index(y) of flat items -/
noncomputable def rIndexU (K : PySem.W.Frag) : V → List V → Hp → VK → Prop := fun x xs H Q => match x, xs with
  | .ref p, [y] => (match lstv K H p with
    | some ys => ∃ j z, flatV y = true ∧ ys.all flatV = true ∧ ys[j]? = some z ∧ eqV z y = true ∧ (∀ m z', m < j → ys[m]? = some z' → eqV z' y = false) ∧ Q (.int (j : Nat)) H
    | none => False)
  | _, _ => False
section
variable {X : Cx} {o e : Expr} {es : List Expr} {to : TE} {t : TA} {apos pos : Pos}
theorem pe_lindex (ho : PE X o to) (ha : PA X (e :: es) t)
    (hb : attributeBase o "index" X.env (eval o X.env) = eval o X.env := by rfl)
    (hf : ((backTo pos (starEach (e :: es) X.env)).all (fun x => !x.1) && (backToKw pos (keywordEach [] X.env)).all (fun x => x.1.isSome) && decide ((e :: es).length + ([] : List Keyword).length + (if ([] : List Keyword).isEmpty then 0 else 1) < 30)) = true := by rfl)
    (hl : (apos.endLine == pos.line) = true := by rfl) (hs : starEach (e :: es) X.env = (false, eval e X.env) :: starEach es X.env := by rfl) (hp : (backTo pos (starEach es X.env)).any (·.1) = false := by rfl) :
    PE X (.Call (.Attribute o "index" apos) (e :: es) [] pos) (tML X.K (rIndexU X.K) to t) := pe_ml PySem.F.slot_list_index PySem.F.type_list_index (mtImp mt_index fun x xs H Q q => by
      unfold rIndexU at q
      split at q
      · split at q
        · obtain ⟨j, z, h1, h2, h3, h4, h5, q⟩ := q
          exact ⟨_, _, _, j, z, rfl, rfl, lstv_sq ‹_›, h1, h2, h3, h4, h5, q⟩
        · exact q.elim
      · exact q.elim) ho ha hb hf hl hs hp
end
def rIsNB : R2 := fun x y H Q => match x, y with
  | .bl a, .bl b => Q (.bl (!decide (a = b))) H
  | _, _ => False
theorem u_isNB {X : Cx} : OpR X (compareOp .IsNot) rIsNB := opImp op_isnot_bl fun x y H Q q => by
  cases x <;> cases y <;> first | exact q.elim | exact ⟨_, _, rfl, rfl, q⟩
theorem rIsNB_e {a b : Bool} {H : Hp} {Q : VK} : rIsNB (.bl a) (.bl b) H Q = Q (.bl (!decide (a = b))) H := rfl
def rIsBB : R2 := fun x y H Q => match x, y with
  | .bl a, .bl b => Q (.bl (decide (a = b))) H
  | _, _ => False
theorem u_isBB {X : Cx} : OpR X (compareOp .Is) rIsBB := opImp op_is_bl fun x y H Q q => by
  cases x <;> cases y <;> first | exact q.elim | exact ⟨_, _, rfl, rfl, q⟩
theorem rIsBB_e {a b : Bool} {H : Hp} {Q : VK} : rIsBB (.bl a) (.bl b) H Q = Q (.bl (decide (a = b))) H := rfl
theorem bt_ValueError : bootBuiltins "ValueError" = some (.type "ValueError") := by decide +kernel
theorem rIsX_t {K : PySem.W.Frag} {a C d : Addr} {T : String} {fs : List (Str × V)} {b : Bool} {H : Hp} {Q : VK} (hd : H d = some (.xd fs)) (hx : ExcC K C) (hk : PySem.W.kitOne K (.ref C) (.type T) = some b) (q : Q (.bl b) H) : rIsX K a (.ref C) (some d) [.ref a, .ty T] H Q := by
  refine ⟨rfl, C, d, fs, rfl, rfl, hd, hx, ?_⟩
  rw [hk]
  exact q
end R

/-! C: plain classes: methods, making, fields; targets that are tuples. -/
namespace R
open PySem PySem.Spec PyProof.Rows L2
/-- the method m of the class at C keeps its promise -/
structure MtE (P : Program) (w : World) (K : PySem.W.Frag) (mg : Str → Option Value) (base : Heap) (CX : CXT) (C : Addr) (m : Str) (k : Nat) (ps : List Str) (sp : Sp) : Prop where
  ex : ∃ f fd, Cls K C ∧ Meth K C m f ∧ Binds K fd ps [] ∧ FnOk P w K mg base CX k f fd ps sp
/-- the class of that name is made by its __init__ -/
structure MkC (P : Program) (w : World) (K : PySem.W.Frag) (mg : Str → Option Value) (base : Heap) (CX : CXT) (x : Str) (C : Addr) (k : Nat) (ps : List Str) (sp : Sp) : Prop where
  ex : ∃ f fd, Mk K C f ∧ mg x = some (.ref C) ∧ Binds K fd ps [] ∧ FnOk P w K mg base CX k f fd ps sp
/-- o.m(..) -/
def tMtC (C : Addr) (m : Str) (sp : Sp) (E : L2.St → XK) (ta : TE) (t : TA) : TE := fun σ H Q => ta σ H fun x H1 => match x with
  | .ref a => (match H1 a with
    | some (.ins C' dx fs) => C' = C ∧ fs.lookup m = none ∧ t σ H1 fun vs H2 => sp (.ref a :: vs) H2 Q (E σ)
    | _ => False)
  | _ => False
theorem tMtC_e {C : Addr} {m : Str} {sp : Sp} {E : L2.St → XK} {ta : TE} {t : TA} {σ : L2.St} {H : Hp} {Q : VK} : tMtC C m sp E ta t σ H Q = ta σ H fun x H1 => match x with
  | .ref a => (match H1 a with
    | some (.ins C' dx fs) => C' = C ∧ fs.lookup m = none ∧ t σ H1 fun vs H2 => sp (.ref a :: vs) H2 Q (E σ)
    | _ => False)
  | _ => False := rfl
/-- what is let out, at the slots -/
abbrev EW (W : WX) : L2.St → XK := fun σ cls d H => W cls d σ H
section
variable {X : Cx} {CX : CXT} {k : Nat} {C : Addr} {m x : Str} {ps : List Str} {sp : Sp} {E : L2.St → XK} {p pos apos : Pos} {o e : Expr} {es : List Expr} {ta : TE} {t : TA}
theorem passAll {X : Cx} {E : L2.St → XK} : ∀ σ, PassesAt CX0 X σ (E σ) := fun _ _ _ _ _ _ _ h => h.elim
theorem passW {X : Cx} {W : WX} (tk : Takes X W) : ∀ σ, PassesAt (L2.CX X.prog X.w) X σ (EW W σ) := fun σ => passAt tk σ
theorem pe_mtC {pl : Sem Bool} (M : MtE X.prog X.w X.K X.mg X.base CX C m k ps sp) (hr : Room k X.A) (hx : ∀ σ, PassesAt CX X σ (E σ)) (he : PE X o ta) (ha : PA X (e :: es) t)
    (hst : starEach (e :: es) X.env = (false, eval e X.env) :: starEach es X.env := by rfl) (hpl : (backTo pos (starEach es X.env)).any (·.1) = false := by rfl)
    (ht : eval (.Call (.Attribute o m apos) (e :: es) [] pos) X.env = (do
      let ov ← eval o X.env
      standAt apos.atName
      let (f, first) ← holding [ov] (getMethod ov m pl)
      callWith pos f first (backTo pos (starEach (e :: es) X.env)) (backToKw pos (keywordEach [] X.env))) := by rfl) :
    PE X (.Call (.Attribute o m apos) (e :: es) [] pos) (tMtC C m sp E ta t) := by
  obtain ⟨f, fd, c, hm, hb, F⟩ := M.ex
  refine ⟨fun pins s σ H Q I h => ?_⟩
  refine PySem.W.methodCall_KW (pl := pl) (thn ((peCl he).run pins s σ H _ I ⟨_, h, fun _ _ z => z⟩) fun u s1 ⟨x, H1, I1, rx, q⟩ => ?_) ht
  dsimp only at q
  split at q
  · rename_i a
    split at q
    · rename_i C' dx fs ea
      obtain ⟨rfl, l, q⟩ := q
      obtain rfl : u = Value.ref a := rx
      refine getmeth_ok I1 ea c hm l ?_
      refine PySem.W.callWith_K (first := [.ref a]) (h₀ := X.base) I.ok.mod.kin hm.kp (thn (ha.run pos pins s1 σ H1 _ I1 q) fun us s2 ⟨vs, H2, I2, r, q2⟩ => ⟨I2.kIn, ?_⟩) hst hpl
      exact run_fnS (us := .ref a :: us) (vs := .ref a :: vs) F hr hb (hx σ) I2 (.cons rfl r) q2
    · exact q.elim
  · exact q.elim
theorem pe_mtC0 {pl : Sem Bool} (M : MtE X.prog X.w X.K X.mg X.base CX C m k ps sp) (hr : Room k X.A) (hx : ∀ σ, PassesAt CX X σ (E σ)) (he : PE X o ta)
    (ht : eval (.Call (.Attribute o m apos) [] [] pos) X.env = (do
      let ov ← eval o X.env
      standAt apos.atName
      let (f, first) ← holding [ov] (getMethod ov m pl)
      callWith pos f first (backTo pos (starEach [] X.env)) (backToKw pos (keywordEach [] X.env))) := by rfl) :
    PE X (.Call (.Attribute o m apos) [] [] pos) (tMtC C m sp E ta tNil) := by
  obtain ⟨f, fd, c, hm, hb, F⟩ := M.ex
  refine ⟨fun pins s σ H Q I h => ?_⟩
  refine PySem.W.methodCall_KW (pl := pl) (thn ((peCl he).run pins s σ H _ I ⟨_, h, fun _ _ z => z⟩) fun u s1 ⟨x, H1, I1, rx, q⟩ => ?_) ht
  dsimp only at q
  split at q
  · rename_i a
    split at q
    · rename_i C' dx fs ea
      obtain ⟨rfl, l, q⟩ := q
      obtain rfl : u = Value.ref a := rx
      refine getmeth_ok I1 ea c hm l ?_
      exact PySem.W.callWith_K0 (first := [.ref a]) I1.kIn hm.kp (run_fnS (us := [.ref a]) (vs := [.ref a]) F hr hb (hx σ) I1 (.cons rfl .nil) q)
    · exact q.elim
  · exact q.elim
/-- C(..) -/
theorem pe_mkC (M : MkC X.prog X.w X.K X.mg X.base CX0 x C k ps sp) (hr : Room (k + 1) X.A) (hg : Gl X x) (ha : PA X (e :: es) t)
    (hdb : (x == ("__debug__" : Str)) = false := by decide) (he : starEach (e :: es) X.env = (false, eval e X.env) :: starEach es X.env := by rfl) (hpl : (backTo pos (starEach es X.env)).any (·.1) = false := by rfl) :
    PE X (.Call (.Name x p) (e :: es) [] pos) (tMake C sp [] E0 t) := by
  obtain ⟨f, fd, M, hm, hb, F⟩ := M.ex
  exact pe_make M F hr hg hm hb .nil pass0 ha hdb he hpl
theorem pe_mkC0 (M : MkC X.prog X.w X.K X.mg X.base CX0 x C k ps sp) (hr : Room (k + 1) X.A) (hg : Gl X x) (hdb : (x == ("__debug__" : Str)) = false := by decide) :
    PE X (.Call (.Name x p) [] [] pos) (tMake C sp [] E0 tNil) := by
  obtain ⟨f, fd, M, hm, hb, F⟩ := M.ex
  exact pe_make0 M F hr hg hm hb .nil pass0 hdb
end
/-! ### fields -/
def tFldC (C : Addr) (f : Str) (ta : TE) : TE := fun σ H Q => ta σ H fun x H1 => match x with
  | .ref a => (match H1 a with
    | some (.ins C' dx fs) => C' = C ∧ (match fs.lookup f with
      | some v => Q v H1
      | none => False)
    | _ => False)
  | _ => False
def sFldC (C : Addr) (f : Str) (ta tv : TE) : TS := fun D σ H => tv σ H fun y H1 => ta σ H1 fun x H2 => match x with
  | .ref a => (match H2 a with
    | some (.ins C' dx fs) => C' = C ∧ fs.length < 1000 ∧ D.nx σ (upd H2 a (.ins C' dx (putF f y fs)))
    | _ => False)
  | _ => False
def sFldAC (C : Addr) (f : Str) (ta tv : TE) (rd : R2) : TS := fun D σ H => ta σ H fun x H1 => match x with
  | .ref a => (match H1 a with
    | some (.ins C' dx fs) => C' = C ∧ (match fs.lookup f with
      | some v => tv σ H1 fun y H2 => rd v y H2 fun z H3 => (match H3 a with
        | some (.ins C2 dx' fs') => C2 = C ∧ fs'.length < 1000 ∧ D.nx σ (upd H3 a (.ins C2 dx' (putF f z fs')))
        | _ => False)
      | none => False)
    | _ => False)
  | _ => False
section
variable {X : Cx} {C : Addr} {o e value : Expr} {f : Str} {pos pos' tpos : Pos} {ta tv : TE}
theorem pe_fldC (c : Cls X.K C) (n : NoAttr X.K C f) (he : PE X e ta) (hb : attributeBase e f X.env (eval e X.env) = eval e X.env := by rfl) : PE X (.Attribute e f pos) (tFldC C f ta) :=
  peImp (pe_fld (peCl he) hb) fun σ H Q q0 => ⟨_, q0, fun x H1 q => by
    split at q
    · split at q
      · obtain ⟨rfl, q⟩ := q
        split at q
        · exact ⟨_, _, _, _, _, rfl, ‹_›, c, n, ‹_›, q⟩
        · exact q.elim
      · exact q.elim
    · exact q.elim⟩
theorem psImp {st : Stmt} {t t' : TS} (h : PS X st t) (i : ∀ D σ H, t' D σ H → t D σ H) : PS X st t' := ⟨fun pins s σ H D I q => h.run pins s σ H D I (i _ _ _ q)⟩
theorem ps_fldC (c : Cls X.K C) (n : NoAttr X.K C f) (ha : PE X o ta) (hv : PE X value tv) (hs : swapsWith value (some (.Attribute o f pos')) pos.line X.env = pure false := by rfl) : PS X (.Assign [.Attribute o f pos'] value pos) (sFldC C f ta tv) :=
  psImp (ps_fld (peCl ha) (peCl hv) hs) fun D σ H q0 => ⟨_, q0, fun y H1 q1 => ⟨_, q1, fun x H2 q => by
    split at q
    · split at q
      · obtain ⟨rfl, l, q⟩ := q
        exact ⟨_, _, _, _, rfl, ‹_›, c, n, l, q⟩
      · exact q.elim
    · exact q.elim⟩⟩
theorem in_of {op : Operator} {r : R2} (h : OpR X (inplaceOp op) r) : InOp X op r := fun pins s σ H x y u v Q I rx ry q => h pins s σ H x y u v Q I rx ry q
/-- a rule's reading closed upward -/
def clR (r : R2) : R2 := fun x y H Q => ∃ Q0 : VK, r x y H Q0 ∧ ∀ v H', Q0 v H' → Q v H'
theorem op_cl {g : Value → Value → Sem Value} {r : R2} (h : OpR X g r) : OpR X g (clR r) := fun pins s σ H x y u v Q I rx ry ⟨Q0, q, m⟩ =>
  thn (h pins s σ H x y u v Q0 I rx ry q) fun _ _ ⟨v, H', I', r, q'⟩ => ⟨v, H', I', r, m _ _ q'⟩
theorem ps_fldAC {op : Operator} {rd : R2} (c : Cls X.K C) (n : NoAttr X.K C f) (ha : PE X o ta) (hv : PE X value tv) (hop : OpR X (inplaceOp op) rd) : PS X (.AugAssign (.Attribute o f tpos) op value pos) (sFldAC C f ta tv rd) :=
  psImp (ps_fldaug (peCl ha) (peCl hv) (in_of (op_cl hop))) fun D σ H q0 => ⟨_, q0, fun x H1 q => by
    split at q
    · split at q
      · obtain ⟨rfl, q⟩ := q
        split at q
        · refine ⟨_, _, _, _, _, rfl, ‹_›, c, n, ‹_›, _, q, fun y H2 q2 => ⟨_, q2, fun z H3 q => ?_⟩⟩
          split at q
          · obtain ⟨rfl, l, q⟩ := q
            exact ⟨_, _, ‹_›, l, q⟩
          · exact q.elim
        · exact q.elim
      · exact q.elim
    · exact q.elim⟩
end
/-! ### targets that are tuples -/
noncomputable def gTupU (K : PySem.W.Frag) (n : Nat) (t : TGs) : TG := fun v σ H Q => match v with
  | .ref a => (match tupv K H a with
    | some xs => xs.length = n ∧ t xs σ H Q
    | none => False)
  | _ => False
theorem pgImp {X : Cx} {e : Expr} {t t' : TG} (h : PG X e t) (i : ∀ v σ H Q, t' v σ H Q → t v σ H Q) : PG X e t' := ⟨fun pins s σ H v u Q I r q => h.run pins s σ H v u Q I r (i _ _ _ _ q)⟩
theorem pg_tupU {X : Cx} {pos : Pos} {es : List Expr} {k : Nat} {t : TGs} {n : Nat} (hc : X.calm = true) (h : PGs X es t)
    (hn : (assignEach es X.env).length = n := by rfl) (hst : (assignEach es X.env).findIdx? (·.1) = none := by rfl) : PG X (.Tuple es k pos) (gTupU X.K n t) := pgImp (pg_tup hc h hn hst) fun v σ H Q q => by
  unfold gTupU at q
  split at q
  · split at q
    · exact ⟨_, _, rfl, tupv_sq ‹_›, q.1, q.2⟩
    · exact q.elim
  · exact q.elim
theorem gCons_e {t : TG} {u : TGs} {v : V} {r : List V} {σ : L2.St} {H : Hp} {Q : L2.St → Hp → Prop} : gCons t u (v :: r) σ H Q = t v σ H fun σ' H' => u r σ' H' Q := propext ⟨fun ⟨_, _, e, q⟩ => by cases e; exact q, fun q => ⟨_, _, rfl, q⟩⟩
theorem gNil_e {σ : L2.St} {H : Hp} {Q : L2.St → Hp → Prop} : gNil [] σ H Q = Q σ H := propext ⟨fun q => q.2, fun q => ⟨rfl, q⟩⟩
/-! ### more built-ins -/
noncomputable def rTupOf (K : PySem.W.Frag) : List V → Hp → VK → Prop := fun xs H Q => match xs with
  | [.ref p] => (match lstv K H p with
    | some ys => Nw H (.tup ys) Q
    | none => (match tupv K H p with
      | some _ => Q (.ref p) H
      | none => False))
  | _ => False
theorem c_tuple {X : Cx} : CallR X (.type "tuple") (rTupOf X.K) := callImp call_tuple_of fun xs H Q q => by
  unfold rTupOf at q
  split at q
  · split at q
    · exact ⟨_, _, rfl, .inl ⟨lstv_sq ‹_›, q⟩⟩
    · split at q
      · exact ⟨_, _, rfl, .inr ⟨tupv_sq ‹_›, q⟩⟩
      · exact q.elim
  · exact q.elim
def rStrI : List V → Hp → VK → Prop := fun xs H Q => match xs with
  | [.int i] => i.natAbs.log2 < 1920 ∧ Q (.str (toString i)) H
  | _ => False
theorem c_strI {X : Cx} : CallR X (.type "str") rStrI := callImp call_str_int fun xs H Q q => by
  unfold rStrI at q
  split at q
  · exact ⟨_, rfl, q.1, q.2⟩
  · exact q.elim
theorem rStrI_int {i : Int} {H : Hp} {Q : VK} : rStrI [.int i] H Q = (i.natAbs.log2 < 1920 ∧ Q (.str (toString i)) H) := rfl
theorem tDNewK_e {σ : L2.St} {H : Hp} {Q : VK} : tDNewK σ H Q = Nw H (.dK []) Q := rfl
def rPopU : V → List V → Hp → VK → Prop := fun x vs H Q => match x, vs with
  | .ref l, [] => (match H l with
    | some (.lst xs) => (match xs[xs.length - 1]? with
      | some y => Q y (upd H l (.lst xs.dropLast))
      | none => False)
    | _ => False)
  | _, _ => False
def rPopA : V → List V → Hp → VK → Prop := fun x vs H Q => match x, vs with
  | .ref l, [.int i] => (match H l with
    | some (.lst xs) => -(2 ^ 63) ≤ i ∧ i < 2 ^ 63 ∧ (match seqIndex? i xs.length with
      | some k => (match xs[k]? with
        | some y => Q y (upd H l (.lst (xs.eraseIdx k)))
        | none => False)
      | none => False)
    | _ => False)
  | _, _ => False
def rExtU : V → List V → Hp → VK → Prop := fun x vs H Q => match x, vs with
  | .ref l, [.ref b] => (match H l, H b with
    | some (.lst xs), some (.lst zs) => xs.length + zs.length ≤ sizeLine ∧ Q .non (upd H l (.lst (xs ++ zs)))
    | _, _ => False)
  | _, _ => False
def rRevU : V → List V → Hp → VK → Prop := fun x vs H Q => match x, vs with
  | .ref l, [] => (match H l with
    | some (.lst xs) => Q .non (upd H l (.lst xs.reverse))
    | _ => False)
  | _, _ => False
def rInsU : V → List V → Hp → VK → Prop := fun x vs H Q => match x, vs with
  | .ref l, [.int i, y] => (match H l with
    | some (.lst xs) => xs.length < sizeLine ∧ 0 ≤ i ∧ i < 2 ^ 63 ∧ Q .non (upd H l (.lst (xs.take i.toNat ++ [y] ++ xs.drop i.toNat)))
    | _ => False)
  | _, _ => False
section
variable {X : Cx}
theorem m_popU : MtR X "list.pop" rPopU := mtImp mt_pop fun x vs H Q q => by
  unfold rPopU at q
  split at q
  · split at q
    · split at q
      · exact ⟨_, _, _, rfl, rfl, ‹_›, ‹_›, q⟩
      · exact q.elim
    · exact q.elim
  · exact q.elim
theorem m_popA : MtR X "list.pop" rPopA := mtImp mt_popAt fun x vs H Q q => by
  unfold rPopA at q
  split at q
  · split at q
    · obtain ⟨h1, h2, q⟩ := q
      split at q
      · split at q
        · exact ⟨_, _, _, _, _, rfl, rfl, ‹_›, h1, h2, ‹_›, ‹_›, q⟩
        · exact q.elim
      · exact q.elim
    · exact q.elim
  · exact q.elim
theorem m_extU : MtR X "list.extend" rExtU := mtImp mt_extend fun x vs H Q q => by
  unfold rExtU at q
  split at q
  · split at q
    · exact ⟨_, _, _, _, rfl, rfl, ‹_›, ‹_›, q.1, q.2⟩
    · exact q.elim
  · exact q.elim
theorem m_revU : MtR X "list.reverse" rRevU := mtImp mt_reverse fun x vs H Q q => by
  unfold rRevU at q
  split at q
  · split at q
    · exact ⟨_, _, rfl, rfl, ‹_›, q⟩
    · exact q.elim
  · exact q.elim
theorem m_insU : MtR X "list.insert" rInsU := mtImp mt_insert fun x vs H Q q => by
  unfold rInsU at q
  split at q
  · split at q
    · exact ⟨_, _, _, _, rfl, rfl, ‹_›, q.1, q.2.1, q.2.2.1, q.2.2.2⟩
    · exact q.elim
  · exact q.elim
def rSplitU : V → List V → Hp → VK → Prop := fun x xs H Q => match x, xs with
  | .str a, [.str b] => (b.length == 0) = false ∧ a.length + 2 ≤ sizeLine ∧ Nw H (.lst ((Txt.split a b).map V.str)) Q
  | _, _ => False
theorem m_splitU : MtR X "str.split" rSplitU := mtImp mt_split fun x xs H Q q => by
  unfold rSplitU at q
  split at q
  · exact ⟨_, _, rfl, rfl, q.1, q.2.1, q.2.2⟩
  · exact q.elim
def rStarts : V → List V → Hp → VK → Prop := fun x xs H Q => match x, xs with
  | .str a, [.str b] => Q (.bl (Txt.startswith a b)) H
  | _, _ => False
theorem m_starts : MtR X "str.startswith" rStarts := mtImp mt_startswith fun x xs H Q q => by
  unfold rStarts at q
  split at q
  · exact ⟨_, _, rfl, rfl, q⟩
  · exact q.elim
def rLowU : V → List V → Hp → VK → Prop := fun x xs H Q => match x, xs with
  | .str a, [] => a.length ≤ 5592405 ∧ Q (.str (Txt.lower a)) H
  | _, _ => False
theorem m_lowU : MtR X "str.lower" rLowU := mtImp mt_lower fun x xs H Q q => by
  unfold rLowU at q
  split at q
  · exact ⟨_, rfl, rfl, q.1, q.2⟩
  · exact q.elim
def rUppU : V → List V → Hp → VK → Prop := fun x xs H Q => match x, xs with
  | .str a, [] => a.length ≤ 5592405 ∧ Q (.str (Txt.upper a)) H
  | _, _ => False
theorem m_uppU : MtR X "str.upper" rUppU := mtImp mt_upper fun x xs H Q q => by
  unfold rUppU at q
  split at q
  · exact ⟨_, rfl, rfl, q.1, q.2⟩
  · exact q.elim
def rDigU : V → List V → Hp → VK → Prop := fun x xs H Q => match x, xs with
  | .str a, [] => Q (.bl (Txt.isdigit a)) H
  | _, _ => False
theorem m_digU : MtR X "str.isdigit" rDigU := mtImp mt_isdigit fun x xs H Q q => by
  unfold rDigU at q
  split at q
  · exact ⟨_, rfl, rfl, trivial, q⟩
  · exact q.elim
variable {o e : Expr} {es : List Expr} {to : TE} {t : TA} {apos pos : Pos}
theorem pe_lpop0 (ho : PE X o to) (hb : attributeBase o "pop" X.env (eval o X.env) = eval o X.env := by rfl) (hl : (apos.endLine == pos.line) = true := by rfl) :
    PE X (.Call (.Attribute o "pop" apos) [] [] pos) (tML X.K rPopU to tNil) := pe_ml0 PySem.F.slot_list_pop PySem.F.type_list_pop m_popU ho hb hl
theorem pe_lpop1 (ho : PE X o to) (ha : PA X (e :: es) t)
    (hb : attributeBase o "pop" X.env (eval o X.env) = eval o X.env := by rfl)
    (hf : ((backTo pos (starEach (e :: es) X.env)).all (fun x => !x.1) && (backToKw pos (keywordEach [] X.env)).all (fun x => x.1.isSome) && decide ((e :: es).length + ([] : List Keyword).length + (if ([] : List Keyword).isEmpty then 0 else 1) < 30)) = true := by rfl)
    (hl : (apos.endLine == pos.line) = true := by rfl) (hs : starEach (e :: es) X.env = (false, eval e X.env) :: starEach es X.env := by rfl) (hp : (backTo pos (starEach es X.env)).any (·.1) = false := by rfl) :
    PE X (.Call (.Attribute o "pop" apos) (e :: es) [] pos) (tML X.K rPopA to t) := pe_ml PySem.F.slot_list_pop PySem.F.type_list_pop m_popA ho ha hb hf hl hs hp
theorem pe_lext (ho : PE X o to) (ha : PA X (e :: es) t)
    (hb : attributeBase o "extend" X.env (eval o X.env) = eval o X.env := by rfl)
    (hf : ((backTo pos (starEach (e :: es) X.env)).all (fun x => !x.1) && (backToKw pos (keywordEach [] X.env)).all (fun x => x.1.isSome) && decide ((e :: es).length + ([] : List Keyword).length + (if ([] : List Keyword).isEmpty then 0 else 1) < 30)) = true := by rfl)
    (hl : (apos.endLine == pos.line) = true := by rfl) (hs : starEach (e :: es) X.env = (false, eval e X.env) :: starEach es X.env := by rfl) (hp : (backTo pos (starEach es X.env)).any (·.1) = false := by rfl) :
    PE X (.Call (.Attribute o "extend" apos) (e :: es) [] pos) (tML X.K rExtU to t) := pe_ml PySem.F.slot_list_extend PySem.F.type_list_extend m_extU ho ha hb hf hl hs hp
theorem pe_lrev (ho : PE X o to) (hb : attributeBase o "reverse" X.env (eval o X.env) = eval o X.env := by rfl) (hl : (apos.endLine == pos.line) = true := by rfl) :
    PE X (.Call (.Attribute o "reverse" apos) [] [] pos) (tML X.K rRevU to tNil) := pe_ml0 PySem.F.slot_list_reverse PySem.F.type_list_reverse m_revU ho hb hl
theorem pe_lins (ho : PE X o to) (ha : PA X (e :: es) t)
    (hb : attributeBase o "insert" X.env (eval o X.env) = eval o X.env := by rfl)
    (hf : ((backTo pos (starEach (e :: es) X.env)).all (fun x => !x.1) && (backToKw pos (keywordEach [] X.env)).all (fun x => x.1.isSome) && decide ((e :: es).length + ([] : List Keyword).length + (if ([] : List Keyword).isEmpty then 0 else 1) < 30)) = true := by rfl)
    (hl : (apos.endLine == pos.line) = true := by rfl) (hs : starEach (e :: es) X.env = (false, eval e X.env) :: starEach es X.env := by rfl) (hp : (backTo pos (starEach es X.env)).any (·.1) = false := by rfl) :
    PE X (.Call (.Attribute o "insert" apos) (e :: es) [] pos) (tML X.K rInsU to t) := pe_ml PySem.F.slot_list_insert PySem.F.type_list_insert m_insU ho ha hb hf hl hs hp
theorem pe_ssplit (ho : PE X o to) (ha : PA X (e :: es) t)
    (hb : attributeBase o "split" X.env (eval o X.env) = eval o X.env := by rfl)
    (hf : ((backTo pos (starEach (e :: es) X.env)).all (fun x => !x.1) && (backToKw pos (keywordEach [] X.env)).all (fun x => x.1.isSome) && decide ((e :: es).length + ([] : List Keyword).length + (if ([] : List Keyword).isEmpty then 0 else 1) < 30)) = true := by rfl)
    (hl : (apos.endLine == pos.line) = true := by rfl) (hs : starEach (e :: es) X.env = (false, eval e X.env) :: starEach es X.env := by rfl) (hp : (backTo pos (starEach es X.env)).any (·.1) = false := by rfl) :
    PE X (.Call (.Attribute o "split" apos) (e :: es) [] pos) (tMS rSplitU to t) := pe_ms PySem.F.plainAttrs_str PySem.F.slot_str_split PySem.F.type_str_split m_splitU ho ha hb hf hl hs hp
theorem pe_sstarts (ho : PE X o to) (ha : PA X (e :: es) t)
    (hb : attributeBase o "startswith" X.env (eval o X.env) = eval o X.env := by rfl)
    (hf : ((backTo pos (starEach (e :: es) X.env)).all (fun x => !x.1) && (backToKw pos (keywordEach [] X.env)).all (fun x => x.1.isSome) && decide ((e :: es).length + ([] : List Keyword).length + (if ([] : List Keyword).isEmpty then 0 else 1) < 30)) = true := by rfl)
    (hl : (apos.endLine == pos.line) = true := by rfl) (hs : starEach (e :: es) X.env = (false, eval e X.env) :: starEach es X.env := by rfl) (hp : (backTo pos (starEach es X.env)).any (·.1) = false := by rfl) :
    PE X (.Call (.Attribute o "startswith" apos) (e :: es) [] pos) (tMS rStarts to t) := pe_ms PySem.F.plainAttrs_str PySem.F.slot_str_startswith PySem.F.type_str_startswith m_starts ho ha hb hf hl hs hp
theorem pe_slow (ho : PE X o to) (hb : attributeBase o "lower" X.env (eval o X.env) = eval o X.env := by rfl) (hl : (apos.endLine == pos.line) = true := by rfl) :
    PE X (.Call (.Attribute o "lower" apos) [] [] pos) (tMS rLowU to tNil) := pe_ms0 PySem.F.plainAttrs_str PySem.F.slot_str_lower PySem.F.type_str_lower m_lowU ho hb hl
theorem pe_supp (ho : PE X o to) (hb : attributeBase o "upper" X.env (eval o X.env) = eval o X.env := by rfl) (hl : (apos.endLine == pos.line) = true := by rfl) :
    PE X (.Call (.Attribute o "upper" apos) [] [] pos) (tMS rUppU to tNil) := pe_ms0 PySem.F.plainAttrs_str PySem.F.slot_str_upper PySem.F.type_str_upper m_uppU ho hb hl
theorem pe_sdig (ho : PE X o to) (hb : attributeBase o "isdigit" X.env (eval o X.env) = eval o X.env := by rfl) (hl : (apos.endLine == pos.line) = true := by rfl) :
    PE X (.Call (.Attribute o "isdigit" apos) [] [] pos) (tMS rDigU to tNil) := pe_ms0 PySem.F.plainAttrs_str PySem.F.slot_str_isdigit PySem.F.type_str_isdigit m_digU ho hb hl
end
/-! ### dicts walked by their keys -/
theorem lock_same {H H' : Hp} {d : Addr} {kvs : List (Key × V)} {od : Obj} (hd : H d = some (.dK kvs)) (s : Same (upd H d (.frz od (.dK kvs))) H') : Same H (upd H' d (.dK kvs)) := fun b o e => by
  by_cases hb : b = d
  · rw [hb, upd_same, ← hd, ← hb, e]
  · rw [upd_ne hb]
    exact s _ _ (by rw [upd_ne hb]; exact e)
/-- [.. for k in d] -/
theorem lockLc {td : TE} {g : TG} {tt : TT} {te : TE} {vs : List Nat} {σ : L2.St} {H : Hp} {Q : VK} {d : Addr} {kvs : List (Key × V)} (hd : H d = some (.dK kvs)) (F : V → Option V) (hz : kvs.length ≤ sizeLine)
    (htd : ∀ od (R : V → Hp → Prop), R (.ref d) (upd H d (.frz od (.dK kvs))) → td σ (upd H d (.frz od (.dK kvs))) R)
    (step : ∀ od, ∀ kv ∈ kvs, ∀ H', Same (upd H d (.frz od (.dK kvs))) H' → ∀ (Qy : VK) (Qn : Hp → Prop), (∀ y, F (kV kv.1) = some y → ∀ H'', Same H' H'' → Qy y H'') → (F (kV kv.1) = none → ∀ H'', Same H' H'' → Qn H'') → LTurn g tt te vs σ (kV kv.1) H' Qy Qn)
    (hq : ∀ p H', H p = none → Same H H' → H' p = some (.lst (kvs.filterMap fun kv => F (kV kv.1))) → Q (.ref p) H') : tLockE (tLcU (iKeys td) g tt te vs) σ H Q := by
  refine ⟨d, .dK kvs, hd, True.intro, fun od => htd od _ ⟨d, od, rfl, .inl ⟨kvs, upd_same, fun D hD => ?_⟩⟩⟩
  have hne : D ≠ d := by rintro rfl; rw [upd_same] at hD; cases hD
  refine lc_it walk_keys (fun i H' => Same (upd H d (.frz od (.dK kvs))) H' ∧ H' D = some (.lst ((kvs.take i).filterMap fun kv => F (kV kv.1)))) ⟨Same.new hD, by rw [upd_same]; rfl⟩ (fun i H' _ h => h.1 _ _ upd_same) ?_ (fun H' h => ?_)
  · rintro i x H' H'' hi ⟨h1, h2⟩ ⟨rfl, k, v, hk, rfl⟩
    have hlt : i < kvs.length := (List.getElem?_eq_some_iff.mp hk).1
    refine step od (k, v) (List.mem_of_getElem? hk) _ h1 _ _ (fun y hy H2 s2 => ?_) (fun hy H2 s2 => ?_)
    · refine ⟨_, s2 _ _ h2, Nat.lt_of_lt_of_le (filterMap_len _ kvs i hlt) hz, fun b o hb => ?_, ?_⟩
      · rw [upd_ne (ne_of_none hb hD)]
        exact s2 _ _ (h1 _ _ hb)
      · rw [upd_same, take_snoc hk, filterMap_snoc, hy]
    · refine ⟨h1.trans s2, ?_⟩
      rw [take_snoc hk, filterMap_snoc, hy, s2 _ _ h2]
      simp
  · rw [List.take_length] at h
    refine ⟨h.1 _ _ upd_same, hq D _ ?_ (lock_same hd h.1) ?_⟩
    · rw [upd_ne hne] at hD; exact hD
    · rw [upd_ne hne]; exact h.2
/-- of a promise that nobody can ask for -/
theorem fn_none {P : Program} {w : World} {K : PySem.W.Frag} {mg : Str → Option Value} {base : Heap} {CX : CXT} {k : Nat} {f : Addr} {fd : FuncData} {ps : List Str} {sp : Sp} (h : ∀ vs H Q E, sp vs H Q E → False) : FnOk P w K mg base CX k f fd ps sp :=
  ⟨fun vs H Q E q => (h vs H Q E q).elim, fun A outer s H args us vs Q E _ _ _ _ q => (h vs H Q E q).elim⟩
/-! ### int(x, 16), texts repeated -/
def rInt2 : List V → Hp → VK → Prop := fun xs H Q => rIntHex xs H Q
theorem c_int2 {X : Cx} : CallR X (.type "int") rInt2 := call_int_hex
theorem foldl_app {α : Type} (l : List (Array α)) (acc : Array α) : (l.foldl (· ++ ·) acc).toList = acc.toList ++ (l.map Array.toList).flatten := by
  induction l generalizing acc with
  | nil => simp
  | cons a l ih => rw [List.foldl_cons, ih]; simp
/-- a text times an int -/
def repS (z : Str) (k : Int) : Str := ⟨((List.replicate k.toNat z.cps.toList).flatten).toArray⟩
theorem repS_fold (z : Str) (k : Int) : (⟨(List.replicate k.toNat z.cps).foldl (· ++ ·) #[]⟩ : Str) = repS z k := Str.ext' (by
  rw [← Array.toList_inj]
  rw [foldl_app]
  simp [repS])
def rMulS : R2 := fun x y H Q => match x, y with
  | .str z, .int k => -(2 ^ 63) ≤ k ∧ k < 2 ^ 63 ∧ z.length * k.toNat ≤ sizeLine ∧ Q (.str (repS z k)) H
  | _, _ => False
theorem op_mulS {X : Cx} : OpR X (binaryOp .Mult) rMulS := by
  intro pins s σ H x y v u Q I rx ry h
  unfold rMulS at h
  split at h
  · rename_i z k
    obtain ⟨h1, h2, hz, q⟩ := h
    obtain ⟨t, rfl⟩ := rx
    obtain ⟨t2, rfl⟩ := ry
    have hl63 : sizeLine < 2 ^ 40 := by decide
    refine PySem.P.mul_str (by rw [decide_eq_false (by omega), decide_eq_false (by omega)]; rfl) (fun k1 _ => ?_) (fun k1 _ => ?_) ?_
    · have hk : 0 < k := by omega
      have e1 : (z.length : Int) * k ≤ sizeLine := by
        have : ((z.length * k.toNat : Nat) : Int) ≤ ((sizeLine : Nat) : Int) := by exact_mod_cast hz
        rw [Int.natCast_mul, Int.toNat_of_nonneg (by omega)] at this
        exact this
      have := Int.le_ediv_of_mul_le hk (show (z.length : Int) * k ≤ 2 ^ 63 - 1 by omega)
      omega
    · unfold PySem.Builtin.Str.tooLong
      simp
      omega
    · have hlen : (repS z k).length ≤ sizeLine := by
        have : (repS z k).length = z.length * k.toNat := by simp [repS, Str.length, Nat.mul_comm]
        omega
      split
      · rename_i h0
        have e : repS z k = Str.empty := by
          unfold repS
          rw [show k.toNat = 0 by omega]
          rfl
        rw [e] at q
        exact ⟨by decide, .str Str.empty, H, I.tok _, ⟨_, rfl⟩, q⟩
      · split
        · rename_i h0 h1
          have e : repS z k = z := by
            unfold repS
            simp only [Bool.or_eq_true, beq_iff_eq] at h1
            refine Str.ext' ?_
            rw [← Array.toList_inj]
            rcases h1 with h1 | h1
            · rw [show k.toNat = 1 by omega]; simp
            · have : z.cps.toList = [] := by
                have : z.cps.size = 0 := h1
                simpa using this
              rw [this]; simp
          rw [e] at q
          exact ⟨.str z, H, I, ⟨_, rfl⟩, q⟩
        · rw [repS_fold]
          exact ⟨hlen, .str _, H, I.tok _, ⟨_, rfl⟩, q⟩
  · exact h.elim
end R

/-! D: dicts of the module, keys texts. -/
namespace R
open PySem PySem.Spec PyProof.Rows L2
/-- at d: a written dict with these keys and values -/
structure KdV (K : PySem.W.Frag) (w : World) (d : Addr) (kvs : List (Str × V)) : Prop where
  ex : ∃ es n, KDict K w d es n ∧ Paired (fun (kv : Str × V) (e : DictEntry) => (∃ t, e.key = .str kv.1 t) ∧ RelV kv.2 e.val) kvs es.toList
theorem kd_find {z : Str} {kvs : List (Str × V)} {l : List DictEntry} (h : Paired (fun (kv : Str × V) (e : DictEntry) => (∃ t, e.key = .str kv.1 t) ∧ RelV kv.2 e.val) kvs l) :
    (match l.find? (·.key.isStr z) with
      | some e => ∃ v, kvs.lookup z = some v ∧ RelV v e.val
      | none => kvs.lookup z = none) ∧ l.any (·.refKey) = false := by
  induction h with
  | nil => exact ⟨rfl, rfl⟩
  | @cons p q ps qs h t ih =>
    obtain ⟨⟨tk, hk⟩, hv⟩ := h
    obtain ⟨k, v⟩ := p
    obtain ⟨hq, key, val⟩ := q
    simp only at hk hv
    subst hk
    refine ⟨?_, ?_⟩
    · rw [List.find?_cons, List.lookup_cons]
      by_cases e : k = z
      · subst e
        simp [Value.isStr]
        exact hv
      · have e1 : (Value.str k tk).isStr z = false := by simp [Value.isStr, e]
        have e2 : (z == k) = false := by simp; exact fun h => e h.symm
        simp only [e1, e2]
        exact ih.1
    · rw [List.any_cons, ih.2]
      rfl
theorem kd_look {K : PySem.W.Frag} {w : World} {d : Addr} {kvs : List (Str × V)} (D : KdV K w d kvs) (z : Str) :
    (∃ v u, kvs.lookup z = some v ∧ PySem.W.nsIn K d z = some (some u) ∧ RelV v u) ∨ (kvs.lookup z = none ∧ PySem.W.nsIn K d z = some none) := by
  obtain ⟨es, n, k, h⟩ := D.ex
  obtain ⟨h1, h2⟩ := kd_find (z := z) h
  unfold PySem.W.nsIn
  rw [k.at_]
  simp only
  split at h1
  · rename_i e he
    obtain ⟨v, hv, r⟩ := h1
    exact .inl ⟨v, e.val, hv, by rw [he], r⟩
  · rename_i he
    refine .inr ⟨h1, ?_⟩
    rw [he, h2]
    rfl
/-- x in d -/
def rInKd (kvs : List (Str × V)) (d : Addr) (neg : Bool) : R2 := fun x y H Q => match x, y with
  | .str z, .ref a => a = d ∧ Q (.bl (if neg then !(kvs.lookup z).isSome else (kvs.lookup z).isSome)) H
  | _, _ => False
/-- d[x] -/
def rIxKd (kvs : List (Str × V)) (d : Addr) : R2 := fun x y H Q => match x, y with
  | .ref a, .str z => a = d ∧ (match kvs.lookup z with
    | some v => Q v H
    | none => False)
  | _, _ => False
section
variable {X : Cx} {d : Addr} {kvs : List (Str × V)}
theorem u_inKd (D : KdV X.K X.w d kvs) : OpR X (compareOp .In) (rInKd kvs d false) := by
  intro pins s σ H x y v u Q I rx ry h
  unfold rInKd at h
  split at h
  · rename_i z a
    obtain ⟨rfl, q⟩ := h
    obtain ⟨es, n, k, _⟩ := D.ex
    refine op_in_kd k pins s σ H _ _ v u Q I rx ry ?_
    rcases kd_look D z with ⟨w, u0, e1, e2, _⟩ | ⟨e1, e2⟩
    · rw [e1] at q; exact ⟨z, _, rfl, rfl, e2, q⟩
    · rw [e1] at q; exact ⟨z, _, rfl, rfl, e2, q⟩
  · exact h.elim
theorem u_ninKd (D : KdV X.K X.w d kvs) : OpR X (compareOp .NotIn) (rInKd kvs d true) := by
  intro pins s σ H x y v u Q I rx ry h
  unfold rInKd at h
  split at h
  · rename_i z a
    obtain ⟨rfl, q⟩ := h
    obtain ⟨es, n, k, _⟩ := D.ex
    refine op_notIn_kd k pins s σ H _ _ v u Q I rx ry ?_
    rcases kd_look D z with ⟨w, u0, e1, e2, _⟩ | ⟨e1, e2⟩
    · rw [e1] at q; exact ⟨z, _, rfl, rfl, e2, q⟩
    · rw [e1] at q; exact ⟨z, _, rfl, rfl, e2, q⟩
  · exact h.elim
theorem u_ixKd (D : KdV X.K X.w d kvs) : IxR X (rIxKd kvs d) := ixImp ix_kdict fun x y H Q q => by
  unfold rIxKd at q
  split at q
  · rename_i a z
    obtain ⟨rfl, q⟩ := q
    obtain ⟨es, n, k, _⟩ := D.ex
    rcases kd_look D z with ⟨w, u0, e1, e2, r⟩ | ⟨e1, e2⟩
    · rw [e1] at q; exact ⟨_, z, w, rfl, rfl, ⟨es, n, u0, k.at_, k.lit, e2, r⟩, q⟩
    · rw [e1] at q; exact q.elim
  · exact q.elim
end
/-! ### tuples of the module -/
/-- K holds a tuple of these at p -/
def KTup (K : PySem.W.Frag) (p : Addr) (xs : List V) : Prop := ∃ (o : Obj) (its : Array Value) (n : Nat), K.lookup p = some o ∧ o.cls = .type "tuple" ∧ o.data = .seq its n ∧ its.size ≤ sizeLine ∧ Vals xs its.toList
theorem ktup_uniq {K : PySem.W.Frag} {p : Addr} {xs : List V} (h : KTup K p xs) : ktup K p = some xs := by
  unfold ktup
  have he : ∃ ys, SqT K (fun _ => none) p ys := ⟨xs, .inr h⟩
  rw [dif_pos he]
  have q := Classical.choose_spec he
  generalize Classical.choose he = ys at q
  obtain ⟨o, its, n, h1, _, h3, _, h5⟩ := h
  rcases q with (q | ⟨_, q⟩) | ⟨o', its', n', q1, _, q3, _, q5⟩
  · cases q
  · cases q
  · rw [h1] at q1; cases q1
    rw [h3] at q3; cases q3
    rw [Vals.inj q5 h5]
theorem tupv_K {K : PySem.W.Frag} {H : Hp} {p : Addr} {xs : List V} (h : KTup K p xs) (ap : Apart K H) : tupv K H p = some xs := by
  obtain ⟨o, its, n, h1, h2⟩ := id h
  unfold tupv
  rw [ap _ _ h1]
  exact ktup_uniq h
end R

/-! M: values as trees, a small store of open objects; what a text means over them, and that the walk agrees. -/
namespace Mi
open PySem PySem.Spec PyProof.Rows L2 R
/-- a value as a tree -/
inductive D where
  | non | bl (b : Bool) | int (i : Int) | str (s : Str) | ty (n : String)
  | lst (xs : List D) | tup (xs : List D) | dic (kvs : List (Key × D)) | dtt (kvs : List (List Key × D))
  | ins (c : String) (fs : List (Str × D)) | ref (n : Nat) | glo (x : String) | kls (xs : List D) | kdc (kvs : List (Str × D)) | ktp (xs : List D)
/-- an open object -/
inductive Ob where
  | lst (xs : List D) | dic (kvs : List (Key × D)) | dtt (kvs : List (List Key × D)) | ins (c : String) (fs : List (Str × D))
abbrev Sto := List (Option Ob)
/-- an error -/
structure Ex where
  c : String
  fs : List (Str × D)
/-- a slot -/
inductive Sl where
  | no | v (d : D) | ex
abbrev Env := List Sl
inductive ER where
  | val (d : D) (O : Sto) | exc (x : Ex) (O : Sto) | stk
inductive AR where
  | val (ds : List D) (O : Sto) | exc (x : Ex) (O : Sto) | stk
inductive BR where
  | val (b : Bool) (O : Sto) | exc (x : Ex) (O : Sto) | stk
inductive SR where
  | nx (ε : Env) (O : Sto) | rt (d : D) (O : Sto) | bk (ε : Env) (O : Sto) | ct (ε : Env) (O : Sto) | exc (x : Ex) (ε : Env) (O : Sto) | stk
abbrev DE := Env → Sto → ER
abbrev DA := Env → Sto → AR
abbrev DT := Env → Sto → BR
abbrev DS := Env → Sto → SR
/-- where classes and defs stand -/
structure Ct where
  K : PySem.W.Frag
  w : World
  ad : String → Addr
def lkv (F : Hp) (p : Addr) : Option (List (Key × V)) := match F p with
  | some (.frz _ (.dK kvs)) => some kvs
  | _ => none
def ltv (F : Hp) (p : Addr) : Option (List (List Key × V)) := match F p with
  | some (.frz _ (.dT kvs)) => some kvs
  | _ => none
mutual
/-- the value v is the tree d: what it reaches stands in F, for ever -/
inductive Rep (k : Ct) (ρ : List Addr) (F : Hp) : V → D → Prop
  | non : Rep k ρ F .non .non
  | bl (b : Bool) : Rep k ρ F (.bl b) (.bl b)
  | int (i : Int) : Rep k ρ F (.int i) (.int i)
  | str (s : Str) : Rep k ρ F (.str s) (.str s)
  | ty (n : String) : Rep k ρ F (.ty n) (.ty n)
  | lst {p : Addr} {vs : List V} {ds : List D} : F p = some (.lst vs) → Reps k ρ F vs ds → Rep k ρ F (.ref p) (.lst ds)
  | kls {p : Addr} {vs : List V} {ds : List D} : lstv k.K F p = some vs → Reps k ρ F vs ds → Rep k ρ F (.ref p) (.kls ds)
  | kdc {p : Addr} {vs : List (Str × V)} {ds : List (Str × D)} : KdV k.K k.w p vs → vs.map (·.1) = ds.map (·.1) → Reps k ρ F (vs.map (·.2)) (ds.map (·.2)) → Rep k ρ F (.ref p) (.kdc ds)
  | tup {p : Addr} {vs : List V} {ds : List D} : F p = some (.tup vs) → Reps k ρ F vs ds → Rep k ρ F (.ref p) (.tup ds)
  | ktp {p : Addr} {vs : List V} {ds : List D} : KTup k.K p vs → Reps k ρ F vs ds → Rep k ρ F (.ref p) (.ktp ds)
  | dic {p : Addr} {vs : List (Key × V)} {ds : List (Key × D)} : lkv F p = some vs → vs.map (·.1) = ds.map (·.1) → Reps k ρ F (vs.map (·.2)) (ds.map (·.2)) → Rep k ρ F (.ref p) (.dic ds)
  | dtt {p : Addr} {vs : List (List Key × V)} {ds : List (List Key × D)} : ltv F p = some vs → vs.map (·.1) = ds.map (·.1) → Reps k ρ F (vs.map (·.2)) (ds.map (·.2)) → Rep k ρ F (.ref p) (.dtt ds)
  | ins {p dx : Addr} {c : String} {vs : List (Str × V)} {ds : List (Str × D)} : F p = some (.ins (k.ad c) dx vs) → vs.map (·.1) = ds.map (·.1) → Reps k ρ F (vs.map (·.2)) (ds.map (·.2)) → Rep k ρ F (.ref p) (.ins c ds)
  | ref {n : Nat} {a : Addr} : ρ[n]? = some a → Rep k ρ F (.ref a) (.ref n)
  | glo (x : String) : Rep k ρ F (.ref (k.ad x)) (.glo x)
inductive Reps (k : Ct) (ρ : List Addr) (F : Hp) : List V → List D → Prop
  | nil : Reps k ρ F [] []
  | cons {v : V} {d : D} {vs : List V} {ds : List D} : Rep k ρ F v d → Reps k ρ F vs ds → Reps k ρ F (v :: vs) (d :: ds)
end
section
variable {k : Ct} {ρ ρ' : List Addr} {F F' : Hp}
theorem lstv_ff {K : PySem.W.Frag} {p : Addr} {vs : List V} (ff : ∀ a u, F a = some u → F' a = some u) (ap : Apart K F') (h : lstv K F p = some vs) : lstv K F' p = some vs := lstv_mono ff ap h
mutual
theorem Rep.mono (pr : ∀ (n : Nat) (a : Addr), ρ[n]? = some a → ρ'[n]? = some a) (ff : ∀ a u, F a = some u → F' a = some u) (ap : Apart k.K F') : ∀ {v : V} {d : D}, Rep k ρ F v d → Rep k ρ' F' v d
  | _, _, .non => .non
  | _, _, .bl b => .bl b
  | _, _, .int b => .int b
  | _, _, .str b => .str b
  | _, _, .ty b => .ty b
  | _, _, .lst h r => .lst (ff _ _ h) (Reps.mono pr ff ap r)
  | _, _, .kls h r => .kls (lstv_mono ff ap h) (Reps.mono pr ff ap r)
  | _, _, .kdc h e r => .kdc h e (Reps.mono pr ff ap r)
  | _, _, .tup h r => .tup (ff _ _ h) (Reps.mono pr ff ap r)
  | _, _, .ktp h r => .ktp h (Reps.mono pr ff ap r)
  | _, _, .dic h e r => .dic (by
      unfold lkv at h ⊢
      split at h
      · cases h; rw [ff _ _ ‹_›]
      · cases h) e (Reps.mono pr ff ap r)
  | _, _, .dtt h e r => .dtt (by
      unfold ltv at h ⊢
      split at h
      · cases h; rw [ff _ _ ‹_›]
      · cases h) e (Reps.mono pr ff ap r)
  | _, _, .ins h e r => .ins (ff _ _ h) e (Reps.mono pr ff ap r)
  | _, _, .ref h => .ref (pr _ _ h)
  | _, _, .glo x => .glo x
theorem Reps.mono (pr : ∀ (n : Nat) (a : Addr), ρ[n]? = some a → ρ'[n]? = some a) (ff : ∀ a u, F a = some u → F' a = some u) (ap : Apart k.K F') : ∀ {vs : List V} {ds : List D}, Reps k ρ F vs ds → Reps k ρ' F' vs ds
  | _, _, .nil => .nil
  | _, _, .cons h r => .cons (Rep.mono pr ff ap h) (Reps.mono pr ff ap r)
end
theorem Reps.length : ∀ {vs : List V} {ds : List D}, Reps k ρ F vs ds → vs.length = ds.length
  | _, _, .nil => rfl
  | _, _, .cons _ r => by simp only [List.length_cons, Reps.length r]
theorem Reps.append : ∀ {vs ws : List V} {ds es : List D}, Reps k ρ F vs ds → Reps k ρ F ws es → Reps k ρ F (vs ++ ws) (ds ++ es)
  | _, _, _, _, .nil, s => s
  | _, _, _, _, .cons h r, s => .cons h (Reps.append r s)
theorem Reps.get : ∀ {vs : List V} {ds : List D}, Reps k ρ F vs ds → ∀ {i : Nat} {d : D}, ds[i]? = some d → ∃ v, vs[i]? = some v ∧ Rep k ρ F v d
  | _, _, .nil, _, _, h => by simp at h
  | _, _, .cons h _, 0, _, e => by simp at e; subst e; exact ⟨_, rfl, h⟩
  | _, _, .cons _ r, i + 1, d, e => by
    obtain ⟨v, h1, h2⟩ := Reps.get r (i := i) (d := d) (by simpa using e)
    exact ⟨v, by simpa using h1, h2⟩
theorem Reps.getV : ∀ {vs : List V} {ds : List D}, Reps k ρ F vs ds → ∀ {i : Nat} {v : V}, vs[i]? = some v → ∃ d, ds[i]? = some d ∧ Rep k ρ F v d
  | _, _, .nil, _, _, h => by simp at h
  | _, _, .cons h _, 0, _, e => by simp at e; subst e; exact ⟨_, rfl, h⟩
  | _, _, .cons _ r, i + 1, v, e => by
    obtain ⟨d, h1, h2⟩ := Reps.getV r (i := i) (v := v) (by simpa using e)
    exact ⟨d, by simpa using h1, h2⟩
theorem Reps.set {v : V} {d : D} (h : Rep k ρ F v d) : ∀ {vs : List V} {ds : List D} (i : Nat), Reps k ρ F vs ds → Reps k ρ F (vs.set i v) (ds.set i d)
  | _, _, _, .nil => .nil
  | _, _, 0, .cons _ r => .cons h r
  | _, _, i + 1, .cons q r => .cons q (Reps.set h i r)
theorem Reps.take : ∀ {vs : List V} {ds : List D} (n : Nat), Reps k ρ F vs ds → Reps k ρ F (vs.take n) (ds.take n)
  | _, _, 0, _ => by simp; exact .nil
  | _, _, _ + 1, .nil => .nil
  | _, _, n + 1, .cons h r => .cons h (Reps.take n r)
theorem Reps.drop : ∀ {vs : List V} {ds : List D} (n : Nat), Reps k ρ F vs ds → Reps k ρ F (vs.drop n) (ds.drop n)
  | _, _, 0, r => r
  | _, _, _ + 1, .nil => .nil
  | _, _, n + 1, .cons _ r => Reps.drop n r
theorem Reps.reverse : ∀ {vs : List V} {ds : List D}, Reps k ρ F vs ds → Reps k ρ F vs.reverse ds.reverse
  | _, _, .nil => .nil
  | _, _, .cons h r => by
    rw [List.reverse_cons, List.reverse_cons]
    exact Reps.append (Reps.reverse r) (.cons h .nil)
theorem Reps.of_all : ∀ {vs : List V} {ds : List D}, vs.length = ds.length → (∀ (i : Nat) (v : V) (d : D), vs[i]? = some v → ds[i]? = some d → Rep k ρ F v d) → Reps k ρ F vs ds
  | [], [], _, _ => .nil
  | v :: vs, d :: ds, h, g => .cons (g 0 v d rfl rfl) (Reps.of_all (by simpa using h) fun i v d h1 h2 => g (i + 1) v d (by simpa using h1) (by simpa using h2))
  | [], _ :: _, h, _ => by simp at h
  | _ :: _, [], h, _ => by simp at h
theorem Reps.erase {vs : List V} {ds : List D} (i : Nat) (r : Reps k ρ F vs ds) : Reps k ρ F (vs.eraseIdx i) (ds.eraseIdx i) := by
  rw [List.eraseIdx_eq_take_drop_succ, List.eraseIdx_eq_take_drop_succ]
  exact Reps.append (Reps.take _ r) (Reps.drop _ r)
theorem Reps.dropLast {vs : List V} {ds : List D} (r : Reps k ρ F vs ds) : Reps k ρ F vs.dropLast ds.dropLast := by
  rw [List.dropLast_eq_take, List.dropLast_eq_take, r.length]
  exact Reps.take _ r
end
/-! ### trees without open objects -/
mutual
def D.pure : D → Bool
  | .lst xs => D.pureL xs
  | .kls xs => D.pureL xs
  | .ktp xs => D.pureL xs
  | .kdc xs => D.pureF xs
  | .tup xs => D.pureL xs
  | .dic kvs => D.pureK kvs
  | .dtt kvs => D.pureT kvs
  | .ins _ fs => D.pureF fs
  | .ref _ => false
  | _ => true
def D.pureL : List D → Bool
  | [] => true
  | d :: ds => D.pure d && D.pureL ds
def D.pureK : List (Key × D) → Bool
  | [] => true
  | (_, d) :: ds => D.pure d && D.pureK ds
def D.pureT : List (List Key × D) → Bool
  | [] => true
  | (_, d) :: ds => D.pure d && D.pureT ds
def D.pureF : List (Str × D) → Bool
  | [] => true
  | (_, d) :: ds => D.pure d && D.pureF ds
end
theorem pureL_all : ∀ ds : List D, D.pureL ds = ds.all D.pure
  | [] => by rw [D.pureL]; rfl
  | d :: ds => by rw [D.pureL, pureL_all ds]; rfl
theorem pureK_all : ∀ ds : List (Key × D), D.pureK ds = ds.all fun x => D.pure x.2
  | [] => by rw [D.pureK]; rfl
  | (_, d) :: ds => by rw [D.pureK, pureK_all ds]; rfl
theorem pureT_all : ∀ ds : List (List Key × D), D.pureT ds = ds.all fun x => D.pure x.2
  | [] => by rw [D.pureT]; rfl
  | (_, d) :: ds => by rw [D.pureT, pureT_all ds]; rfl
theorem pureF_all : ∀ ds : List (Str × D), D.pureF ds = ds.all fun x => D.pure x.2
  | [] => by rw [D.pureF]; rfl
  | (_, d) :: ds => by rw [D.pureF, pureF_all ds]; rfl
theorem pureL_K (ds : List (Key × D)) : D.pureL (ds.map (·.2)) = D.pureK ds := by
  rw [pureL_all, pureK_all, List.all_map]; rfl
theorem pureL_T (ds : List (List Key × D)) : D.pureL (ds.map (·.2)) = D.pureT ds := by
  rw [pureL_all, pureT_all, List.all_map]; rfl
theorem pureL_F (ds : List (Str × D)) : D.pureL (ds.map (·.2)) = D.pureF ds := by
  rw [pureL_all, pureF_all, List.all_map]; rfl
theorem pure_lst {xs : List D} : D.pure (.lst xs) = xs.all D.pure := by rw [D.pure, pureL_all]
theorem pure_kdc {xs : List (Str × D)} : D.pure (.kdc xs) = xs.all fun x => D.pure x.2 := by rw [D.pure, pureF_all]
theorem pure_ktp {xs : List D} : D.pure (.ktp xs) = xs.all D.pure := by rw [D.pure, pureL_all]
theorem pure_kls {xs : List D} : D.pure (.kls xs) = xs.all D.pure := by rw [D.pure, pureL_all]
theorem pure_tup {xs : List D} : D.pure (.tup xs) = xs.all D.pure := by rw [D.pure, pureL_all]
theorem pure_dic {xs : List (Key × D)} : D.pure (.dic xs) = xs.all fun x => D.pure x.2 := by rw [D.pure, pureK_all]
theorem pure_dtt {xs : List (List Key × D)} : D.pure (.dtt xs) = xs.all fun x => D.pure x.2 := by rw [D.pure, pureT_all]
theorem pure_ins {c : String} {xs : List (Str × D)} : D.pure (.ins c xs) = xs.all fun x => D.pure x.2 := by rw [D.pure, pureF_all]
theorem pure_non : D.pure .non = true := rfl
theorem pure_bl {b : Bool} : D.pure (.bl b) = true := rfl
theorem pure_int {b : Int} : D.pure (.int b) = true := rfl
theorem pure_str {b : Str} : D.pure (.str b) = true := rfl
theorem pure_ty {b : String} : D.pure (.ty b) = true := rfl
theorem pure_glo {b : String} : D.pure (.glo b) = true := rfl
theorem pure_ref {b : Nat} : D.pure (.ref b) = false := by rw [D.pure]
section
variable {k : Ct} {ρ ρ' : List Addr} {F : Hp}
mutual
theorem Rep.pu : ∀ {v : V} {d : D}, Rep k ρ F v d → D.pure d = true → Rep k ρ' F v d
  | _, _, .non, _ => .non
  | _, _, .bl b, _ => .bl b
  | _, _, .int b, _ => .int b
  | _, _, .str b, _ => .str b
  | _, _, .ty b, _ => .ty b
  | _, _, .lst h r, p => .lst h (Reps.pu r (by rw [D.pure] at p; exact p))
  | _, _, .kls h r, p => .kls h (Reps.pu r (by rw [D.pure] at p; exact p))
  | _, _, .kdc h e r, p => .kdc h e (Reps.pu r (by rw [D.pure] at p; rw [pureL_F]; exact p))
  | _, _, .ktp h r, p => .ktp h (Reps.pu r (by rw [D.pure] at p; exact p))
  | _, _, .tup h r, p => .tup h (Reps.pu r (by rw [D.pure] at p; exact p))
  | _, _, .dic h e r, p => .dic h e (Reps.pu r (by rw [D.pure] at p; rw [pureL_K]; exact p))
  | _, _, .dtt h e r, p => .dtt h e (Reps.pu r (by rw [D.pure] at p; rw [pureL_T]; exact p))
  | _, _, .ins h e r, p => .ins h e (Reps.pu r (by rw [D.pure] at p; rw [pureL_F]; exact p))
  | _, _, .ref _, p => by rw [D.pure] at p; cases p
  | _, _, .glo x, _ => .glo x
theorem Reps.pu : ∀ {vs : List V} {ds : List D}, Reps k ρ F vs ds → D.pureL ds = true → Reps k ρ' F vs ds
  | _, _, .nil, _ => .nil
  | _, _, .cons h r, p => by
    rw [D.pureL, Bool.and_eq_true] at p
    exact .cons (Rep.pu h p.1) (Reps.pu r p.2)
end
end
end Mi

namespace Mi
open PySem PySem.Spec PyProof.Rows L2 R
/-! ### states -/
/-- what stands in F stands in H (its dicts are locked) -/
def InH (F H : Hp) : Prop := ∀ a u, F a = some u → H a = some u
def ObR (k : Ct) (ρ : List Addr) (F H : Hp) (a : Addr) : Ob → Prop
  | .lst ds => ∃ vs, H a = some (.lst vs) ∧ Reps k ρ F vs ds
  | .dic ds => ∃ vs, H a = some (.dK vs) ∧ vs.map (·.1) = ds.map (·.1) ∧ Reps k ρ F (vs.map (·.2)) (ds.map (·.2))
  | .dtt ds => ∃ vs, H a = some (.dT vs) ∧ vs.map (·.1) = ds.map (·.1) ∧ Reps k ρ F (vs.map (·.2)) (ds.map (·.2))
  | .ins c ds => ∃ dx vs, H a = some (.ins (k.ad c) dx vs) ∧ vs.map (·.1) = ds.map (·.1) ∧ Reps k ρ F (vs.map (·.2)) (ds.map (·.2))
/-- the tables of code objects -/
def TabH (k : Ct) (F H : Hp) : Prop := ∀ i : Nat, i < k.ad "#tabs" → F (k.ad ("#tab" ++ toString i)) = none ∧ ∃ ps : Array Value, H (k.ad ("#tab" ++ toString i)) = some (.tbl ps) ∧ TriplesOk ps.toList
theorem TabH.put {k : Ct} {F H : Hp} {p : Addr} {u : HO} (t : TabH k F H) (h : ∀ ps, H p ≠ some (.tbl ps)) : TabH k F (upd H p u) := fun i hi => by
  obtain ⟨f, ps, e, q⟩ := t i hi
  exact ⟨f, ps, by rw [upd_ne (fun z => h ps (by rw [← z]; exact e))]; exact e, q⟩
theorem TabH.new {k : Ct} {F H : Hp} {p : Addr} {u : HO} (t : TabH k F H) (h : H p = none) : TabH k F (upd H p u) := t.put fun ps e => by rw [h] at e; cases e
theorem TabH.putF {k : Ct} {F H : Hp} {p : Addr} {u : HO} (t : TabH k F H) (h : ∀ ps, H p ≠ some (.tbl ps)) : TabH k (upd F p u) H := fun i hi => by
  obtain ⟨f, ps, e, q⟩ := t i hi
  exact ⟨by rw [upd_ne (fun z => h ps (by rw [← z]; exact e))]; exact f, ps, e, q⟩
theorem TabH.newF {k : Ct} {F H : Hp} {p : Addr} {u : HO} (t : TabH k F H) (h : H p = none) : TabH k (upd F p u) H := t.putF fun ps e => by rw [h] at e; cases e
structure Rel0 (k : Ct) (ρ : List Addr) (F : Hp) (O : Sto) (H : Hp) : Prop where
  fr : InH F H
  len : ρ.length = O.length
  ob : ∀ (n : Nat) (a : Addr) (o : Ob), O[n]? = some (some o) → ρ[n]? = some a → F a = none ∧ ObR k ρ F H a o
  inj : ∀ (n m : Nat) (a : Addr) (o o' : Ob), O[n]? = some (some o) → O[m]? = some (some o') → ρ[n]? = some a → ρ[m]? = some a → n = m
  tb : TabH k F H
structure Rel (k : Ct) (ρ : List Addr) (F : Hp) (O : Sto) (H : Hp) : Prop extends Rel0 k ρ F O H where
  ap : Apart k.K H
def Liv (ρ : List Addr) (O : Sto) (a : Addr) : Prop := ∃ (n : Nat) (o : Ob), O[n]? = some (some o) ∧ ρ[n]? = some a
/-- not open, no table -/
def NL (ρ : List Addr) (O : Sto) (a : Addr) (o : HO) : Prop := ¬ Liv ρ O a ∧ ∀ ps, o ≠ .tbl ps
structure Tr (ρ : List Addr) (F : Hp) (O : Sto) (H : Hp) (ρ' : List Addr) (F' : Hp) (O' : Sto) (H' : Hp) : Prop where
  pre : ∃ l, ρ' = ρ ++ l ∧ ∀ a ∈ l, H a = none
  ff : ∀ a u, F a = some u → F' a = some u
  dead : ∀ (n : Nat) (o' : Ob), n < ρ.length → O'[n]? = some (some o') → ∃ o, O[n]? = some (some o)
  fr : ∀ a o, H a = some o → NL ρ O a o → H' a = some o
  gr : ∀ a, F a = none → F' a ≠ none → H a = none ∨ Liv ρ O a
  st : ∀ a, H a ≠ none → H' a ≠ none
section
variable {k : Ct} {ρ ρ' ρ1 ρ2 : List Addr} {F F' F1 F2 : Hp} {O O' O1 O2 : Sto} {H H' H1 H2 : Hp}
theorem Rel.apF (R : Rel k ρ F O H) : Apart k.K F := fun b o e => by
  cases h : F b with
  | none => rfl
  | some u =>
    have z := R.fr b u h
    rw [R.ap b o e] at z; cases z
theorem Tr.refl : Tr ρ F O H ρ F O H := ⟨⟨[], by simp, by simp⟩, fun _ _ h => h, fun n o' _ h => ⟨o', h⟩, fun _ _ h _ => h, fun _ h h' => absurd h h', fun _ h => h⟩
theorem Tr.pr (T : Tr ρ F O H ρ' F' O' H') : ∀ (n : Nat) (a : Addr), ρ[n]? = some a → ρ'[n]? = some a := fun n a h => by
  obtain ⟨l, e, _⟩ := T.pre
  rw [e]
  have := (List.getElem?_eq_some_iff.mp h).1
  rw [List.getElem?_append_left this]; exact h
theorem Tr.liv (T : Tr ρ F O H ρ' F' O' H') {a : Addr} (h : H a ≠ none) (l : Liv ρ' O' a) : Liv ρ O a := by
  obtain ⟨n, o, h1, h2⟩ := l
  obtain ⟨l, e, hl⟩ := T.pre
  by_cases hn : n < ρ.length
  · obtain ⟨o2, ho⟩ := T.dead n o hn h1
    rw [e, List.getElem?_append_left hn] at h2
    exact ⟨n, o2, ho, h2⟩
  · rw [e, List.getElem?_append_right (by omega)] at h2
    exact absurd (hl a (List.mem_of_getElem? h2)) h
theorem Tr.trans (T : Tr ρ F O H ρ1 F1 O1 H1) (U : Tr ρ1 F1 O1 H1 ρ2 F2 O2 H2) : Tr ρ F O H ρ2 F2 O2 H2 where
  pre := by
    obtain ⟨l, e, hl⟩ := T.pre
    obtain ⟨m, e2, hm⟩ := U.pre
    refine ⟨l ++ m, by rw [e2, e, List.append_assoc], fun a ha => ?_⟩
    rcases List.mem_append.mp ha with h | h
    · exact hl a h
    · have := hm a h
      cases q : H a with
      | none => rfl
      | some o => exact absurd this (T.st a (by rw [q]; simp))
  ff := fun a u h => U.ff a u (T.ff a u h)
  dead := fun n o' hn h => by
    obtain ⟨l, e, hl⟩ := T.pre
    obtain ⟨o, ho⟩ := U.dead n o' (by rw [e, List.length_append]; omega) h
    exact T.dead n o hn ho
  fr := fun a o h nl => U.fr a o (T.fr a o h nl) ⟨fun l => nl.1 (T.liv (by rw [h]; simp) l), nl.2⟩
  gr := fun a h h2 => by
    cases q : F1 a with
    | none =>
      rcases U.gr a q h2 with z | z
      · left
        cases q : H a with
        | none => rfl
        | some o => exact absurd z (T.st a (by rw [q]; simp))
      · by_cases hH : H a = none
        · exact .inl hH
        · exact .inr (T.liv hH z)
    | some u => exact T.gr a h (by rw [q]; simp)
  st := fun a h => U.st a (T.st a h)
theorem Rep.tr (T : Tr ρ F O H ρ' F' O' H') (R : Rel k ρ' F' O' H') {v : V} {d : D} (h : Rep k ρ F v d) : Rep k ρ' F' v d := Rep.mono T.pr T.ff R.apF h
theorem Reps.tr (T : Tr ρ F O H ρ' F' O' H') (R : Rel k ρ' F' O' H') {v : List V} {d : List D} (h : Reps k ρ F v d) : Reps k ρ' F' v d := Reps.mono T.pr T.ff R.apF h
/-! ### slots -/
def XR (k : Ct) (ρ : List Addr) (F : Hp) (cls : Value) (od : Option Addr) (x : Ex) : Prop := cls = .ref (k.ad x.c) ∧ ∃ d vs, od = some d ∧ F d = some (.xd vs) ∧ vs.map (·.1) = x.fs.map (·.1) ∧ Reps k ρ F (vs.map (·.2)) (x.fs.map (·.2))
/-- the error that is handled: where it stands, its class, its dict, what it is -/
structure Yx where
  a : Addr
  cls : Value
  d : Option Addr
  x : Ex
theorem XR.tr {cls : Value} {od : Option Addr} {x : Ex} (T : Tr ρ F O H ρ' F' O' H') (R : Rel k ρ' F' O' H') (h : XR k ρ F cls od x) : XR k ρ' F' cls od x := by
  obtain ⟨e, d, vs, e1, e2, e3, e4⟩ := h
  exact ⟨e, d, vs, e1, T.ff _ _ e2, e3, e4.tr T R⟩
def SloR (k : Ct) (y : Option Yx) (ρ : List Addr) (F : Hp) (σ : L2.St) (ε : Env) : Prop := σ.length = ε.length ∧ ∀ i : Nat, (∀ d, ε[i]? = some (.v d) → ∃ v, σ[i]? = some (some v) ∧ Rep k ρ F v d) ∧ (ε[i]? = some .ex → ∃ z, y = some z ∧ σ[i]? = some (some (.ref z.a)) ∧ XR k ρ F z.cls z.d z.x)
variable {y : Option Yx} {σ : L2.St} {ε : Env}
theorem SloR.tr (T : Tr ρ F O H ρ' F' O' H') (R : Rel k ρ' F' O' H') (h : SloR k y ρ F σ ε) : SloR k y ρ' F' σ ε := ⟨h.1, fun i => ⟨fun d e => by
  obtain ⟨v, h1, h2⟩ := (h.2 i).1 d e
  exact ⟨v, h1, h2.tr T R⟩, fun e => by
    obtain ⟨z, h1, h2, h3⟩ := (h.2 i).2 e
    exact ⟨z, h1, h2, h3.tr T R⟩⟩⟩
theorem SloR.set (h : SloR k y ρ F σ ε) (i : Nat) {v : V} {d : D} (r : Rep k ρ F v d) : SloR k y ρ F (σ.set i (some v)) (ε.set i (.v d)) := ⟨by simp [h.1], fun j => by
  by_cases hj : i = j
  · subst hj
    by_cases hl : i < ε.length
    · rw [List.getElem?_set_self hl, List.getElem?_set_self (by rw [h.1]; exact hl)]
      exact ⟨fun d' e => (by cases e; exact ⟨v, rfl, r⟩), fun e => (by cases e)⟩
    · rw [List.getElem?_eq_none (by simp; omega)]
      exact ⟨fun _ e => (by cases e), fun e => (by cases e)⟩
  · rw [List.getElem?_set_ne hj, List.getElem?_set_ne hj]
    exact h.2 j⟩
theorem SloR.no (h : SloR k y ρ F σ ε) (i : Nat) (o : Option V) : SloR k y ρ F (σ.set i o) (ε.set i .no) := ⟨by simp [h.1], fun j => by
  by_cases hj : i = j
  · subst hj
    by_cases hl : i < ε.length
    · rw [List.getElem?_set_self hl]
      exact ⟨fun d' e => (by cases e), fun e => (by cases e)⟩
    · rw [List.getElem?_eq_none (by simp; omega)]
      exact ⟨fun _ e => (by cases e), fun e => (by cases e)⟩
  · rw [List.getElem?_set_ne hj, List.getElem?_set_ne hj]
    exact h.2 j⟩
/-! ### what is held behind -/
def XP (k : Ct) (ρ : List Addr) (F : Hp) (O : Sto) (H : Hp) (W : XK) (x : Ex) (O' : Sto) : Prop := ∀ ρ' F' H' cls od, Tr ρ F O H ρ' F' O' H' → Rel k ρ' F' O' H' → XR k ρ' F' cls od x → W cls od H'
def EP (k : Ct) (ρ : List Addr) (F : Hp) (O : Sto) (H : Hp) (Q : VK) (W : XK) : ER → Prop
  | .val x O' => ∀ ρ' F' H' v, Tr ρ F O H ρ' F' O' H' → Rel k ρ' F' O' H' → Rep k ρ' F' v x → Q v H'
  | .exc x O' => XP k ρ F O H W x O'
  | .stk => False
def AP (k : Ct) (ρ : List Addr) (F : Hp) (O : Sto) (H : Hp) (Q : List V → Hp → Prop) (W : XK) : AR → Prop
  | .val x O' => ∀ ρ' F' H' v, Tr ρ F O H ρ' F' O' H' → Rel k ρ' F' O' H' → Reps k ρ' F' v x → Q v H'
  | .exc x O' => XP k ρ F O H W x O'
  | .stk => False
def BP (k : Ct) (ρ : List Addr) (F : Hp) (O : Sto) (H : Hp) (Q : Bool → Hp → Prop) (W : XK) : BR → Prop
  | .val x O' => ∀ ρ' F' H', Tr ρ F O H ρ' F' O' H' → Rel k ρ' F' O' H' → Q x H'
  | .exc x O' => XP k ρ F O H W x O'
  | .stk => False
def NP (k : Ct) (y : Option Yx) (ρ : List Addr) (F : Hp) (O : Sto) (H : Hp) (Q : L2.St → Hp → Prop) (ε : Env) (O' : Sto) : Prop := ∀ ρ' F' H' σ', Tr ρ F O H ρ' F' O' H' → Rel k ρ' F' O' H' → SloR k y ρ' F' σ' ε → Q σ' H'
def SP (k : Ct) (y : Option Yx) (ρ : List Addr) (F : Hp) (O : Sto) (H : Hp) (D : Ends) (W : WX) : SR → Prop
  | .nx ε O' => NP k y ρ F O H D.nx ε O'
  | .rt x O' => ∀ ρ' F' H' v, Tr ρ F O H ρ' F' O' H' → Rel k ρ' F' O' H' → Rep k ρ' F' v x → D.rt v H'
  | .bk ε O' => NP k y ρ F O H D.bk ε O'
  | .ct ε O' => NP k y ρ F O H D.ct ε O'
  | .exc x ε O' => ∀ ρ' F' H' cls od σ', Tr ρ F O H ρ' F' O' H' → Rel k ρ' F' O' H' → SloR k y ρ' F' σ' ε → XR k ρ' F' cls od x → W cls od σ' H'
  | .stk => False
variable {Q : VK} {W : XK} {D : Ends} {WW : WX}
theorem XP.tr (T : Tr ρ F O H ρ1 F1 O1 H1) {x : Ex} {O' : Sto} (h : XP k ρ F O H W x O') : XP k ρ1 F1 O1 H1 W x O' := fun ρ' F' H' cls od U R r => h ρ' F' H' cls od (T.trans U) R r
theorem EP.tr (T : Tr ρ F O H ρ1 F1 O1 H1) {r : ER} (h : EP k ρ F O H Q W r) : EP k ρ1 F1 O1 H1 Q W r := by
  cases r with
  | val x O' => exact fun ρ' F' H' v U => h ρ' F' H' v (T.trans U)
  | exc x O' => exact XP.tr T h
  | stk => exact h
theorem AP.tr {Q : List V → Hp → Prop} (T : Tr ρ F O H ρ1 F1 O1 H1) {r : AR} (h : AP k ρ F O H Q W r) : AP k ρ1 F1 O1 H1 Q W r := by
  cases r with
  | val x O' => exact fun ρ' F' H' v U => h ρ' F' H' v (T.trans U)
  | exc x O' => exact XP.tr T h
  | stk => exact h
theorem BP.tr {Q : Bool → Hp → Prop} (T : Tr ρ F O H ρ1 F1 O1 H1) {r : BR} (h : BP k ρ F O H Q W r) : BP k ρ1 F1 O1 H1 Q W r := by
  cases r with
  | val x O' => exact fun ρ' F' H' U => h ρ' F' H' (T.trans U)
  | exc x O' => exact XP.tr T h
  | stk => exact h
theorem SP.tr (T : Tr ρ F O H ρ1 F1 O1 H1) {r : SR} (h : SP k y ρ F O H D WW r) : SP k y ρ1 F1 O1 H1 D WW r := by
  cases r with
  | nx ε O' => exact fun ρ' F' H' σ' U => h ρ' F' H' σ' (T.trans U)
  | rt x O' => exact fun ρ' F' H' v U => h ρ' F' H' v (T.trans U)
  | bk ε O' => exact fun ρ' F' H' σ' U => h ρ' F' H' σ' (T.trans U)
  | ct ε O' => exact fun ρ' F' H' σ' U => h ρ' F' H' σ' (T.trans U)
  | exc x ε O' => exact fun ρ' F' H' cls od σ' U => h ρ' F' H' cls od σ' (T.trans U)
  | stk => exact h
end
/-! ### readings of meanings -/
def tE (k : Ct) (y : Option Yx) (W : WX) (d : DE) : TE := fun σ H Q => ∃ ρ F O ε, Rel k ρ F O H ∧ SloR k y ρ F σ ε ∧ EP k ρ F O H Q (fun c o H' => W c o σ H') (d ε O)
def tA (k : Ct) (y : Option Yx) (W : WX) (d : DA) : TA := fun σ H Q => ∃ ρ F O ε, Rel k ρ F O H ∧ SloR k y ρ F σ ε ∧ AP k ρ F O H Q (fun c o H' => W c o σ H') (d ε O)
def tT (k : Ct) (y : Option Yx) (W : WX) (d : DT) : TT := fun σ H Q => ∃ ρ F O ε, Rel k ρ F O H ∧ SloR k y ρ F σ ε ∧ BP k ρ F O H Q (fun c o H' => W c o σ H') (d ε O)
def tS (k : Ct) (y : Option Yx) (W : WX) (d : DS) : TS := fun D σ H => ∃ ρ F O ε, Rel k ρ F O H ∧ SloR k y ρ F σ ε ∧ SP k y ρ F O H D W (d ε O)
/-! ### joining -/
def ER.bind (r : ER) (f : D → Sto → ER) : ER := match r with
  | .val x O => f x O
  | .exc x O => .exc x O
  | .stk => .stk
def ER.toB (r : ER) (f : D → Sto → BR) : BR := match r with
  | .val x O => f x O
  | .exc x O => .exc x O
  | .stk => .stk
def ER.toA (r : ER) (f : D → Sto → AR) : AR := match r with
  | .val x O => f x O
  | .exc x O => .exc x O
  | .stk => .stk
def ER.toS (r : ER) (ε : Env) (f : D → Sto → SR) : SR := match r with
  | .val x O => f x O
  | .exc x O => .exc x ε O
  | .stk => .stk
def AR.toA (r : AR) (f : List D → Sto → AR) : AR := match r with
  | .val x O => f x O
  | .exc x O => .exc x O
  | .stk => .stk
def AR.toE (r : AR) (f : List D → Sto → ER) : ER := match r with
  | .val x O => f x O
  | .exc x O => .exc x O
  | .stk => .stk
def BR.toE (r : BR) (f : Bool → Sto → ER) : ER := match r with
  | .val x O => f x O
  | .exc x O => .exc x O
  | .stk => .stk
def BR.toB (r : BR) (f : Bool → Sto → BR) : BR := match r with
  | .val x O => f x O
  | .exc x O => .exc x O
  | .stk => .stk
def BR.toS (r : BR) (ε : Env) (f : Bool → Sto → SR) : SR := match r with
  | .val x O => f x O
  | .exc x O => .exc x ε O
  | .stk => .stk
section
variable {k : Ct} {y : Option Yx} {ρ : List Addr} {F : Hp} {O : Sto} {H : Hp} {Q : VK} {W : XK} {QA : List V → Hp → Prop} {QB : Bool → Hp → Prop} {D : Ends} {WW : WX} {σ : L2.St} {ε : Env}
/-- an expression, then what follows -/
theorem ep_bind {r : ER} {f : Mi.D → Sto → ER} {G : VK} (h : EP k ρ F O H Q W (r.bind f))
    (g : ∀ x O' ρ' F' H' v, Tr ρ F O H ρ' F' O' H' → Rel k ρ' F' O' H' → Rep k ρ' F' v x → EP k ρ' F' O' H' Q W (f x O') → G v H') : EP k ρ F O H G W r := by
  cases r with
  | val x O' => exact fun ρ' F' H' v T R r => g x O' ρ' F' H' v T R r (EP.tr T h)
  | exc x O' => exact h
  | stk => exact h
theorem ep_toB {r : ER} {f : Mi.D → Sto → BR} {G : VK} (h : BP k ρ F O H QB W (r.toB f))
    (g : ∀ x O' ρ' F' H' v, Tr ρ F O H ρ' F' O' H' → Rel k ρ' F' O' H' → Rep k ρ' F' v x → BP k ρ' F' O' H' QB W (f x O') → G v H') : EP k ρ F O H G W r := by
  cases r with
  | val x O' => exact fun ρ' F' H' v T R r => g x O' ρ' F' H' v T R r (BP.tr T h)
  | exc x O' => exact h
  | stk => exact h
theorem ep_toA {r : ER} {f : Mi.D → Sto → AR} {G : VK} (h : AP k ρ F O H QA W (r.toA f))
    (g : ∀ x O' ρ' F' H' v, Tr ρ F O H ρ' F' O' H' → Rel k ρ' F' O' H' → Rep k ρ' F' v x → AP k ρ' F' O' H' QA W (f x O') → G v H') : EP k ρ F O H G W r := by
  cases r with
  | val x O' => exact fun ρ' F' H' v T R r => g x O' ρ' F' H' v T R r (AP.tr T h)
  | exc x O' => exact h
  | stk => exact h
theorem ep_toS {r : ER} {f : Mi.D → Sto → SR} {G : VK} (S : SloR k y ρ F σ ε) (h : SP k y ρ F O H D WW (r.toS ε f))
    (g : ∀ x O' ρ' F' H' v, Tr ρ F O H ρ' F' O' H' → Rel k ρ' F' O' H' → Rep k ρ' F' v x → SP k y ρ' F' O' H' D WW (f x O') → G v H') : EP k ρ F O H G (fun c o H' => WW c o σ H') r := by
  cases r with
  | val x O' => exact fun ρ' F' H' v T R r => g x O' ρ' F' H' v T R r (SP.tr T h)
  | exc x O' => exact fun ρ' F' H' cls od T R r => h ρ' F' H' cls od σ T R (S.tr T R) r
  | stk => exact h
theorem ap_toA {r : AR} {f : List Mi.D → Sto → AR} {G : List V → Hp → Prop} (h : AP k ρ F O H QA W (r.toA f))
    (g : ∀ x O' ρ' F' H' v, Tr ρ F O H ρ' F' O' H' → Rel k ρ' F' O' H' → Reps k ρ' F' v x → AP k ρ' F' O' H' QA W (f x O') → G v H') : AP k ρ F O H G W r := by
  cases r with
  | val x O' => exact fun ρ' F' H' v T R r => g x O' ρ' F' H' v T R r (AP.tr T h)
  | exc x O' => exact h
  | stk => exact h
theorem ap_toE {r : AR} {f : List Mi.D → Sto → ER} {G : List V → Hp → Prop} (h : EP k ρ F O H Q W (r.toE f))
    (g : ∀ x O' ρ' F' H' v, Tr ρ F O H ρ' F' O' H' → Rel k ρ' F' O' H' → Reps k ρ' F' v x → EP k ρ' F' O' H' Q W (f x O') → G v H') : AP k ρ F O H G W r := by
  cases r with
  | val x O' => exact fun ρ' F' H' v T R r => g x O' ρ' F' H' v T R r (EP.tr T h)
  | exc x O' => exact h
  | stk => exact h
theorem bp_toE {r : BR} {f : Bool → Sto → ER} {G : Bool → Hp → Prop} (h : EP k ρ F O H Q W (r.toE f))
    (g : ∀ x O' ρ' F' H', Tr ρ F O H ρ' F' O' H' → Rel k ρ' F' O' H' → EP k ρ' F' O' H' Q W (f x O') → G x H') : BP k ρ F O H G W r := by
  cases r with
  | val x O' => exact fun ρ' F' H' T R => g x O' ρ' F' H' T R (EP.tr T h)
  | exc x O' => exact h
  | stk => exact h
theorem bp_toB {r : BR} {f : Bool → Sto → BR} {G : Bool → Hp → Prop} (h : BP k ρ F O H QB W (r.toB f))
    (g : ∀ x O' ρ' F' H', Tr ρ F O H ρ' F' O' H' → Rel k ρ' F' O' H' → BP k ρ' F' O' H' QB W (f x O') → G x H') : BP k ρ F O H G W r := by
  cases r with
  | val x O' => exact fun ρ' F' H' T R => g x O' ρ' F' H' T R (BP.tr T h)
  | exc x O' => exact h
  | stk => exact h
theorem bp_toS {r : BR} {f : Bool → Sto → SR} {G : Bool → Hp → Prop} (S : SloR k y ρ F σ ε) (h : SP k y ρ F O H D WW (r.toS ε f))
    (g : ∀ x O' ρ' F' H', Tr ρ F O H ρ' F' O' H' → Rel k ρ' F' O' H' → SP k y ρ' F' O' H' D WW (f x O') → G x H') : BP k ρ F O H G (fun c o H' => WW c o σ H') r := by
  cases r with
  | val x O' => exact fun ρ' F' H' T R => g x O' ρ' F' H' T R (SP.tr T h)
  | exc x O' => exact fun ρ' F' H' cls od T R r => h ρ' F' H' cls od σ T R (S.tr T R) r
  | stk => exact h
end
/-! ### what K holds is apart, told where one likes -/
section
variable {X : Cx}
def apE (K : PySem.W.Frag) (t : TE) : TE := fun σ H Q => Apart K H → t σ H (fun v H' => Apart K H' → Q v H')
theorem inv_ap {pins : List (Addr × Obj)} {σ : L2.St} {H : Hp} {s : Shared} (I : Inv X pins σ H s) : Apart X.K H := fun b o e => (I.bs b o (I.ok.mod.kin b o e)).2
theorem peAp {e : Expr} {t : TE} (h : PE X e t) : PE X e (apE X.K t) := ⟨fun pins s σ H Q I q => thn (h.run pins s σ H _ I (q (inv_ap I))) fun _ _ ⟨v, H', I', r, q'⟩ => ⟨v, H', I', r, q' (inv_ap I')⟩⟩
theorem peM {e : Expr} {t t' : TE} (h : PE X e t) (i : ∀ σ H Q, t' σ H Q → Apart X.K H → t σ H (fun v H' => Apart X.K H' → Q v H')) : PE X e t' := peImp (peAp h) i
def apA (K : PySem.W.Frag) (t : TA) : TA := fun σ H Q => Apart K H → t σ H (fun v H' => Apart K H' → Q v H')
theorem paM {e : List Expr} {t t' : TA} (h : PA X e t) (i : ∀ σ H Q, t' σ H Q → Apart X.K H → t σ H (fun v H' => Apart X.K H' → Q v H')) : PA X e t' := ⟨fun pos pins s σ H Q I q => thn (h.run pos pins s σ H _ I (i _ _ _ q (inv_ap I))) fun _ _ ⟨v, H', I', r, q'⟩ => ⟨v, H', I', r, q' (inv_ap I')⟩⟩
theorem ptM {e : Expr} {t t' : TT} (h : PT X e t) (i : ∀ σ H Q, t' σ H Q → Apart X.K H → t σ H (fun v H' => Apart X.K H' → Q v H')) : PT X e t' := ⟨fun pins s σ H Q I q => thn (h.run pins s σ H _ I (i _ _ _ q (inv_ap I))) fun _ _ ⟨H', I', q'⟩ => ⟨H', I', q' (inv_ap I')⟩⟩
theorem pwM {e : Expr} {t t' : TT} (h : PW X e t) (i : ∀ σ H Q, t' σ H Q → Apart X.K H → t σ H (fun v H' => Apart X.K H' → Q v H')) : PW X e t' := ⟨fun wh pins s σ H Q I q => thn (h.run wh pins s σ H _ I (i _ _ _ q (inv_ap I))) fun _ _ ⟨H', I', q'⟩ => ⟨H', I', q' (inv_ap I')⟩⟩
theorem psM {st : Stmt} {t t' : TS} (h : PS X st t) (i : ∀ D σ H, t' D σ H → Apart X.K H → t ⟨fun σ' H' => Apart X.K H' → D.nx σ' H', fun v H' => Apart X.K H' → D.rt v H', fun σ' H' => Apart X.K H' → D.bk σ' H', fun σ' H' => Apart X.K H' → D.ct σ' H'⟩ σ H) : PS X st t' := ⟨fun pins s σ H D I q => thn (h.run pins s σ H _ I (i _ _ _ q (inv_ap I))) fun f _ q => by
  cases f with
  | next => obtain ⟨σ', H', I', q'⟩ := q; exact ⟨σ', H', I', q' (inv_ap I')⟩
  | brk => obtain ⟨σ', H', I', q'⟩ := q; exact ⟨σ', H', I', q' (inv_ap I')⟩
  | cont => obtain ⟨σ', H', I', q'⟩ := q; exact ⟨σ', H', I', q' (inv_ap I')⟩
  | ret v => obtain ⟨x, σ', H', I', r, q'⟩ := q; exact ⟨x, σ', H', I', r, q' (inv_ap I')⟩⟩
/-- a new dict may be locked for ever -/
def Lk (Q : VK) : VK := fun v H' => (∃ p kvs, v = .ref p ∧ H' p = some (.dK kvs) ∧ ∀ od, Q v (upd H' p (.frz od (.dK kvs)))) ∨ (∃ p kvs, v = .ref p ∧ H' p = some (.dT kvs) ∧ ∀ od, Q v (upd H' p (.frz od (.dT kvs)))) ∨ Q v H'
theorem peLk {e : Expr} {t : TE} (h : PE X e t) : PE X e (fun σ H Q => t σ H (Lk Q)) := ⟨fun pins s σ H Q I q => thn (h.run pins s σ H _ I q) fun _ _ ⟨v, H', I', r, q'⟩ => by
  rcases q' with ⟨p, kvs, rfl, e, q⟩ | ⟨p, kvs, rfl, e, q⟩ | q
  · obtain ⟨od, I2⟩ := I'.lock e True.intro
    exact ⟨_, _, I2, r, q od⟩
  · obtain ⟨od, I2⟩ := I'.lock e True.intro
    exact ⟨_, _, I2, r, q od⟩
  · exact ⟨_, _, I', r, q⟩⟩
theorem peK {e : Expr} {t t' : TE} (h : PE X e t) (i : ∀ σ H Q, t' σ H Q → Apart X.K H → t σ H (fun v H' => Apart X.K H' → Lk Q v H')) : PE X e t' := peImp (peLk (peAp h)) i
end
end Mi

namespace Mi
open PySem PySem.Spec PyProof.Rows L2 R
/-! ### looking at an open object -/
def Ob.d : Ob → D
  | .lst xs => .lst xs
  | .dic kvs => .dic kvs
  | .dtt kvs => .dtt kvs
  | .ins c fs => .ins c fs
def vw (O : Sto) : D → D
  | .ref n => match O[n]? with
    | some (some o) => o.d
    | _ => .ref n
  | .ktp xs => .tup xs
  | d => d
theorem vw_non {O : Sto} : vw O .non = .non := rfl
theorem vw_bl {O : Sto} {b : Bool} : vw O (.bl b) = .bl b := rfl
theorem vw_int {O : Sto} {b : Int} : vw O (.int b) = .int b := rfl
theorem vw_str {O : Sto} {b : Str} : vw O (.str b) = .str b := rfl
theorem vw_lst {O : Sto} {b : List D} : vw O (.lst b) = .lst b := rfl
theorem vw_kls {O : Sto} {b : List D} : vw O (.kls b) = .kls b := rfl
theorem vw_kdc {O : Sto} {b} : vw O (.kdc b) = .kdc b := rfl
theorem vw_ktp {O : Sto} {b} : vw O (.ktp b) = .tup b := rfl
theorem vw_tup {O : Sto} {b : List D} : vw O (.tup b) = .tup b := rfl
theorem vw_dic {O : Sto} {b} : vw O (.dic b) = .dic b := rfl
theorem vw_dtt {O : Sto} {b} : vw O (.dtt b) = .dtt b := rfl
theorem vw_ins {O : Sto} {c b} : vw O (.ins c b) = .ins c b := rfl
theorem vw_ty {O : Sto} {c} : vw O (.ty c) = .ty c := rfl
theorem vw_glo {O : Sto} {c} : vw O (.glo c) = .glo c := rfl
theorem vw_ref {O : Sto} {n : Nat} {o : Ob} (h : O[n]? = some (some o)) : vw O (.ref n) = o.d := by
  show (match O[n]? with | some (some o) => o.d | _ => D.ref n) = o.d
  rw [h]
section
variable {k : Ct} {ρ : List Addr} {F : Hp} {O : Sto} {H : Hp} {v : V} {x : D}
theorem vw_cases (x : D) (O : Sto) : vw O x = x ∨ (∃ n o, x = .ref n ∧ O[n]? = some (some o) ∧ vw O x = o.d) ∨ ∃ xs, x = .ktp xs ∧ vw O x = .tup xs := by
  cases x with
  | ktp xs => exact .inr (.inr ⟨xs, rfl, rfl⟩)
  | ref n =>
    cases h : O[n]? with
    | none => left; show (match O[n]? with | some (some o) => o.d | _ => D.ref n) = _; rw [h]
    | some w =>
      cases w with
      | none => left; show (match O[n]? with | some (some o) => o.d | _ => D.ref n) = _; rw [h]
      | some o => exact .inr (.inl ⟨n, o, rfl, h, vw_ref h⟩)
  | _ => exact .inl rfl
theorem Rel.live (R : Rel k ρ F O H) (r : Rep k ρ F v (.ref n)) {o : Ob} (h : O[n]? = some (some o)) : ∃ a, v = .ref a ∧ ρ[n]? = some a ∧ F a = none ∧ ObR k ρ F H a o := by
  cases r with
  | ref e => exact ⟨_, rfl, e, R.ob _ _ _ h e⟩
theorem lst_H {p : Addr} {vs : List V} (R : Rel k ρ F O H) (h : F p = some (.lst vs)) : H p = some (.lst vs) := R.fr _ _ h
theorem kls_H {p : Addr} {vs : List V} (R : Rel k ρ F O H) (h : lstv k.K F p = some vs) : lstv k.K H p = some vs := by
  unfold lstv at h
  split at h
  · rename_i e; cases h; exact lstv_of (R.fr _ _ e)
  · rename_i e; cases h; exact lstv_frz (R.fr _ _ e)
  · obtain ⟨o, q⟩ := klst_in h
    unfold lstv
    rw [R.ap _ _ q]
    exact h
  · cases h
theorem tup_H {p : Addr} {vs : List V} (R : Rel k ρ F O H) (h : F p = some (.tup vs)) : H p = some (.tup vs) := R.fr _ _ h
theorem lkv_H {p : Addr} {vs} (R : Rel k ρ F O H) (h : lkv F p = some vs) : Rd H p (.dK vs) := by
  unfold lkv at h
  split at h
  · rename_i e; cases h; exact .inr ⟨_, R.fr _ _ e⟩
  · cases h
theorem ltv_H {p : Addr} {vs} (R : Rel k ρ F O H) (h : ltv F p = some vs) : Rd H p (.dT vs) := by
  unfold ltv at h
  split at h
  · rename_i e; cases h; exact .inr ⟨_, R.fr _ _ e⟩
  · cases h
theorem see_int {i : Int} (r : Rep k ρ F v x) (h : vw O x = .int i) : v = .int i := by
  rcases vw_cases x O with e | ⟨n, o, rfl, _, e⟩ | ⟨_, rfl, e⟩
  · rw [e] at h; subst h; cases r; rfl
  · rw [e] at h; cases o <;> cases h
  · rw [e] at h; cases h
theorem see_str {i : Str} (r : Rep k ρ F v x) (h : vw O x = .str i) : v = .str i := by
  rcases vw_cases x O with e | ⟨n, o, rfl, _, e⟩ | ⟨_, rfl, e⟩
  · rw [e] at h; subst h; cases r; rfl
  · rw [e] at h; cases o <;> cases h
  · rw [e] at h; cases h
theorem see_bl {i : Bool} (r : Rep k ρ F v x) (h : vw O x = .bl i) : v = .bl i := by
  rcases vw_cases x O with e | ⟨n, o, rfl, _, e⟩ | ⟨_, rfl, e⟩
  · rw [e] at h; subst h; cases r; rfl
  · rw [e] at h; cases o <;> cases h
  · rw [e] at h; cases h
theorem see_non (r : Rep k ρ F v x) (h : vw O x = .non) : v = .non := by
  rcases vw_cases x O with e | ⟨n, o, rfl, _, e⟩ | ⟨_, rfl, e⟩
  · rw [e] at h; subst h; cases r; rfl
  · rw [e] at h; cases o <;> cases h
  · rw [e] at h; cases h
theorem see_ty {i : String} (r : Rep k ρ F v x) (h : vw O x = .ty i) : v = .ty i := by
  rcases vw_cases x O with e | ⟨n, o, rfl, _, e⟩ | ⟨_, rfl, e⟩
  · rw [e] at h; subst h; cases r; rfl
  · rw [e] at h; cases o <;> cases h
  · rw [e] at h; cases h
theorem see_kls {xs : List D} (R : Rel k ρ F O H) (r : Rep k ρ F v x) (h : vw O x = .kls xs) : ∃ a vs, v = .ref a ∧ lstv k.K H a = some vs ∧ Reps k ρ F vs xs := by
  rcases vw_cases x O with e | ⟨n, o, rfl, ho, e⟩ | ⟨_, rfl, e⟩
  · rw [e] at h; subst h
    cases r with
    | kls h1 h2 => exact ⟨_, _, rfl, kls_H R h1, h2⟩
  · rw [e] at h; cases o <;> cases h
  · rw [e] at h; cases h
theorem see_kdc {xs} (r : Rep k ρ F v x) (h : vw O x = .kdc xs) : ∃ a vs, v = .ref a ∧ KdV k.K k.w a vs ∧ vs.map (·.1) = xs.map (·.1) ∧ Reps k ρ F (vs.map (·.2)) (xs.map (·.2)) := by
  rcases vw_cases x O with e | ⟨n, o, rfl, ho, e⟩ | ⟨_, rfl, e⟩
  · rw [e] at h; subst h
    cases r with
    | kdc h1 h2 h3 => exact ⟨_, _, rfl, h1, h2, h3⟩
  · rw [e] at h; cases o <;> cases h
  · rw [e] at h; cases h
theorem see_lst {xs : List D} (R : Rel k ρ F O H) (r : Rep k ρ F v x) (h : vw O x = .lst xs) : ∃ a vs, v = .ref a ∧ H a = some (.lst vs) ∧ Reps k ρ F vs xs := by
  rcases vw_cases x O with e | ⟨n, o, rfl, ho, e⟩ | ⟨_, rfl, e⟩
  · rw [e] at h; subst h
    cases r with
    | lst h1 h2 => exact ⟨_, _, rfl, lst_H R h1, h2⟩
  · rw [e] at h
    obtain ⟨a, rfl, _, _, b⟩ := R.live r ho
    cases o <;> cases h
    obtain ⟨vs, b1, b2⟩ := b
    exact ⟨a, vs, rfl, b1, b2⟩
  · rw [e] at h; cases h
theorem see_tup {xs : List D} (R : Rel k ρ F O H) (r : Rep k ρ F v x) (h : vw O x = .tup xs) : ∃ a vs, v = .ref a ∧ tupv k.K H a = some vs ∧ Reps k ρ F vs xs := by
  rcases vw_cases x O with e | ⟨n, o, rfl, ho, e⟩ | ⟨_, rfl, e⟩
  · rw [e] at h; subst h
    cases r with
    | tup h1 h2 => exact ⟨_, _, rfl, tupv_of (tup_H R h1), h2⟩
  · rw [e] at h
    cases o <;> cases h
  · rw [e] at h; cases h
    cases r with
    | ktp h1 h2 => exact ⟨_, _, rfl, tupv_K h1 R.ap, h2⟩
theorem see_dic {xs} (R : Rel k ρ F O H) (r : Rep k ρ F v x) (h : vw O x = .dic xs) : ∃ a vs, v = .ref a ∧ Rd H a (.dK vs) ∧ vs.map (·.1) = xs.map (·.1) ∧ Reps k ρ F (vs.map (·.2)) (xs.map (·.2)) := by
  rcases vw_cases x O with e | ⟨n, o, rfl, ho, e⟩ | ⟨_, rfl, e⟩
  · rw [e] at h; subst h
    cases r with
    | dic h1 h2 h3 => exact ⟨_, _, rfl, lkv_H R h1, h2, h3⟩
  · rw [e] at h
    obtain ⟨a, rfl, _, _, b⟩ := R.live r ho
    cases o <;> cases h
    obtain ⟨vs, b1, b2, b3⟩ := b
    exact ⟨a, vs, rfl, .inl b1, b2, b3⟩
  · rw [e] at h; cases h
theorem see_dtt {xs} (R : Rel k ρ F O H) (r : Rep k ρ F v x) (h : vw O x = .dtt xs) : ∃ a vs, v = .ref a ∧ Rd H a (.dT vs) ∧ vs.map (·.1) = xs.map (·.1) ∧ Reps k ρ F (vs.map (·.2)) (xs.map (·.2)) := by
  rcases vw_cases x O with e | ⟨n, o, rfl, ho, e⟩ | ⟨_, rfl, e⟩
  · rw [e] at h; subst h
    cases r with
    | dtt h1 h2 h3 => exact ⟨_, _, rfl, ltv_H R h1, h2, h3⟩
  · rw [e] at h
    obtain ⟨a, rfl, _, _, b⟩ := R.live r ho
    cases o <;> cases h
    obtain ⟨vs, b1, b2, b3⟩ := b
    exact ⟨a, vs, rfl, .inl b1, b2, b3⟩
  · rw [e] at h; cases h
theorem see_ins {c : String} {xs} (R : Rel k ρ F O H) (r : Rep k ρ F v x) (h : vw O x = .ins c xs) : ∃ a dx vs, v = .ref a ∧ H a = some (.ins (k.ad c) dx vs) ∧ vs.map (·.1) = xs.map (·.1) ∧ Reps k ρ F (vs.map (·.2)) (xs.map (·.2)) := by
  rcases vw_cases x O with e | ⟨n, o, rfl, ho, e⟩ | ⟨_, rfl, e⟩
  · rw [e] at h; subst h
    cases r with
    | ins h1 h2 h3 => exact ⟨_, _, _, rfl, R.fr _ _ h1, h2, h3⟩
  · rw [e] at h
    obtain ⟨a, rfl, _, _, b⟩ := R.live r ho
    cases o <;> cases h
    obtain ⟨dx, vs, b1, b2, b3⟩ := b
    exact ⟨a, dx, vs, rfl, b1, b2, b3⟩
  · rw [e] at h; cases h
/-- a list in K is no tuple there -/
theorem tupv_not_lst {K : PySem.W.Frag} {p : Addr} {vs : List V} (h : tupv K H p = some vs) : lstv K H p = none := by
  unfold tupv at h
  unfold lstv
  split at h
  · rename_i e; rw [e]
  · rename_i e; rw [e]
  · rename_i e
    rw [e]
    unfold ktup at h
    split at h
    · rename_i he
      have q := Classical.choose_spec he
      rcases q with (q | ⟨_, q⟩) | ⟨o, its, n, q1, q2, _⟩
      · cases q
      · cases q
      · unfold klst
        rw [dif_neg]
        rintro ⟨xs, (z | ⟨_, z⟩) | ⟨o', its', n', z1, z2, _⟩⟩
        · cases z
        · cases z
        · rw [q1] at z1; cases z1
          rw [q2] at z2; simp at z2
    · cases h
  · cases h
theorem sqv_tup {K : PySem.W.Frag} {p : Addr} {vs : List V} (h : tupv K H p = some vs) : sqv K H p = some vs := by
  unfold sqv; rw [tupv_not_lst h]; exact h
/-! ### new things -/
def mk (o : Bool) (c : Ob) (O : Sto) : ER := if o then .val (.ref O.length) (O ++ [some c]) else .val c.d O
theorem F_none (R : Rel k ρ F O H) {p : Addr} (h : H p = none) : F p = none := by
  cases e : F p with
  | none => rfl
  | some u => have z := R.fr _ _ e; rw [h] at z; cases z
theorem notLiv (R : Rel k ρ F O H) {p : Addr} (h : H p = none) : ¬ Liv ρ O p := by
  rintro ⟨n, o, h1, h2⟩
  obtain ⟨_, b⟩ := R.ob n p o h1 h2
  cases o with
  | lst _ => obtain ⟨_, b, _⟩ := b; rw [h] at b; cases b
  | dic _ => obtain ⟨_, b, _⟩ := b; rw [h] at b; cases b
  | dtt _ => obtain ⟨_, b, _⟩ := b; rw [h] at b; cases b
  | ins _ _ => obtain ⟨_, _, b, _⟩ := b; rw [h] at b; cases b
theorem ObR.up {a p : Addr} {u : HO} {o : Ob} (b : ObR k ρ F H a o) (h : H p = none) : ObR k ρ F (upd H p u) a o := by
  cases o with
  | lst _ => obtain ⟨vs, b, c⟩ := b; exact ⟨vs, by rw [upd_ne (ne_of_none b h)]; exact b, c⟩
  | dic _ => obtain ⟨vs, b, c⟩ := b; exact ⟨vs, by rw [upd_ne (ne_of_none b h)]; exact b, c⟩
  | dtt _ => obtain ⟨vs, b, c⟩ := b; exact ⟨vs, by rw [upd_ne (ne_of_none b h)]; exact b, c⟩
  | ins _ _ => obtain ⟨dx, vs, b, c⟩ := b; exact ⟨dx, vs, by rw [upd_ne (ne_of_none b h)]; exact b, c⟩
theorem ObR.mono {ρ' : List Addr} {F' : Hp} {a : Addr} {o : Ob} (pr : ∀ (n : Nat) (a : Addr), ρ[n]? = some a → ρ'[n]? = some a) (ff : ∀ a u, F a = some u → F' a = some u) (ap : Apart k.K F') (b : ObR k ρ F H a o) : ObR k ρ' F' H a o := by
  cases o with
  | lst _ => obtain ⟨vs, b, c⟩ := b; exact ⟨vs, b, c.mono pr ff ap⟩
  | dic _ => obtain ⟨vs, b, e, c⟩ := b; exact ⟨vs, b, e, c.mono pr ff ap⟩
  | dtt _ => obtain ⟨vs, b, e, c⟩ := b; exact ⟨vs, b, e, c.mono pr ff ap⟩
  | ins _ _ => obtain ⟨dx, vs, b, e, c⟩ := b; exact ⟨dx, vs, b, e, c.mono pr ff ap⟩
theorem ObR.here {a : Addr} {o : Ob} (b : ObR k ρ F H a o) : H a ≠ none := by
  cases o with
  | lst _ => obtain ⟨vs, b, c⟩ := b; rw [b]; simp
  | dic _ => obtain ⟨vs, b, c⟩ := b; rw [b]; simp
  | dtt _ => obtain ⟨vs, b, c⟩ := b; rw [b]; simp
  | ins _ _ => obtain ⟨dx, vs, b, c⟩ := b; rw [b]; simp
theorem ObR.nt {a : Addr} {o : Ob} (b : ObR k ρ F H a o) : ∀ ps, H a ≠ some (.tbl ps) := fun ps e => by
  cases o with
  | lst _ => obtain ⟨vs, b, c⟩ := b; rw [b] at e; cases e
  | dic _ => obtain ⟨vs, b, c⟩ := b; rw [b] at e; cases e
  | dtt _ => obtain ⟨vs, b, c⟩ := b; rw [b] at e; cases e
  | ins _ _ => obtain ⟨dx, vs, b, c⟩ := b; rw [b] at e; cases e
/-- a thing that is not tracked as ours is laid beside -/
theorem Rel.side (R : Rel k ρ F O H) {p : Addr} {u : HO} (h : H p = none) (ap : Apart k.K (upd H p u)) : Rel k ρ F O (upd H p u) ∧ Tr ρ F O H ρ F O (upd H p u) := by
  refine ⟨⟨⟨fun a w e => ?_, R.len, fun n a o h1 h2 => ?_, R.inj, R.tb.new h⟩, ap⟩, ⟨⟨[], by simp, by simp⟩, fun _ _ e => e, fun n o' _ e => ⟨o', e⟩, fun a o e _ => by rw [upd_ne (ne_of_none e h)]; exact e, fun a e e' => absurd e e', fun a e => ?_⟩⟩
  · have ne : a ≠ p := ne_of_none e (F_none R h)
    rw [upd_ne ne]; exact R.fr a w e
  · exact ⟨(R.ob n a o h1 h2).1, (R.ob n a o h1 h2).2.up h⟩
  · by_cases hb : a = p
    · rw [hb, upd_same]; simp
    · rw [upd_ne hb]; exact e
/-- a new thing for ever -/
theorem Rel.tree (R : Rel k ρ F O H) {p : Addr} {u : HO} (h : H p = none) (ap : Apart k.K (upd H p u)) : Rel k ρ (upd F p u) O (upd H p u) ∧ Tr ρ F O H ρ (upd F p u) O (upd H p u) := by
  have hF := F_none R h
  have apF : Apart k.K (upd F p u) := fun b o e => by
    by_cases hb : b = p
    · have := ap b o e
      rw [hb, upd_same] at this; cases this
    · rw [upd_ne hb]; exact R.apF b o e
  have ff : ∀ a w, F a = some w → upd F p u a = some w := fun a w e => by rw [upd_ne (ne_of_none e hF)]; exact e
  refine ⟨⟨⟨fun a w e => ?_, R.len, fun n a o h1 h2 => ?_, R.inj, (R.tb.newF h).new h⟩, ap⟩, ⟨⟨[], by simp, by simp⟩, ff, fun n o' _ e => ⟨o', e⟩, fun a o e _ => by rw [upd_ne (ne_of_none e h)]; exact e, fun a e e' => ?_, fun a e => ?_⟩⟩
  · by_cases hb : a = p
    · subst hb; rw [upd_same] at e ⊢; exact e
    · rw [upd_ne hb] at e ⊢; exact R.fr a w e
  · obtain ⟨f, b⟩ := R.ob n a o h1 h2
    have ne : a ≠ p := fun z => by subst z; exact b.here h
    exact ⟨by rw [upd_ne ne]; exact f, (b.up h).mono (fun _ _ e => e) ff apF⟩
  · by_cases hb : a = p
    · subst hb; exact .inl h
    · rw [upd_ne hb] at e'; exact absurd e e'
  · by_cases hb : a = p
    · rw [hb, upd_same]; simp
    · rw [upd_ne hb]; exact e
/-- a new open object -/
theorem Rel.open (R : Rel k ρ F O H) {p : Addr} {u : HO} {o : Ob} (h : H p = none) (ap : Apart k.K (upd H p u)) (b : ObR k ρ F (upd H p u) p o) :
    Rel k (ρ ++ [p]) F (O ++ [some o]) (upd H p u) ∧ Tr ρ F O H (ρ ++ [p]) F (O ++ [some o]) (upd H p u) := by
  have pr : ∀ (n : Nat) (a : Addr), ρ[n]? = some a → (ρ ++ [p])[n]? = some a := fun n a e => by
    rw [List.getElem?_append_left (List.getElem?_eq_some_iff.mp e).1]; exact e
  have cs : ∀ (n : Nat) (a : Addr) (o2 : Ob), (O ++ [some o])[n]? = some (some o2) → (ρ ++ [p])[n]? = some a → (O[n]? = some (some o2) ∧ ρ[n]? = some a) ∨ (n = O.length ∧ o2 = o ∧ a = p) := fun n a o2 h1 h2 => by
    by_cases hn : n < O.length
    · rw [List.getElem?_append_left hn] at h1
      rw [List.getElem?_append_left (by rw [R.len]; exact hn)] at h2
      exact .inl ⟨h1, h2⟩
    · have hl : n < O.length + 1 := by
        have := (List.getElem?_eq_some_iff.mp h1).1
        simpa using this
      have : n = O.length := by omega
      subst this
      rw [List.getElem?_append_right (by omega)] at h1
      rw [List.getElem?_append_right (by rw [R.len]; omega)] at h2
      simp [R.len] at h1 h2
      exact .inr ⟨rfl, h1.symm, h2.symm⟩
  refine ⟨⟨⟨fun a w e => ?_, by simp [R.len], fun n a o2 h1 h2 => ?_, fun n m a o1 o2 h1 h2 h3 h4 => ?_, R.tb.new h⟩, ap⟩, ⟨⟨[p], rfl, by simpa using h⟩, fun _ _ e => e, fun n o' hn e => ?_, fun a w e _ => by rw [upd_ne (ne_of_none e h)]; exact e, fun a e e' => absurd e e', fun a e => ?_⟩⟩
  · rw [upd_ne (ne_of_none e (F_none R h))]; exact R.fr a w e
  · rcases cs n a o2 h1 h2 with ⟨z1, z2⟩ | ⟨_, rfl, rfl⟩
    · exact ⟨(R.ob n a o2 z1 z2).1, ((R.ob n a o2 z1 z2).2.up h).mono pr (fun _ _ e => e) R.apF⟩
    · exact ⟨F_none R h, b.mono pr (fun _ _ e => e) R.apF⟩
  · rcases cs n a o1 h1 h3 with ⟨z1, z2⟩ | ⟨rfl, rfl, rfl⟩
    · rcases cs m a o2 h2 h4 with ⟨w1, w2⟩ | ⟨rfl, rfl, rfl⟩
      · exact R.inj n m a o1 o2 z1 w1 z2 w2
      · exact absurd h ((R.ob n a o1 z1 z2).2.here)
    · rcases cs m a o2 h2 h4 with ⟨w1, w2⟩ | ⟨rfl, rfl, _⟩
      · exact absurd h ((R.ob m a o2 w1 w2).2.here)
      · rfl
  · rw [List.getElem?_append_left (by rw [← R.len]; exact hn)] at e
    exact ⟨o', e⟩
  · by_cases hb : a = p
    · rw [hb, upd_same]; simp
    · rw [upd_ne hb]; exact e
variable {Q : VK} {W : XK}
theorem mk_ok {o : Bool} {c : Ob} {p : Addr} {u : HO} (R : Rel k ρ F O H) (hp : H p = none) (ap : Apart k.K (upd H p u)) (b : ObR k ρ F (upd H p u) p c)
    (t : Rep k ρ (upd F p u) (.ref p) c.d) (h : EP k ρ F O H Q W (mk o c O)) : Q (.ref p) (upd H p u) := by
  unfold mk at h
  cases o with
  | true =>
    obtain ⟨R', T⟩ := R.open hp ap b
    exact h _ _ _ _ T R' (.ref (by rw [List.getElem?_append_right (by rw [R.len]; exact Nat.le_refl _)]; simp [R.len]))
  | false =>
    obtain ⟨R', T⟩ := R.tree (u := u) hp ap
    exact h _ _ _ _ T R' t
theorem apart_ff (R : Rel k ρ F O H) {p : Addr} {u : HO} (hp : H p = none) (ap : Apart k.K (upd H p u)) : (∀ a w, F a = some w → upd F p u a = some w) ∧ Apart k.K (upd F p u) := by
  have hF := F_none R hp
  refine ⟨fun a w e => by rw [upd_ne (ne_of_none e hF)]; exact e, fun b o e => ?_⟩
  by_cases hb : b = p
  · have := ap b o e
    rw [hb, upd_same] at this; cases this
  · rw [upd_ne hb]; exact R.apF b o e
theorem mk_lst {o : Bool} {ds : List D} {vs : List V} {p : Addr} (R : Rel k ρ F O H) (r : Reps k ρ F vs ds) (hp : H p = none) (ap : Apart k.K (upd H p (.lst vs))) (h : EP k ρ F O H Q W (mk o (.lst ds) O)) : Q (.ref p) (upd H p (.lst vs)) :=
  mk_ok (c := .lst ds) R hp ap ⟨vs, upd_same, r⟩ (.lst upd_same (r.mono (fun _ _ e => e) (apart_ff R hp ap).1 (apart_ff R hp ap).2)) h
theorem upd_upd' {p : Addr} {u u' : HO} : upd (upd H p u) p u' = upd H p u' := upd_upd
theorem ap_in {K : PySem.W.Frag} {p : Addr} {u u' : HO} (ap : Apart K (upd H p u)) : Apart K (upd H p u') := fun b o e => by
  have := ap b o e
  by_cases hb : b = p
  · subst hb; rw [upd_same] at this; cases this
  · rw [upd_ne hb] at this ⊢; exact this
theorem mk_dic {o : Bool} {ds : List (Key × D)} {vs : List (Key × V)} {p : Addr} (R : Rel k ρ F O H) (e : vs.map (·.1) = ds.map (·.1)) (r : Reps k ρ F (vs.map (·.2)) (ds.map (·.2))) (hp : H p = none) (ap : Apart k.K (upd H p (.dK vs))) (h : EP k ρ F O H Q W (mk o (.dic ds) O)) : Lk Q (.ref p) (upd H p (.dK vs)) := by
  cases o with
  | true => exact .inr (.inr (by
      obtain ⟨R', T⟩ := R.open (o := .dic ds) hp ap ⟨vs, upd_same, e, r⟩
      exact h _ _ _ _ T R' (.ref (by rw [List.getElem?_append_right (by rw [R.len]; exact Nat.le_refl _)]; simp [R.len]))))
  | false =>
    refine .inl ⟨p, vs, rfl, upd_same, fun od => ?_⟩
    rw [upd_upd]
    have ap' := ap_in (u' := .frz od (.dK vs)) ap
    obtain ⟨R', T⟩ := R.tree hp ap'
    exact h _ _ _ _ T R' (.dic (by unfold lkv; rw [upd_same]) e (r.mono (fun _ _ e => e) (apart_ff R hp ap').1 (apart_ff R hp ap').2))
theorem mk_dtt {o : Bool} {ds : List (List Key × D)} {vs : List (List Key × V)} {p : Addr} (R : Rel k ρ F O H) (e : vs.map (·.1) = ds.map (·.1)) (r : Reps k ρ F (vs.map (·.2)) (ds.map (·.2))) (hp : H p = none) (ap : Apart k.K (upd H p (.dT vs))) (h : EP k ρ F O H Q W (mk o (.dtt ds) O)) : Lk Q (.ref p) (upd H p (.dT vs)) := by
  cases o with
  | true => exact .inr (.inr (by
      obtain ⟨R', T⟩ := R.open (o := .dtt ds) hp ap ⟨vs, upd_same, e, r⟩
      exact h _ _ _ _ T R' (.ref (by rw [List.getElem?_append_right (by rw [R.len]; exact Nat.le_refl _)]; simp [R.len]))))
  | false =>
    refine .inr (.inl ⟨p, vs, rfl, upd_same, fun od => ?_⟩)
    rw [upd_upd]
    have ap' := ap_in (u' := .frz od (.dT vs)) ap
    obtain ⟨R', T⟩ := R.tree hp ap'
    exact h _ _ _ _ T R' (.dtt (by unfold ltv; rw [upd_same]) e (r.mono (fun _ _ e => e) (apart_ff R hp ap').1 (apart_ff R hp ap').2))
/-- a new tuple is a tree -/
theorem mk_tup {ds : List D} {vs : List V} {p : Addr} (R : Rel k ρ F O H) (r : Reps k ρ F vs ds) (hp : H p = none) (ap : Apart k.K (upd H p (.tup vs))) (h : EP k ρ F O H Q W (.val (.tup ds) O)) : Q (.ref p) (upd H p (.tup vs)) := by
  obtain ⟨R', T⟩ := R.tree (u := .tup vs) hp ap
  exact h _ _ _ _ T R' (.tup upd_same (r.tr T R'))
theorem val_ok {x : D} (R : Rel k ρ F O H) (r : Rep k ρ F v x) (h : EP k ρ F O H Q W (.val x O)) : Q v H := h _ _ _ _ .refl R r
end
/-! ### names, constants -/
def dVar (i : Nat) : DE := fun ε O => match ε[i]? with
  | some (.v d) => .val d O
  | _ => .stk
def dC (d : D) : DE := fun _ O => .val d O
section
variable {X : Cx} {y : Option Yx} {W : WX} {ad : String → Addr}
theorem pd_var {e : Expr} {i : Nat} (h : PE X e (tVar i)) : PE X e (tE ⟨X.K, X.w, ad⟩ y W (dVar i)) := peM h fun σ H Q ⟨ρ, F, O, ε, R, S, q⟩ _ => by
  unfold dVar at q
  split at q
  · rename_i d e
    obtain ⟨v, h1, h2⟩ := (S.2 i).1 d e
    exact ⟨v, h1, fun _ => val_ok R h2 q⟩
  · exact q.elim
/-- a constant: the same tree at every time -/
def KRep (k : Ct) (v : V) (d : D) : Prop := ∀ ρ F, Apart k.K F → Rep k ρ F v d
theorem pd_c {e : Expr} {v : V} {d : D} (h : PE X e (tC v)) (r : KRep ⟨X.K, X.w, ad⟩ v d) : PE X e (tE ⟨X.K, X.w, ad⟩ y W (dC d)) := peM h fun σ H Q ⟨ρ, F, O, ε, R, S, q⟩ _ => by
  exact fun _ => val_ok R (r ρ F R.apF) q
variable {k : Ct}
theorem kr_non : KRep k .non .non := fun _ _ _ => .non
theorem kr_bl {b : Bool} : KRep k (.bl b) (.bl b) := fun _ _ _ => .bl b
theorem kr_int {b : Int} : KRep k (.int b) (.int b) := fun _ _ _ => .int b
theorem kr_str {b : Str} : KRep k (.str b) (.str b) := fun _ _ _ => .str b
theorem kr_ty {b : String} : KRep k (.ty b) (.ty b) := fun _ _ _ => .ty b
theorem kr_glo {a : Addr} {x : String} (h : k.ad x = a) : KRep k (.ref a) (.glo x) := fun _ _ _ => by subst h; exact .glo x
theorem kr_tup {a : Addr} {vs : List V} {ds : List D} (h : KTup k.K a vs) (r : ∀ ρ F, Apart k.K F → Reps k ρ F vs ds) : KRep k (.ref a) (.ktp ds) := fun ρ F ap => .ktp h (r ρ F ap)
end
end Mi

namespace Mi
open PySem PySem.Spec PyProof.Rows L2 R
/-! ### operations by values -/
def ROp (K : PySem.W.Frag) (w : World) (r : R2) (op : Sto → D → D → ER) : Prop := ∀ (ad : String → Addr) (ρ : List Addr) (F : Hp) (O : Sto) (H : Hp) (a b : V) (x y : D) (Q : VK) (W : XK), Rel ⟨K, w, ad⟩ ρ F O H → Rep ⟨K, w, ad⟩ ρ F a x → Rep ⟨K, w, ad⟩ ρ F b y →
  EP ⟨K, w, ad⟩ ρ F O H Q W (op O x y) → r a b H (fun v H' => Apart K H' → Q v H')
def RUn (K : PySem.W.Frag) (w : World) (r : V → Hp → VK → Prop) (op : Sto → D → ER) : Prop := ∀ (ad : String → Addr) (ρ : List Addr) (F : Hp) (O : Sto) (H : Hp) (a : V) (x : D) (Q : VK) (W : XK), Rel ⟨K, w, ad⟩ ρ F O H → Rep ⟨K, w, ad⟩ ρ F a x →
  EP ⟨K, w, ad⟩ ρ F O H Q W (op O x) → r a H (fun v H' => Apart K H' → Q v H')
def RCl (K : PySem.W.Frag) (w : World) (r : List V → Hp → VK → Prop) (op : Sto → List D → ER) : Prop := ∀ (ad : String → Addr) (ρ : List Addr) (F : Hp) (O : Sto) (H : Hp) (a : List V) (x : List D) (Q : VK) (W : XK), Rel ⟨K, w, ad⟩ ρ F O H → Reps ⟨K, w, ad⟩ ρ F a x →
  EP ⟨K, w, ad⟩ ρ F O H Q W (op O x) → r a H (fun v H' => Apart K H' → Q v H')
/-- the tests by values: no call, no new thing -/
def dOp (op : Sto → D → D → ER) (da db : DE) : DE := fun ε O => (da ε O).bind fun x O1 => (db ε O1).bind fun y O2 => op O2 x y
def dUn (op : Sto → D → ER) (da : DE) : DE := fun ε O => (da ε O).bind fun x O1 => op O1 x
def dCB (op : Sto → List D → ER) (da : DA) : DE := fun ε O => (da ε O).toE fun x O1 => op O1 x
def dNil : DA := fun _ O => .val [] O
def dCons (da : DE) (dr : DA) : DA := fun ε O => (da ε O).toA fun x O1 => (dr ε O1).toA fun xs O2 => .val (x :: xs) O2
section
variable {X : Cx} {y : Option Yx} {W : WX} {ad : String → Addr} {e : Expr} {es : List Expr} {da db : DE} {ds : DA} {r : R2} {op : Sto → D → D → ER}
theorem op_go (hr : ROp X.K X.w r op) {σ : L2.St} {H : Hp} {Q : VK} (h : tE ⟨X.K, X.w, ad⟩ y W (dOp op da db) σ H Q) : tOp r (tE ⟨X.K, X.w, ad⟩ y W da) (tE ⟨X.K, X.w, ad⟩ y W db) σ H (fun v H' => Apart X.K H' → Q v H') := by
  obtain ⟨ρ, F, O, ε, R, S, q⟩ := h
  exact ⟨ρ, F, O, ε, R, S, ep_bind q fun x O1 ρ1 F1 H1 v T1 R1 r1 q1 => ⟨ρ1, F1, O1, ε, R1, S.tr T1 R1, ep_bind q1 fun y O2 ρ2 F2 H2 w T2 R2 r2 q2 => hr ad _ _ _ _ _ _ _ _ _ _ R2 (r1.tr T2 R2) r2 q2⟩⟩
theorem pd_op (hr : ROp X.K X.w r op) (h : PE X e (tOp r (tE ⟨X.K, X.w, ad⟩ y W da) (tE ⟨X.K, X.w, ad⟩ y W db))) : PE X e (tE ⟨X.K, X.w, ad⟩ y W (dOp op da db)) := peM h fun σ H Q q _ => op_go hr q
theorem pd_un {r : V → Hp → VK → Prop} {op : Sto → D → ER} (hr : RUn X.K X.w r op) (h : PE X e (tUn r (tE ⟨X.K, X.w, ad⟩ y W da))) : PE X e (tE ⟨X.K, X.w, ad⟩ y W (dUn op da)) := peM h fun σ H Q ⟨ρ, F, O, ε, R, S, q⟩ _ =>
  ⟨ρ, F, O, ε, R, S, ep_bind q fun x O1 ρ1 F1 H1 v T1 R1 r1 q1 => hr ad _ _ _ _ _ _ _ _ R1 r1 q1⟩
theorem pd_cb {r : List V → Hp → VK → Prop} {op : Sto → List D → ER} (hr : RCl X.K X.w r op) (h : PE X e (tCB r (tA ⟨X.K, X.w, ad⟩ y W ds))) : PE X e (tE ⟨X.K, X.w, ad⟩ y W (dCB op ds)) := peM h fun σ H Q ⟨ρ, F, O, ε, R, S, q⟩ _ =>
  ⟨ρ, F, O, ε, R, S, ap_toE q fun x O1 ρ1 F1 H1 v T1 R1 r1 q1 => hr ad _ _ _ _ _ _ _ _ R1 r1 q1⟩
theorem pd_nil : PA X [] (tA ⟨X.K, X.w, ad⟩ y W dNil) := paM pa_nil fun σ H Q ⟨ρ, F, O, ε, R, S, q⟩ _ => fun _ => q _ _ _ _ .refl R .nil
theorem pd_cons (ha : PE X e (tE ⟨X.K, X.w, ad⟩ y W da)) (hr : PA X es (tA ⟨X.K, X.w, ad⟩ y W ds)) (hs : starEach (e :: es) X.env = (false, eval e X.env) :: starEach es X.env := by rfl) : PA X (e :: es) (tA ⟨X.K, X.w, ad⟩ y W (dCons da ds)) :=
  paM (pa_cons ha hr hs) fun σ H Q ⟨ρ, F, O, ε, R, S, q⟩ _ =>
    ⟨ρ, F, O, ε, R, S, ep_toA q fun x O1 ρ1 F1 H1 v T1 R1 r1 q1 => ⟨ρ1, F1, O1, ε, R1, S.tr T1 R1, ap_toA q1 fun xs O2 ρ2 F2 H2 vs T2 R2 r2 q2 => fun _ => q2 _ _ _ _ .refl R2 (.cons (r1.tr T2 R2) r2)⟩⟩
end
/-! ### sums, products .. -/
def oI (g : Int → Int → D) : Sto → D → D → ER := fun O x y => match x, y with
  | .int i, .int j => .val (g i j) O
  | _, _ => .stk
open Classical in
noncomputable def oIC (C : Int → Int → Prop) (g : Int → Int → D) : Sto → D → D → ER := fun O x y => match x, y with
  | .int i, .int j => if C i j then .val (g i j) O else .stk
  | _, _ => .stk
def tupAdd (x y : D) (a b : List D) : D := match x, y with
  | .tup _, .tup _ => .tup (a ++ b)
  | _, _ => if a.isEmpty then y else if b.isEmpty then x else .tup (a ++ b)
def oAdd (o : Bool) : Sto → D → D → ER := fun O x y => match vw O x, vw O y with
  | .int i, .int j => .val (.int (i + j)) O
  | .str a, .str b => if a.length + b.length ≤ sizeLine then .val (.str (a ++ b)) O else .stk
  | .lst a, .lst b => if a.length + b.length ≤ sizeLine then mk o (.lst (a ++ b)) O else .stk
  | .tup a, .tup b => if a.length + b.length ≤ sizeLine then .val (tupAdd x y a b) O else .stk
  | _, _ => .stk
open Classical in
noncomputable def oMul (o : Bool) : Sto → D → D → ER := fun O x y => match vw O x, y with
  | .int i, .int j => if CM i j then .val (.int (i * j)) O else .stk
  | .lst xs, .int j => if -(2 ^ 63) ≤ j ∧ j < 2 ^ 63 ∧ xs.length * j.toNat ≤ sizeLine then mk o (.lst (List.replicate j.toNat xs).flatten) O else .stk
  | _, _ => .stk

section
variable {K : PySem.W.Frag} {w : World}
theorem s_I {g' : Int → Int → V} {g : Int → Int → D} (hg : ∀ i j k ρ F, Rep k ρ F (g' i j) (g i j)) : ROp K w (mI0 g') (oI g) := fun ad ρ F O H a b x y Q W R rx ry q => by
  unfold oI at q
  split at q
  · cases rx; cases ry
    exact fun _ => val_ok R (hg _ _ _ _ _) q
  · exact q.elim
theorem s_IC {C : Int → Int → Prop} {g' : Int → Int → V} {g : Int → Int → D} (hg : ∀ i j k ρ F, Rep k ρ F (g' i j) (g i j)) : ROp K w (mI C g') (oIC C g) := fun ad ρ F O H a b x y Q W R rx ry q => by
  unfold oIC at q
  split at q
  · split at q
    · cases rx; cases ry
      exact ⟨‹_›, fun _ => val_ok R (hg _ _ _ _ _) q⟩
    · exact q.elim
  · exact q.elim
def rAddA (K : PySem.W.Frag) : R2 := fun x y H Q => rAddU x y H Q ∨ rCatA K x y H Q
theorem u_addA {X : Cx} : OpR X (binaryOp .Add) (rAddA X.K) := u_add.or op_catA
theorem s_add {o : Bool} : ROp K w (rAddA K) (oAdd o) := fun ad ρ F O H a b x y Q W R rx ry q => by
  unfold oAdd at q
  split at q
  · rename_i e1 e2
    obtain rfl := see_int rx e1
    obtain rfl := see_int ry e2
    exact .inl fun _ => val_ok R (.int _) q
  · rename_i e1 e2
    obtain rfl := see_str rx e1
    obtain rfl := see_str ry e2
    split at q
    · exact .inl ⟨‹_›, fun _ => val_ok R (.str _) q⟩
    · exact q.elim
  · rename_i e1 e2
    obtain ⟨p1, vs1, rfl, h1, r1⟩ := see_lst R rx e1
    obtain ⟨p2, vs2, rfl, h2, r2⟩ := see_lst R ry e2
    split at q
    · left
      show rAddU (.ref p1) (.ref p2) H _
      rw [rAddU_lst h1 h2]
      refine ⟨by rw [r1.length, r2.length]; assumption, fun p hp ap => mk_lst R (r1.append r2) hp ap q⟩
    · exact q.elim
  · rename_i e1 e2
    obtain ⟨p1, vs1, rfl, h1, r1⟩ := see_tup R rx e1
    obtain ⟨p2, vs2, rfl, h2, r2⟩ := see_tup R ry e2
    split at q
    · right
      rename_i a1 b1 _
      have hz : ∀ {l : List V} {d : List D}, Reps ⟨K, w, ad⟩ ρ F l d → (l = [] ↔ d = []) := fun r => by cases r <;> simp
      refine ⟨p1, p2, vs1, vs2, rfl, rfl, tupv_sq h1, tupv_sq h2, by rw [r1.length, r2.length]; assumption, fun z _ => ?_, fun z1 z _ => ?_, fun z1 z2 p hp ap => ?_⟩
      · have z' := (hz r1).mp z
        subst z'
        refine val_ok R ?_ q
        unfold tupAdd
        split
        · rename_i hx
          simp only [vw_tup, D.tup.injEq] at e1 e2
          subst e2
          exact ry
        · exact ry
      · have z' := (hz r2).mp z
        subst z'
        refine val_ok R ?_ q
        unfold tupAdd
        split
        · simp only [vw_tup, D.tup.injEq] at e1 e2
          subst e1
          rw [List.append_nil]; exact rx
        · rw [if_neg (by simpa using fun h => z1 ((hz r1).mpr h))]
          exact rx
      · have e3 : tupAdd x y a1 b1 = .tup (a1 ++ b1) := by
          unfold tupAdd
          split
          · rfl
          · rw [if_neg (by simpa using fun h => z1 ((hz r1).mpr h)), if_neg (by simpa using fun h => z2 ((hz r2).mpr h))]
        rw [e3] at q
        exact mk_tup R (r1.append r2) hp ap q
    · exact q.elim
  · exact q.elim
theorem s_mul {o : Bool} : ROp K w rMulU (oMul o) := fun ad ρ F O H a b x y Q W R rx ry q => by
  unfold oMul at q
  split at q
  · rename_i e1
    obtain rfl := see_int rx e1
    cases ry
    split at q
    · exact ⟨‹_›, fun _ => val_ok R (.int _) q⟩
    · exact q.elim
  · rename_i e1
    obtain ⟨p1, vs1, rfl, h1, r1⟩ := see_lst R rx e1
    cases ry
    rename_i j
    split at q
    · rename_i hc
      show rMulU (.ref p1) (.int j) H _
      rw [rMulU_ref, h1]
      refine ⟨hc.1, hc.2.1, by rw [r1.length]; exact hc.2.2, fun p hp ap => mk_lst R ?_ hp ap q⟩
      have : ∀ n : Nat, Reps ⟨K, w, ad⟩ ρ F (List.replicate n vs1).flatten (List.replicate n ‹List D›).flatten := fun n => by
        induction n with
        | zero => exact .nil
        | succ n ih => rw [List.replicate_succ, List.replicate_succ, List.flatten_cons, List.flatten_cons]; exact r1.append ih
      exact this _
    · exact q.elim
  · exact q.elim
end
/-! ### order -/
def oCmp (gi : Int → Int → Bool) (gs : Str → Str → Bool) : Sto → D → D → ER := fun O x y => match x, y with
  | .int i, .int j => .val (.bl (gi i j)) O
  | .str i, .str j => .val (.bl (gs i j)) O
  | _, _ => .stk
def oLt := oCmp (fun i j => decide (i < j)) (fun a b => decide (a.cps.toList < b.cps.toList))
def oLe := oCmp (fun i j => decide (i ≤ j)) (fun a b => !decide (b.cps.toList < a.cps.toList))
def oGt := oCmp (fun i j => decide (j < i)) (fun a b => decide (b.cps.toList < a.cps.toList))
def oGe := oCmp (fun i j => decide (j ≤ i)) (fun a b => !decide (a.cps.toList < b.cps.toList))
section
variable {K : PySem.W.Frag} {w : World}
theorem s_cmp {r : R2} {gi : Int → Int → Bool} {gs : Str → Str → Bool} (h1 : ∀ i j H Q, r (.int i) (.int j) H Q = Q (.bl (gi i j)) H) (h2 : ∀ i j H Q, r (.str i) (.str j) H Q = Q (.bl (gs i j)) H) : ROp K w r (oCmp gi gs) := fun ad ρ F O H a b x y Q W R rx ry q => by
  unfold oCmp at q
  split at q
  · cases rx; cases ry
    rw [h1]; exact fun _ => val_ok R (.bl _) q
  · cases rx; cases ry
    rw [h2]; exact fun _ => val_ok R (.bl _) q
  · exact q.elim
theorem s_lt : ROp K w rLtU oLt := s_cmp (fun _ _ _ _ => rfl) (fun _ _ _ _ => rfl)
theorem s_le : ROp K w rLeU oLe := s_cmp (fun _ _ _ _ => rfl) (fun _ _ _ _ => rfl)
theorem s_gt : ROp K w rGtU oGt := s_cmp (fun _ _ _ _ => rfl) (fun _ _ _ _ => rfl)
theorem s_ge : ROp K w rGeU oGe := s_cmp (fun _ _ _ _ => rfl) (fun _ _ _ _ => rfl)
end
/-! ### data, equality -/
mutual
def D.py : D → PyData
  | .non => .none | .bl b => .bool b | .int i => .int i | .str s => .str s
  | .lst xs => .list (D.pyL xs) | .kls xs => .list (D.pyL xs) | .tup xs => .tuple (D.pyL xs) | .ktp xs => .tuple (D.pyL xs)
  | _ => .none
def D.pyL : List D → List PyData
  | [] => []
  | x :: xs => D.py x :: D.pyL xs
end
mutual
/-- data whose nesting is below n -/
def D.dat : Nat → D → Bool
  | _, .non => true | _, .bl _ => true | _, .int _ => true | _, .str s => PyData.strOk s
  | n + 1, .lst xs => D.datL n xs | n + 1, .kls xs => D.datL n xs | n + 1, .tup xs => D.datL n xs | n + 1, .ktp xs => D.datL n xs
  | _, _ => false
def D.datL : Nat → List D → Bool
  | _, [] => true
  | n, x :: xs => D.dat n x && D.datL n xs
end
mutual
theorem dat_ok : ∀ (n : Nat) (d : D), D.dat n d = true → (D.py d).canLay0 = true ∧ (D.py d).depth ≤ n
  | n, .non, _ => by simp [D.py, PyData.canLay0, PyData.depth]
  | n, .bl _, _ => by simp [D.py, PyData.canLay0, PyData.depth]
  | n, .int _, _ => by simp [D.py, PyData.canLay0, PyData.depth]
  | n, .str s, h => by
    rw [D.dat] at h
    simp [D.py, PyData.canLay0, PyData.depth]; exact h
  | n + 1, .lst xs, h => by
    rw [D.dat] at h
    have := datL_ok n xs h
    simp only [D.py, PyData.canLay0, PyData.depth]; exact ⟨this.1, by omega⟩
  | n + 1, .kls xs, h => by
    rw [D.dat] at h
    have := datL_ok n xs h
    simp only [D.py, PyData.canLay0, PyData.depth]; exact ⟨this.1, by omega⟩
  | n + 1, .tup xs, h => by
    rw [D.dat] at h
    have := datL_ok n xs h
    simp only [D.py, PyData.canLay0, PyData.depth]; exact ⟨this.1, by omega⟩
  | n + 1, .ktp xs, h => by
    rw [D.dat] at h
    have := datL_ok n xs h
    simp only [D.py, PyData.canLay0, PyData.depth]; exact ⟨this.1, by omega⟩
  | 0, .lst xs, h => by simp [D.dat] at h
  | 0, .kls xs, h => by simp [D.dat] at h
  | 0, .tup xs, h => by simp [D.dat] at h
  | 0, .ktp xs, h => by simp [D.dat] at h
  | n, .dic _, h => by cases n <;> simp [D.dat] at h
  | n, .dtt _, h => by cases n <;> simp [D.dat] at h
  | n, .ins _ _, h => by cases n <;> simp [D.dat] at h
  | n, .ref _, h => by cases n <;> simp [D.dat] at h
  | n, .glo _, h => by cases n <;> simp [D.dat] at h
  | n, .kdc _, h => by cases n <;> simp [D.dat] at h
  | n, .ty _, h => by cases n <;> simp [D.dat] at h
theorem datL_ok : ∀ (n : Nat) (ds : List D), D.datL n ds = true → PyData.canLayAll0 (D.pyL ds) = true ∧ PyData.depthAll (D.pyL ds) ≤ n
  | n, [], _ => by simp [D.pyL, PyData.canLayAll0, PyData.depthAll]
  | n, x :: xs, h => by
    rw [D.datL, Bool.and_eq_true] at h
    have h1 := dat_ok n x h.1
    have h2 := datL_ok n xs h.2
    simp only [D.pyL, PyData.canLayAll0, PyData.depthAll, Bool.and_eq_true]
    exact ⟨⟨h1.1, h2.1⟩, by omega⟩
end
section
variable {k : Ct} {ρ : List Addr} {F : Hp} {O : Sto} {H : Hp}
theorem klst_sq {K : PySem.W.Frag} {p : Addr} {vs : List V} (h : klst K p = some vs) : SqL K (fun _ => none) p vs := by
  unfold klst at h
  split at h
  · cases h; exact Classical.choose_spec ‹_›
  · cases h
mutual
theorem rep_dp (R : Rel k ρ F O H) : ∀ (n : Nat) {v : V} {d : D}, Rep k ρ F v d → D.dat n d = true → Dp k.K H v (D.py d)
  | n, _, _, .non, _ => .non
  | n, _, _, .bl b, _ => .bl b
  | n, _, _, .int i, _ => .int i
  | n, _, _, .str s, _ => .str s
  | n + 1, _, _, .lst h r, e => by
    rw [D.dat] at e
    rw [D.py]
    exact .lst (.inl (.inl (lst_H R h))) (reps_dp R n r e)
  | n + 1, _, _, .kls h r, e => by
    rw [D.dat] at e
    rw [D.py]
    exact .lst (lstv_sq (kls_H R h)) (reps_dp R n r e)
  | n + 1, _, _, .tup h r, e => by
    rw [D.dat] at e
    rw [D.py]
    exact .tup (.inl (.inl (tup_H R h))) (reps_dp R n r e)
  | n + 1, _, _, .ktp h r, e => by
    rw [D.dat] at e
    rw [D.py]
    exact .tup (.inr h) (reps_dp R n r e)
  | 0, _, _, .lst h r, e => by simp [D.dat] at e
  | 0, _, _, .kls h r, e => by simp [D.dat] at e
  | 0, _, _, .tup h r, e => by simp [D.dat] at e
  | 0, _, _, .ktp h r, e => by simp [D.dat] at e
  | n, _, _, .dic _ _ _, h => by cases n <;> simp [D.dat] at h
  | n, _, _, .dtt _ _ _, h => by cases n <;> simp [D.dat] at h
  | n, _, _, .ins _ _ _, h => by cases n <;> simp [D.dat] at h
  | n, _, _, .ref _, h => by cases n <;> simp [D.dat] at h
  | n, _, _, .glo _, h => by cases n <;> simp [D.dat] at h
  | n, _, _, .kdc _ _ _, h => by cases n <;> simp [D.dat] at h
  | n, _, _, .ty _, h => by cases n <;> simp [D.dat] at h
theorem reps_dp (R : Rel k ρ F O H) : ∀ (n : Nat) {vs : List V} {ds : List D}, Reps k ρ F vs ds → D.datL n ds = true → DpAll k.K H vs (D.pyL ds)
  | n, _, _, .nil, _ => by rw [D.pyL]; exact .nil
  | n, _, _, .cons h r, e => by
    rw [D.datL, Bool.and_eq_true] at e
    rw [D.pyL]; exact .cons (rep_dp R n h e.1) (reps_dp R n r e.2)
end
/-- looked at: an open list as data -/
theorem see_dp (R : Rel k ρ F O H) {v : V} {x : D} {n : Nat} (r : Rep k ρ F v x) (h : D.dat n (vw O x) = true) : Dp k.K H v (D.py (vw O x)) := by
  rcases vw_cases x O with e | ⟨m, o, rfl, ho, e⟩ | ⟨xs, rfl, e⟩
  · rw [e] at h ⊢; exact rep_dp R n r h
  · rw [e] at h ⊢
    obtain ⟨a, rfl, _, _, b⟩ := R.live r ho
    cases o with
    | lst xs =>
      obtain ⟨vs, b1, b2⟩ := b
      cases n with
      | zero => simp [Ob.d, D.dat] at h
      | succ n =>
        rw [Ob.d, D.dat] at h
        rw [Ob.d, D.py]
        exact .lst (.inl (.inl b1)) (reps_dp R n b2 h)
    | dic _ => cases n <;> simp [Ob.d, D.dat] at h
    | dtt _ => cases n <;> simp [Ob.d, D.dat] at h
    | ins _ _ => cases n <;> simp [Ob.d, D.dat] at h
  · rw [e] at h ⊢
    cases n with
    | zero => simp [D.dat] at h
    | succ n =>
      rw [D.dat] at h
      cases r with
      | ktp h1 h2 =>
        rw [D.py]
        exact .tup (.inr h1) (reps_dp R n h2 h)
end
def peq (x y : D) : Bool := PyData.eqv (D.py x) (D.py y)
/-- scalars that are compared as they are -/
def sceq : D → D → Option Bool
  | .non, .non => some true
  | .int i, .int j => some (decide (i = j))
  | .bl i, .bl j => some (decide (i = j))
  | .str i, .str j => some (decide (i = j))
  | .non, .int _ => some false | .int _, .non => some false | .non, .bl _ => some false | .bl _, .non => some false | .non, .str _ => some false | .str _, .non => some false
  | .int _, .str _ => some false | .str _, .int _ => some false | .bl _, .str _ => some false | .str _, .bl _ => some false
  | _, _ => none
def eqD (x y : D) : Option Bool := match sceq x y with
  | some b => some b
  | none => if D.dat 64 x && D.dat 64 y then some (peq x y) else none
def oEq (neg : Bool) : Sto → D → D → ER := fun O x y => match eqD (vw O x) (vw O y) with
  | some b => .val (.bl (if neg then !b else b)) O
  | none => .stk
section
variable {K : PySem.W.Frag} {w : World}
def rEqA (K : PySem.W.Frag) : R2 := fun x y H Q => rEq x y H Q ∨ rEqD K x y H Q
def rNeA (K : PySem.W.Frag) : R2 := fun x y H Q => rNe x y H Q ∨ rNeD K x y H Q
theorem u_eqA {X : Cx} (hu : X.A.units + 64 < cLine) : OpR X (compareOp .Eq) (rEqA X.K) := op_eq.or (op_eqD hu)
theorem u_neA {X : Cx} (hu : X.A.units + 64 < cLine) : OpR X (compareOp .NotEq) (rNeA X.K) := op_ne.or (op_neD hu)
theorem sceq_ok {k : Ct} {ρ : List Addr} {F : Hp} {O : Sto} {a b : V} {x y : D} {c : Bool} (rx : Rep k ρ F a x) (ry : Rep k ρ F b y) (h : sceq (vw O x) (vw O y) = some c) : scal a b = true ∧ decide (a = b) = c := by
  generalize ex : vw O x = x' at h
  generalize ey : vw O y = y' at h
  unfold sceq at h
  split at h
  case h_15 => cases h
  all_goals
    cases h
    first
    | obtain rfl := see_non rx ex
    | obtain rfl := see_int rx ex
    | obtain rfl := see_bl rx ex
    | obtain rfl := see_str rx ex
    first
    | obtain rfl := see_non ry ey
    | obtain rfl := see_int ry ey
    | obtain rfl := see_bl ry ey
    | obtain rfl := see_str ry ey
    exact ⟨rfl, by simp⟩
theorem s_eq : ROp K w (rEqA K) (oEq false) := fun ad ρ F O H a b x y Q W R rx ry q => by
  unfold oEq at q
  split at q
  · rename_i c e
    unfold eqD at e
    split at e
    · rename_i c' e'
      cases e
      obtain ⟨h1, h2⟩ := sceq_ok rx ry e'
      exact .inl ⟨h1, fun _ => by rw [h2]; exact val_ok R (.bl _) q⟩
    · split at e
      · rename_i hd
        cases e
        rw [Bool.and_eq_true] at hd
        have d1 := dat_ok _ _ hd.1
        have d2 := dat_ok _ _ hd.2
        exact .inr ⟨_, _, see_dp R rx hd.1, see_dp R ry hd.2, by unfold SeqAt.shaped; simp [d1], by unfold SeqAt.shaped; simp [d2], fun _ => val_ok R (.bl _) q⟩
      · cases e
  · exact q.elim
theorem s_ne : ROp K w (rNeA K) (oEq true) := fun ad ρ F O H a b x y Q W R rx ry q => by
  unfold oEq at q
  split at q
  · rename_i c e
    unfold eqD at e
    split at e
    · rename_i c' e'
      cases e
      obtain ⟨h1, h2⟩ := sceq_ok rx ry e'
      exact .inl ⟨h1, fun _ => by rw [h2]; exact val_ok R (.bl _) q⟩
    · split at e
      · rename_i hd
        cases e
        rw [Bool.and_eq_true] at hd
        have d1 := dat_ok _ _ hd.1
        have d2 := dat_ok _ _ hd.2
        exact .inr ⟨_, _, see_dp R rx hd.1, see_dp R ry hd.2, by unfold SeqAt.shaped; simp [d1], by unfold SeqAt.shaped; simp [d2], fun _ => val_ok R (.bl _) q⟩
      · cases e
  · exact q.elim
end
end Mi

namespace Mi
open PySem PySem.Spec PyProof.Rows L2 R
/-! ### dicts, pair by pair -/
section
variable {κ : Type} [DecidableEq κ]
def valD (kvs : List (κ × D)) (k : κ) : Option D := (kvs.find? fun kv => decide (kv.1 = k)).map (·.2)
def putD (kvs : List (κ × D)) (k : κ) (v : D) : List (κ × D) :=
  if (kvs.any fun kv => decide (kv.1 = k)) = true then kvs.map (fun kv => if kv.1 = k then (kv.1, v) else kv) else kvs ++ [(k, v)]
def dropD (kvs : List (κ × D)) (k : κ) : List (κ × D) := kvs.filter fun kv => decide (kv.1 ≠ k)
/-- pairs of the same keys, their values represented -/
def KR (k : Ct) (ρ : List Addr) (F : Hp) (vs : List (κ × V)) (ds : List (κ × D)) : Prop := vs.map (·.1) = ds.map (·.1) ∧ Reps k ρ F (vs.map (·.2)) (ds.map (·.2))
variable {k : Ct} {ρ : List Addr} {F : Hp}
theorem KR.nil : KR (κ := κ) k ρ F [] [] := ⟨rfl, .nil⟩
theorem KR.len {vs : List (κ × V)} {ds : List (κ × D)} (r : KR k ρ F vs ds) : vs.length = ds.length := by
  have := congrArg List.length r.1
  simpa using this
theorem KR.cons_iff {x : κ × V} {y : κ × D} {vs : List (κ × V)} {ds : List (κ × D)} : KR k ρ F (x :: vs) (y :: ds) ↔ x.1 = y.1 ∧ Rep k ρ F x.2 y.2 ∧ KR k ρ F vs ds := by
  constructor
  · rintro ⟨h1, h2⟩
    simp only [List.map_cons, List.cons.injEq] at h1
    simp only [List.map_cons] at h2
    cases h2 with
    | cons a b => exact ⟨h1.1, a, h1.2, b⟩
  · rintro ⟨h1, h2, h3, h4⟩
    exact ⟨by simp [h1, h3], by simpa using Reps.cons h2 h4⟩
theorem KR.val : ∀ {vs : List (κ × V)} {ds : List (κ × D)}, KR k ρ F vs ds → ∀ x : κ, (valV vs x = none ∧ valD ds x = none) ∨ ∃ v d, valV vs x = some v ∧ valD ds x = some d ∧ Rep k ρ F v d
  | [], [], _, x => .inl ⟨rfl, rfl⟩
  | a :: vs, b :: ds, r, x => by
    obtain ⟨h1, h2, h3⟩ := KR.cons_iff.mp r
    by_cases e : a.1 = x
    · right
      refine ⟨a.2, b.2, by simp [valV, e], by simp [valD, ← h1, e], h2⟩
    · have := KR.val h3 x
      have e1 : valV (a :: vs) x = valV vs x := valV_neg e
      have e2 : valD (b :: ds) x = valD ds x := by simp [valD, List.find?_cons, ← h1, e]
      rw [e1, e2]; exact this
  | [], b :: ds, r, x => by have := r.len; simp at this
  | a :: vs, [], r, x => by have := r.len; simp at this
theorem KR.map {f : κ × V → κ × V} {g : κ × D → κ × D} (h : ∀ a b, a.1 = b.1 → Rep k ρ F a.2 b.2 → (f a).1 = (g b).1 ∧ Rep k ρ F (f a).2 (g b).2) : ∀ {vs : List (κ × V)} {ds : List (κ × D)}, KR k ρ F vs ds → KR k ρ F (vs.map f) (ds.map g)
  | [], [], _ => KR.nil
  | a :: vs, b :: ds, r => by
    obtain ⟨h1, h2, h3⟩ := KR.cons_iff.mp r
    exact KR.cons_iff.mpr ⟨(h a b h1 h2).1, (h a b h1 h2).2, KR.map h h3⟩
  | [], b :: ds, r => by have := r.len; simp at this
  | a :: vs, [], r => by have := r.len; simp at this
theorem KR.append {vs ws : List (κ × V)} {ds es : List (κ × D)} (r : KR k ρ F vs ds) (s : KR k ρ F ws es) : KR k ρ F (vs ++ ws) (ds ++ es) := ⟨by simp [r.1, s.1], by simpa using r.2.append s.2⟩
theorem KR.any {vs : List (κ × V)} {ds : List (κ × D)} (r : KR k ρ F vs ds) (x : κ) : (vs.any fun kv => decide (kv.1 = x)) = ds.any fun kv => decide (kv.1 = x) := by
  have h1 : (vs.any fun kv => decide (kv.1 = x)) = (vs.map (·.1)).any fun y => decide (y = x) := by rw [List.any_map]; rfl
  have h2 : (ds.any fun kv => decide (kv.1 = x)) = (ds.map (·.1)).any fun y => decide (y = x) := by rw [List.any_map]; rfl
  rw [h1, h2, r.1]
theorem KR.put {vs : List (κ × V)} {ds : List (κ × D)} (r : KR k ρ F vs ds) {x : κ} {v : V} {d : D} (h : Rep k ρ F v d) : KR k ρ F (putK vs x v) (putD ds x d) := by
  unfold putK putD
  rw [r.any]
  split
  · refine KR.map (fun a b h1 h2 => ?_) r
    rw [← h1]
    split
    · exact ⟨by simp [h1], h⟩
    · exact ⟨h1, h2⟩
  · exact r.append ⟨rfl, .cons h .nil⟩
theorem KR.filter {p : κ → Bool} : ∀ {vs : List (κ × V)} {ds : List (κ × D)}, KR k ρ F vs ds → KR k ρ F (vs.filter fun kv => p kv.1) (ds.filter fun kv => p kv.1)
  | [], [], _ => KR.nil
  | a :: vs, b :: ds, r => by
    obtain ⟨h1, h2, h3⟩ := KR.cons_iff.mp r
    rw [List.filter_cons, List.filter_cons, ← h1]
    split
    · exact KR.cons_iff.mpr ⟨h1, h2, KR.filter h3⟩
    · exact KR.filter h3
  | [], b :: ds, r => by have := r.len; simp at this
  | a :: vs, [], r => by have := r.len; simp at this
theorem KR.drop {vs : List (κ × V)} {ds : List (κ × D)} (r : KR k ρ F vs ds) (x : κ) : KR k ρ F (dropK vs x) (dropD ds x) := KR.filter (p := fun y => decide (y ≠ x)) r
end
/-- the key of a value -/
def keyD : D → Option Key
  | .int i => some (.inl i)
  | .str s => some (.inr s)
  | _ => none
theorem keyD_ok {k : Ct} {ρ : List Addr} {F : Hp} {v : V} {d : D} {x : Key} (r : Rep k ρ F v d) (h : keyD d = some x) : v = kV x := by
  unfold keyD at h
  split at h
  · cases h; cases r; rfl
  · cases h; cases r; rfl
  · cases h
def keysD : List D → Option (List Key)
  | [] => some []
  | d :: ds => match keyD d, keysD ds with
    | some x, some xs => some (x :: xs)
    | _, _ => none
theorem keysD_ok {k : Ct} {ρ : List Addr} {F : Hp} : ∀ {vs : List V} {ds : List D} {xs : List Key}, Reps k ρ F vs ds → keysD ds = some xs → vs = xs.map kV
  | _, _, _, .nil, h => by simp [keysD] at h; subst h; rfl
  | _, _, _, .cons r rs, h => by
    unfold keysD at h
    split at h
    · cases h
      rename_i h1 h2
      rw [keyD_ok r h1, keysD_ok rs h2]; rfl
    · cases h
/-! ### in -/
def flatD : D → Bool
  | .non => true | .bl _ => true | .int _ => true | .str _ => true
  | _ => false
/-- == of flat values -/
def feq : D → D → Bool
  | .non, .non => true
  | .bl a, .bl b => a == b
  | .int i, .int j => i == j
  | .str a, .str b => a == b
  | .bl a, .int j => (if a then 1 else 0) == j
  | .int i, .bl b => i == (if b then 1 else 0)
  | _, _ => false

theorem flat_ok {k : Ct} {ρ : List Addr} {F : Hp} {v : V} {d : D} (r : Rep k ρ F v d) (h : flatD d = true) : flatV v = true := by
  cases r <;> first | rfl | (simp [flatD] at h)
theorem flats_ok {k : Ct} {ρ : List Addr} {F : Hp} : ∀ {vs : List V} {ds : List D}, Reps k ρ F vs ds → ds.all flatD = true → vs.all flatV = true
  | _, _, .nil, _ => rfl
  | _, _, .cons r rs, h => by
    rw [List.all_cons, Bool.and_eq_true] at h ⊢
    exact ⟨flat_ok r h.1, flats_ok rs h.2⟩
theorem feq_ok {k : Ct} {ρ : List Addr} {F : Hp} {v w : V} {d e : D} (r : Rep k ρ F v d) (q : Rep k ρ F w e) (h : flatD d = true) (h2 : flatD e = true) : eqV v w = feq d e := by
  cases r <;> first | (simp [flatD] at h; done) | (cases q <;> first | rfl | (simp [flatD] at h2; done))
theorem inF_ok {k : Ct} {ρ : List Addr} {F : Hp} {w : V} {e : D} (q : Rep k ρ F w e) (h2 : flatD e = true) : ∀ {vs : List V} {ds : List D}, Reps k ρ F vs ds → ds.all flatD = true → inV w vs = ds.any fun y => feq y e
  | _, _, .nil, _ => rfl
  | _, _, .cons r rs, h => by
    rw [List.all_cons, Bool.and_eq_true] at h
    have ih := inF_ok q h2 rs h.2
    unfold inV at ih ⊢
    rw [List.any_cons, List.any_cons, ih, feq_ok r q h.1 h2]
theorem eqv_any (ds : List D) (x : D) : ((D.pyL ds).any fun z => PyData.eqv z (D.py x)) = ds.any fun y => peq y x := by
  induction ds with
  | nil => rw [D.pyL]; rfl
  | cons d ds ih => rw [D.pyL, List.any_cons, List.any_cons, ih]; rfl
/-- x in xs, items of any kind -/
def inL (x : D) (xs : List D) : Option Bool :=
  if flatD x && xs.all flatD then some (xs.any fun y => feq y x)
  else if D.dat 64 x && D.datL 63 xs then some (xs.any fun y => peq y x) else none
def inD (r x y : D) : Option Bool := match y with
  | .str b => match x with
    | .str a => some (inS a b)
    | _ => none
  | .lst xs => inL x xs
  | .kls xs => inL x xs
  | .tup xs => inL x xs
  | .dic kvs => match keyD x with
    | some z => some (valD kvs z).isSome
    | none => none
  | .dtt kvs => match r with
    | .tup xs => match keysD xs with
      | some z => some (valD kvs z).isSome
      | none => none
    | _ => none
  | .kdc kvs => match x with
    | .str z => some (kvs.lookup z).isSome
    | _ => none
  | _ => none
def oIn (neg : Bool) : Sto → D → D → ER := fun O x y => match inD x (vw O x) (vw O y) with
  | some b => .val (.bl (if neg then !b else b)) O
  | none => .stk
def rInT (K : PySem.W.Frag) (neg : Bool) : R2 := fun x y H Q => ∃ d ds, Dp K H x d ∧ Dp K H y (.tuple ds) ∧ SeqAt.shaped d = true ∧ SeqAt.shaped (.tuple ds) = true ∧ Q (.bl (if neg then !(ds.any fun z => PyData.eqv z d) else ds.any fun z => PyData.eqv z d)) H
def rInK (neg : Bool) : R2 := fun x y H Q => ∃ a o, y = .ref a ∧ DGet H a x o ∧ Q (.bl (if neg then !o.isSome else o.isSome)) H
def rInKx (K : PySem.W.Frag) (w : World) (neg : Bool) : R2 := fun x y H Q => ∃ d kvs, KdV K w d kvs ∧ rInKd kvs d neg x y H Q
def rInLD (K : PySem.W.Frag) (neg : Bool) : R2 := fun x y H Q => if neg then rNotInD K x y H Q else rInD K x y H Q
def rInA (K : PySem.W.Frag) (w : World) (neg : Bool) : R2 := fun x y H Q => rInU K neg x y H Q ∨ rInLD K neg x y H Q ∨ rInT K neg x y H Q ∨ rInK neg x y H Q ∨ rInKx K w neg x y H Q
section
variable {X : Cx}
theorem u_inA (hu : X.A.units + 65 < cLine) : OpR X (compareOp .In) (rInA X.K X.w false) := by
  have hT : OpR X (compareOp .In) (rInT X.K false) := by
    intro pins s σ H x y v u Q I rx ry h
    obtain ⟨d, ds, hd, he, sd, se, q⟩ := h
    obtain ⟨as, r1⟩ := Dp.reads I d x v hd rx
    obtain ⟨bs, r2⟩ := Dp.reads I (.tuple ds) y u he ry
    exact SeqAt.in_tuple_reads r2 r1 (SeqAt.canLay_of_shaped se) (SeqAt.canLay_of_shaped sd) (room_in_shaped sd hu) ⟨.bl _, H, I, rfl, q⟩
  have hK : OpR X (compareOp .In) (rInK false) := by
    intro pins s σ H x y v u Q I rx ry h
    obtain ⟨a, o, rfl, g, q⟩ := h
    obtain rfl : u = Value.ref a := ry
    exact d_in (by omega) I g rx fun s3 I3 => ⟨.bl _, H, I3, rfl, q⟩
  have hX : OpR X (compareOp .In) (rInKx X.K X.w false) := by
    intro pins s σ H x y v u Q I rx ry h
    obtain ⟨d, kvs, D, q⟩ := h
    exact u_inKd D pins s σ H x y v u Q I rx ry q
  exact u_in.or ((op_inD hu).or (hT.or (hK.or hX)))
theorem u_ninA (hu : X.A.units + 65 < cLine) : OpR X (compareOp .NotIn) (rInA X.K X.w true) := by
  have hT : OpR X (compareOp .NotIn) (rInT X.K true) := by
    intro pins s σ H x y v u Q I rx ry h
    obtain ⟨d, ds, hd, he, sd, se, q⟩ := h
    obtain ⟨as, r1⟩ := Dp.reads I d x v hd rx
    obtain ⟨bs, r2⟩ := Dp.reads I (.tuple ds) y u he ry
    exact SeqAt.notIn_tuple_reads r2 r1 (SeqAt.canLay_of_shaped se) (SeqAt.canLay_of_shaped sd) (room_in_shaped sd hu) ⟨.bl _, H, I, rfl, q⟩
  have hK : OpR X (compareOp .NotIn) (rInK true) := by
    intro pins s σ H x y v u Q I rx ry h
    obtain ⟨a, o, rfl, g, q⟩ := h
    obtain rfl : u = Value.ref a := ry
    exact d_notIn (by omega) I g rx fun s3 I3 => ⟨.bl _, H, I3, rfl, q⟩
  have hX : OpR X (compareOp .NotIn) (rInKx X.K X.w true) := by
    intro pins s σ H x y v u Q I rx ry h
    obtain ⟨d, kvs, D, q⟩ := h
    exact u_ninKd D pins s σ H x y v u Q I rx ry q
  exact u_nin.or ((op_notInD hu).or (hT.or (hK.or hX)))
end
theorem KR.lookup {k : Ct} {ρ : List Addr} {F : Hp} : ∀ {vs : List (Str × V)} {ds : List (Str × D)}, KR k ρ F vs ds → ∀ x : Str, (vs.lookup x = none ∧ ds.lookup x = none) ∨ ∃ v d, vs.lookup x = some v ∧ ds.lookup x = some d ∧ Rep k ρ F v d
  | [], [], _, x => .inl ⟨rfl, rfl⟩
  | (a, a2) :: vs, (b, b2) :: ds, r, x => by
    obtain ⟨h1, h2, h3⟩ := KR.cons_iff.mp r
    simp only at h1 h2
    subst h1
    rw [List.lookup_cons, List.lookup_cons]
    by_cases e : x == a
    · rw [e]; exact .inr ⟨a2, b2, rfl, rfl, h2⟩
    · rw [show (x == a) = false by simpa using e]; exact KR.lookup h3 x
  | [], b :: ds, r, x => by have := r.len; simp at this
  | a :: vs, [], r, x => by have := r.len; simp at this
section
variable {k : Ct} {ρ : List Addr} {F : Hp} {O : Sto} {H : Hp}
/-- the key of a dict with tuple keys stands as a tracked tuple -/
theorem key_tup {b : V} {xs : List D} {z : List Key} (R : Rel k ρ F O H) (r : Rep k ρ F b (.tup xs)) (h : keysD xs = some z) : ∃ a, b = .ref a ∧ H a = some (.tup (z.map kV)) := by
  cases r with
  | tup h1 h2 => exact ⟨_, rfl, by rw [tup_H R h1, keysD_ok h2 h]⟩
end
end Mi

namespace Mi
open PySem PySem.Spec PyProof.Rows L2 R
section
variable {K : PySem.W.Frag} {w : World}
theorem pyL_tup {xs : List D} : D.py (.tup xs) = .tuple (D.pyL xs) := by rw [D.py]
theorem inL_ok {k : Ct} {ρ : List Addr} {F : Hp} {O : Sto} {H : Hp} {a : V} {x : D} {vs : List V} {xs : List D} {c neg : Bool} {p : Addr} {Q : VK} (hx : vw O x = x') (R : Rel k ρ F O H) (rx : Rep k ρ F a x) (rs : Reps k ρ F vs xs) (hs : sqv k.K H p = some vs)
    (hd : ∀ n, D.datL n xs = true → Dp k.K H (.ref p) (.list (D.pyL xs)) ∨ Dp k.K H (.ref p) (.tuple (D.pyL xs))) (h : inL x' xs = some c) (q : Q (.bl (if neg then !c else c)) H) : rInA k.K k.w neg a (.ref p) H Q := by
  unfold inL at h
  split at h
  · rename_i hf
    cases h
    rw [Bool.and_eq_true] at hf
    left
    rw [rInU_ref, hs]
    have e : x' = x := by
      rcases vw_cases x O with e | ⟨n, o, rfl, ho, e⟩ | ⟨_, rfl, e⟩
      · rw [← hx, e]
      · rw [← hx, e] at hf; cases o <;> simp [Ob.d, flatD] at hf
      · rw [← hx, e] at hf; simp [flatD] at hf
    rw [e] at hf q
    refine ⟨flat_ok rx hf.1, flats_ok rs hf.2, ?_⟩
    rw [inF_ok rx hf.1 rs hf.2]; exact q
  · split at h
    · rename_i hf
      cases h
      rw [Bool.and_eq_true] at hf
      have d1 := dat_ok _ _ hf.1
      have d2 := datL_ok _ _ hf.2
      have p1 : Dp k.K H a (D.py x') := by rw [← hx] at hf ⊢; exact see_dp R rx hf.1
      rcases hd _ hf.2 with z | z
      · refine .inr (.inl ?_)
        unfold rInLD
        cases neg
        · exact ⟨_, _, p1, z, by unfold SeqAt.shaped; simp [d1], by unfold SeqAt.shaped; simp [PyData.canLay0, PyData.depth, d2], by rw [eqv_any]; exact q⟩
        · exact ⟨_, _, p1, z, by unfold SeqAt.shaped; simp [d1], by unfold SeqAt.shaped; simp [PyData.canLay0, PyData.depth, d2], by rw [eqv_any]; exact q⟩
      · refine .inr (.inr (.inl ?_))
        exact ⟨_, _, p1, z, by unfold SeqAt.shaped; simp [d1], by unfold SeqAt.shaped; simp [PyData.canLay0, PyData.depth, d2], by rw [eqv_any]; exact q⟩
    · cases h
theorem s_in {neg : Bool} : ROp K w (rInA K w neg) (oIn neg) := fun ad ρ F O H a b x y Q W R rx ry q => by
  unfold oIn at q
  split at q
  · rename_i c e
    have q' : ∀ (z : Bool), z = c → Apart K H → Q (.bl (if neg then !z else z)) H := fun z hz _ => by rw [hz]; exact val_ok R (.bl _) q
    generalize ey : vw O y = y' at e
    unfold inD at e
    split at e
    · split at e
      · rename_i hx
        cases e
        obtain rfl := see_str ry ey
        obtain rfl := see_str rx hx
        exact .inl (q' _ rfl)
      · cases e
    · obtain ⟨p, vs, rfl, h1, h2⟩ := see_lst R ry ey
      exact inL_ok rfl R rx h2 (sqv_l (lstv_of h1)) (fun n hn => .inl (.lst (.inl (.inl h1)) (reps_dp R n h2 hn))) e (q' _ rfl)
    · obtain ⟨p, vs, rfl, h1, h2⟩ := see_kls R ry ey
      exact inL_ok rfl R rx h2 (sqv_l h1) (fun n hn => .inl (.lst (lstv_sq h1) (reps_dp R n h2 hn))) e (q' _ rfl)
    · obtain ⟨p, vs, rfl, h1, h2⟩ := see_tup R ry ey
      exact inL_ok rfl R rx h2 (sqv_tup h1) (fun n hn => .inr (.tup (tupv_sq h1) (reps_dp R n h2 hn))) e (q' _ rfl)
    · obtain ⟨p, vs, rfl, h1, h2, h3⟩ := see_dic R ry ey
      split at e
      · rename_i z hz
        cases e
        have ex : vw O x = x := by
          rcases vw_cases x O with e | ⟨n, o, rfl, ho, e⟩ | ⟨_, rfl, e⟩
          · exact e
          · rw [e] at hz; cases o <;> simp [Ob.d, keyD] at hz
          · rw [e] at hz; simp [keyD] at hz
        rw [ex] at hz
        obtain rfl := keyD_ok rx hz
        refine .inr (.inr (.inr (.inl ⟨p, valV vs z, rfl, .inl ⟨vs, z, h1, rfl, rfl⟩, q' _ ?_⟩)))
        rcases KR.val ⟨h2, h3⟩ z with ⟨e1, e2⟩ | ⟨v, d, e1, e2, _⟩ <;> rw [e1, e2] <;> rfl
      · cases e
    · obtain ⟨p, vs, rfl, h1, h2, h3⟩ := see_dtt R ry ey
      split at e
      · split at e
        · rename_i z hz
          cases e
          obtain ⟨pb, rfl, hb⟩ := key_tup R rx hz
          refine .inr (.inr (.inr (.inl ⟨p, valV vs z, rfl, .inr ⟨vs, z, pb, h1, rfl, hb, rfl⟩, q' _ ?_⟩)))
          rcases KR.val ⟨h2, h3⟩ z with ⟨e1, e2⟩ | ⟨v, d, e1, e2, _⟩ <;> rw [e1, e2] <;> rfl
        · cases e
      · cases e
    · obtain ⟨p, vs, rfl, h1, h2, h3⟩ := see_kdc ry ey
      split at e
      · rename_i z hx
        cases e
        obtain rfl := see_str rx hx
        refine .inr (.inr (.inr (.inr ⟨p, vs, h1, rfl, ?_⟩)))
        have : (vs.lookup z).isSome = (List.lookup z ‹List (Str × D)›).isSome := by
          rcases KR.lookup ⟨h2, h3⟩ z with ⟨e1, e2⟩ | ⟨v, d, e1, e2, _⟩ <;> rw [e1, e2] <;> rfl
        exact q' _ this
      · cases e
    · cases e
  · exact q.elim

/-! ### is -/
def oIs (neg : Bool) : Sto → D → D → ER := fun O x y => match y with
  | .non => match x with
    | .non => .val (.bl (!neg)) O
    | _ => .val (.bl neg) O
  | .bl b => match x with
    | .bl a => .val (.bl (if neg then !decide (a = b) else decide (a = b))) O
    | _ => .stk
  | _ => .stk
def rIsA (neg : Bool) : R2 := fun x y H Q => if neg then rIsNU x y H Q ∨ rIsNB x y H Q else rIsU x y H Q ∨ rIsBB x y H Q
theorem u_isA {X : Cx} : OpR X (compareOp .Is) (rIsA false) := u_is.or u_isBB
theorem u_isNA {X : Cx} : OpR X (compareOp .IsNot) (rIsA true) := u_isN.or u_isNB
theorem rep_non {k : Ct} {ρ : List Addr} {F : Hp} {v : V} {d : D} (r : Rep k ρ F v d) : v = .non ↔ d = .non := by
  cases r <;> simp
theorem s_is {neg : Bool} : ROp K w (rIsA neg) (oIs neg) := fun ad ρ F O H a b x y Q W R rx ry q => by
  unfold oIs at q
  split at q
  · cases ry
    split at q
    · cases rx
      cases neg
      · exact .inl fun _ => val_ok R (.bl _) q
      · exact .inl fun _ => val_ok R (.bl _) q
    · rename_i hx
      have : a ≠ .non := fun z => hx ((rep_non rx).mp z)
      cases neg
      · left
        rw [rIs_e, decide_eq_false this]
        exact fun _ => val_ok R (.bl _) q
      · left
        rw [rIsN_e, decide_eq_false this]
        exact fun _ => val_ok R (.bl _) q
  · cases ry
    split at q
    · cases rx
      cases neg
      · exact .inr fun _ => val_ok R (.bl _) q
      · exact .inr fun _ => val_ok R (.bl _) q
    · exact q.elim
  · exact q.elim
/-! ### subscripts -/
def rIxDk : R2 := fun x y H Q => ∃ a v, x = .ref a ∧ DGet H a y (some v) ∧ Q v H
def rIxKx (K : PySem.W.Frag) (w : World) : R2 := fun x y H Q => ∃ d kvs, KdV K w d kvs ∧ rIxKd kvs d x y H Q
def rIxA (K : PySem.W.Frag) (w : World) : R2 := fun x y H Q => rIxU K x y H Q ∨ rIxDk x y H Q ∨ rIxKx K w x y H Q
theorem u_ixA {X : Cx} (hu : X.A.units + 1 < cLine) : IxR X (rIxA X.K X.w) := by
  have hD : IxR X rIxDk := by
    intro value slice pins s σ H x y v u Q I rx ry h hs
    obtain ⟨a, z, rfl, g, q⟩ := h
    obtain rfl : v = Value.ref a := rx
    exact tail_any (dict_typeIs I g) PySem.F.slot_dict_getitem.lookup (d_getItem hu I g ry fun w' s3 I3 rw' => ⟨z, H, I3, rw', q⟩) hs
  have hX : IxR X (rIxKx X.K X.w) := by
    intro value slice pins s σ H x y v u Q I rx ry h hs
    obtain ⟨d, kvs, D, q⟩ := h
    exact u_ixKd D value slice pins s σ H x y v u Q I rx ry q hs
  exact u_ix.or (hD.or hX)
def ixD (r x y : D) : Option D := match x with
  | .str z => match y with
    | .int i => if z.length ≤ sizeLine then (atI z.cps.toList i).map fun c => .str ⟨#[c]⟩ else none
    | _ => none
  | .lst xs => match y with
    | .int i => atI xs i
    | _ => none
  | .kls xs => match y with
    | .int i => atI xs i
    | _ => none
  | .tup xs => match y with
    | .int i => atI xs i
    | _ => none
  | .dic kvs => match keyD y with
    | some z => valD kvs z
    | none => none
  | .dtt kvs => match y with
    | .tup xs => match keysD xs with
      | some z => valD kvs z
      | none => none
    | _ => none
  | .kdc kvs => match y with
    | .str z => kvs.lookup z
    | _ => none
  | _ => none
def oIx : Sto → D → D → ER := fun O x y => match ixD x (vw O x) y with
  | some d => .val d O
  | none => .stk
theorem atI_reps {k : Ct} {ρ : List Addr} {F : Hp} {vs : List V} {ds : List D} {i : Int} {d : D} (r : Reps k ρ F vs ds) (h : atI ds i = some d) : ∃ v, atI vs i = some v ∧ Rep k ρ F v d := by
  unfold atI at h ⊢
  rw [r.length]
  cases e : ixN ds.length i with
  | none => rw [e] at h; cases h
  | some j =>
    rw [e] at h
    exact r.get (i := j) h
theorem s_ix : ROp K w (rIxA K w) oIx := fun ad ρ F O H a b x y Q W R rx ry q => by
  unfold oIx at q
  split at q
  · rename_i d e
    generalize ex : vw O x = x' at e
    unfold ixD at e
    split at e
    · split at e
      · rename_i i
        cases ry
        obtain rfl := see_str rx ex
        split at e
        · rename_i hz
          cases hc : atI _ i with
          | none => rw [hc] at e; cases e
          | some c =>
            rw [hc] at e; cases e
            left
            rw [rIx_str, hc]
            exact ⟨hz, fun _ => val_ok R (.str _) q⟩
        · cases e
      · cases e
    · split at e
      · rename_i i
        cases ry
        obtain ⟨p, vs, rfl, h1, h2⟩ := see_lst R rx ex
        obtain ⟨v, h3, h4⟩ := atI_reps h2 e
        left
        rw [rIx_lst (lstv_of h1), h3]
        exact fun _ => val_ok R h4 q
      · cases e
    · split at e
      · rename_i i
        cases ry
        obtain ⟨p, vs, rfl, h1, h2⟩ := see_kls R rx ex
        obtain ⟨v, h3, h4⟩ := atI_reps h2 e
        left
        rw [rIx_lst h1, h3]
        exact fun _ => val_ok R h4 q
      · cases e
    · split at e
      · rename_i i
        cases ry
        obtain ⟨p, vs, rfl, h1, h2⟩ := see_tup R rx ex
        obtain ⟨v, h3, h4⟩ := atI_reps h2 e
        left
        rw [rIxU_ref, sqv_tup h1]
        simp only [h3]
        exact fun _ => val_ok R h4 q
      · cases e
    · split at e
      · rename_i z hz
        obtain rfl := keyD_ok ry hz
        obtain ⟨p, vs, rfl, h1, h2, h3⟩ := see_dic R rx ex
        rcases KR.val ⟨h2, h3⟩ z with ⟨e1, e2⟩ | ⟨v, d', e1, e2, r⟩
        · rw [e2] at e; cases e
        · rw [e2] at e; cases e
          exact .inr (.inl ⟨p, v, rfl, .inl ⟨vs, z, h1, rfl, e1.symm⟩, fun _ => val_ok R r q⟩)
      · cases e
    · split at e
      · split at e
        · rename_i z hz
          obtain ⟨pb, rfl, hb⟩ := key_tup R ry hz
          obtain ⟨p, vs, rfl, h1, h2, h3⟩ := see_dtt R rx ex
          rcases KR.val ⟨h2, h3⟩ z with ⟨e1, e2⟩ | ⟨v, d', e1, e2, r⟩
          · rw [e2] at e; cases e
          · rw [e2] at e; cases e
            exact .inr (.inl ⟨p, v, rfl, .inr ⟨vs, z, pb, h1, rfl, hb, e1.symm⟩, fun _ => val_ok R r q⟩)
        · cases e
      · cases e
    · split at e
      · rename_i z
        cases ry
        obtain ⟨p, vs, rfl, h1, h2, h3⟩ := see_kdc rx ex
        rcases KR.lookup ⟨h2, h3⟩ z with ⟨e1, e2⟩ | ⟨v, d', e1, e2, r⟩
        · rw [e2] at e; cases e
        · rw [e2] at e; cases e
          refine .inr (.inr ⟨p, vs, h1, rfl, ?_⟩)
          rw [e1]
          exact fun _ => val_ok R r q
      · cases e
    · cases e
  · exact q.elim
/-! ### slices -/
def cutD (xs : List D) (lo hi : Option Int) : List D := (xs.drop (HT.sIx xs.length 0 lo)).take (HT.sIx xs.length xs.length hi - HT.sIx xs.length 0 lo)
theorem cut_reps {k : Ct} {ρ : List Addr} {F : Hp} {vs : List V} {ds : List D} {lo hi : Option Int} (r : Reps k ρ F vs ds) : Reps k ρ F (cutV vs lo hi) (cutD ds lo hi) := by
  unfold cutV cutD
  rw [r.length]
  exact Reps.take _ (Reps.drop _ r)
def oSl (o : Bool) (O : Sto) (x : D) (lo hi : Option Int) : ER := match vw O x with
  | .str z => if z.length ≤ sizeLine then .val (.str (cutS z lo hi)) O else .stk
  | .lst xs => mk o (.lst (cutD xs lo hi)) O
  | .kls xs => mk o (.lst (cutD xs lo hi)) O
  | .tup xs => if HT.sIx xs.length 0 lo = 0 ∧ HT.sIx xs.length xs.length hi = xs.length then .val x O else .val (.tup (cutD xs lo hi)) O
  | _ => .stk
inductive PR where
  | val (i : Option Int) (O : Sto) | exc (x : Ex) (O : Sto) | stk
abbrev DP := Env → Sto → PR
def PR.toE (r : PR) (f : Option Int → Sto → ER) : ER := match r with
  | .val x O => f x O
  | .exc x O => .exc x O
  | .stk => .stk
def dNoPart : DP := fun _ O => .val none O
def dPart (da : DE) : DP := fun ε O => match da ε O with
  | .val (.int i) O' => .val (some i) O'
  | .exc x O' => .exc x O'
  | _ => .stk
def dSl (o : Bool) (da : DE) (lo hi : DP) : DE := fun ε O => (da ε O).bind fun x O1 => (lo ε O1).toE fun l O2 => (hi ε O2).toE fun h O3 => oSl o O3 x l h
def rSlB (K : PySem.W.Frag) : V → Option Int → Option Int → Hp → VK → Prop := fun x lo hi H Q => rSlU K x lo hi H Q ∨ rSlA K x lo hi H Q
theorem u_slB {X : Cx} : SlR X (rSlB X.K) := u_sl.or sl_tupA
theorem s_sl {o : Bool} {ad ρ F O H} {a : V} {x : D} {Q : VK} {W : XK} {lo hi : Option Int} (R : Rel ⟨K, w, ad⟩ ρ F O H) (rx : Rep ⟨K, w, ad⟩ ρ F a x) (q : EP ⟨K, w, ad⟩ ρ F O H Q W (oSl o O x lo hi)) : rSlB K a lo hi H (fun v H' => Apart K H' → Q v H') := by
  unfold oSl at q
  split at q
  · rename_i ex
    obtain rfl := see_str rx ex
    split at q
    · exact .inl ⟨‹_›, fun _ => val_ok R (.str _) q⟩
    · exact q.elim
  · rename_i ex
    obtain ⟨p, vs, rfl, h1, h2⟩ := see_lst R rx ex
    left
    rw [rSl_lst (lstv_of h1)]
    exact fun p hp ap => mk_lst R (cut_reps h2) hp ap q
  · rename_i ex
    obtain ⟨p, vs, rfl, h1, h2⟩ := see_kls R rx ex
    left
    rw [rSl_lst h1]
    exact fun p hp ap => mk_lst R (cut_reps h2) hp ap q
  · rename_i ex
    obtain ⟨p, vs, rfl, h1, h2⟩ := see_tup R rx ex
    right
    refine ⟨p, vs, rfl, tupv_sq h1, fun z _ => ?_, fun z p hp ap => ?_⟩
    · rw [h2.length] at z
      rw [if_pos z] at q
      exact val_ok R rx q
    · rw [h2.length] at z
      rw [if_neg z] at q
      exact mk_tup R (cut_reps h2) hp ap q
  · exact q.elim
end
/-- a part of a slice -/
def PP (k : Ct) (ρ : List Addr) (F : Hp) (O : Sto) (H : Hp) (Q : Option Int → Hp → Prop) (W : XK) : PR → Prop
  | .val x O' => ∀ ρ' F' H', Tr ρ F O H ρ' F' O' H' → Rel k ρ' F' O' H' → Q x H'
  | .exc x O' => XP k ρ F O H W x O'
  | .stk => False
def tP (k : Ct) (y : Option Yx) (W : WX) (d : DP) : L2.St → Hp → (Option Int → Hp → Prop) → Prop := fun σ H Q => ∃ ρ F O ε, Rel k ρ F O H ∧ SloR k y ρ F σ ε ∧ PP k ρ F O H Q (fun c o H' => W c o σ H') (d ε O)
section
variable {k : Ct} {ρ : List Addr} {F : Hp} {O : Sto} {H : Hp} {Q : VK} {W : XK}
theorem PP.tr {ρ1 F1 O1 H1} {Q : Option Int → Hp → Prop} (T : Tr ρ F O H ρ1 F1 O1 H1) {r : PR} (h : PP k ρ F O H Q W r) : PP k ρ1 F1 O1 H1 Q W r := by
  cases r with
  | val x O' => exact fun ρ' F' H' U => h ρ' F' H' (T.trans U)
  | exc x O' => exact XP.tr T h
  | stk => exact h
theorem pp_toE {r : PR} {f : Option Int → Sto → ER} {G : Option Int → Hp → Prop} (h : EP k ρ F O H Q W (r.toE f))
    (g : ∀ x O' ρ' F' H', Tr ρ F O H ρ' F' O' H' → Rel k ρ' F' O' H' → EP k ρ' F' O' H' Q W (f x O') → G x H') : PP k ρ F O H G W r := by
  cases r with
  | val x O' => exact fun ρ' F' H' T R => g x O' ρ' F' H' T R (EP.tr T h)
  | exc x O' => exact h
  | stk => exact h
end

section
variable {X : Cx} {y : Option Yx} {W : WX} {ad : String → Addr} {e : Expr} {lo hi : Option Expr} {da : DE} {dl dh : DP} {p2 pos : Pos}
theorem pd_po0 : PO X none (tP ⟨X.K, X.w, ad⟩ y W dNoPart) := ⟨fun pins s σ H Q I ⟨ρ, F, O, ε, R, S, q⟩ => po_none.run pins s σ H Q I (q _ _ _ .refl R)⟩
theorem pd_po1 (h : PE X e (tE ⟨X.K, X.w, ad⟩ y W da)) : PO X (some e) (tP ⟨X.K, X.w, ad⟩ y W (dPart da)) := ⟨fun pins s σ H Q I ⟨ρ, F, O, ε, R, S, q⟩ => (po_some h).run pins s σ H Q I ⟨ρ, F, O, ε, R, S, by
  unfold dPart at q
  split at q
  · rename_i e; rw [e]
    intro ρ' F' H' v T R' r
    cases r
    exact ⟨_, rfl, q _ _ _ T R'⟩
  · rename_i e; rw [e]; exact q
  · exact q.elim⟩⟩
theorem pd_sl {o : Bool} (he : PE X e (tE ⟨X.K, X.w, ad⟩ y W da)) (hl : PO X lo (tP ⟨X.K, X.w, ad⟩ y W dl)) (hu : PO X hi (tP ⟨X.K, X.w, ad⟩ y W dh)) :
    PE X (.Subscript e (.Slice lo hi none p2) pos) (tE ⟨X.K, X.w, ad⟩ y W (dSl o da dl dh)) := peM (pe_slice u_slB he hl hu) fun σ H Q ⟨ρ, F, O, ε, R, S, q⟩ _ =>
  ⟨ρ, F, O, ε, R, S, ep_bind q fun x O1 ρ1 F1 H1 v T1 R1 r1 q1 => ⟨ρ1, F1, O1, ε, R1, S.tr T1 R1, pp_toE q1 fun l O2 ρ2 F2 H2 T2 R2 q2 => ⟨ρ2, F2, O2, ε, R2, (S.tr T1 R1).tr T2 R2, pp_toE q2 fun h O3 ρ3 F3 H3 T3 R3 q3 => s_sl R3 ((r1.tr T2 R2).tr T3 R3) q3⟩⟩⟩
end
end Mi

namespace Mi
open PySem PySem.Spec PyProof.Rows L2 R
/-! ### changes of open objects -/
section
variable {k : Ct} {ρ : List Addr} {F : Hp} {O : Sto} {H : Hp} {n : Nat} {a : Addr} {o o' : Ob} {u : HO}
theorem set_get {O : Sto} {n m : Nat} {x : Option Ob} {o : Ob} (h : (O.set n x)[m]? = some (some o)) : (m = n ∧ x = some o) ∨ (m ≠ n ∧ O[m]? = some (some o)) := by
  by_cases e : n = m
  · subst e
    rw [List.getElem?_set] at h
    simp at h
    exact .inl ⟨rfl, h.2⟩
  · rw [List.getElem?_set_ne e] at h
    exact .inr ⟨fun z => e z.symm, h⟩
theorem ObR.ne {b : Addr} {o : Ob} (r : ObR k ρ F H b o) (ne : b ≠ a) : ObR k ρ F (upd H a u) b o := by
  cases o with
  | lst _ => obtain ⟨vs, b, c⟩ := r; exact ⟨vs, by rw [upd_ne ne]; exact b, c⟩
  | dic _ => obtain ⟨vs, b, c⟩ := r; exact ⟨vs, by rw [upd_ne ne]; exact b, c⟩
  | dtt _ => obtain ⟨vs, b, c⟩ := r; exact ⟨vs, by rw [upd_ne ne]; exact b, c⟩
  | ins _ _ => obtain ⟨dx, vs, b, c⟩ := r; exact ⟨dx, vs, by rw [upd_ne ne]; exact b, c⟩
theorem ap_put {K : PySem.W.Frag} (ap : Apart K H) (h : H a ≠ none) : Apart K (upd H a u) := fun b w e => by
  have := ap b w e
  rw [upd_ne (fun z => by subst z; exact h this)]; exact this
theorem Rel.put (R : Rel k ρ F O H) (hn : O[n]? = some (some o)) (ha : ρ[n]? = some a) (b : ObR k ρ F (upd H a u) a o') :
    Rel k ρ F (O.set n (some o')) (upd H a u) ∧ Tr ρ F O H ρ F (O.set n (some o')) (upd H a u) := by
  obtain ⟨fa, ra⟩ := R.ob n a o hn ha
  have hh := ra.here
  refine ⟨⟨⟨fun b w e => ?_, by simp [R.len], fun m b o2 h1 h2 => ?_, fun m1 m2 b o1 o2 h1 h2 h3 h4 => ?_, R.tb.put ra.nt⟩, ap_put R.ap hh⟩, ⟨⟨[], by simp, by simp⟩, fun _ _ e => e, fun m o2 _ e => ?_, fun b w e nl => ?_, fun b e e' => absurd e e', fun b e => ?_⟩⟩
  · rw [upd_ne (fun z => by subst z; rw [fa] at e; cases e)]; exact R.fr b w e
  · rcases set_get h1 with ⟨rfl, z⟩ | ⟨ne, z⟩
    · cases z
      rw [ha] at h2; cases h2
      exact ⟨fa, b⟩
    · have ne2 : b ≠ a := fun e => ne (R.inj m n a o2 o z hn (e ▸ h2) ha)
      exact ⟨(R.ob m b o2 z h2).1, (R.ob m b o2 z h2).2.ne ne2⟩
  · rcases set_get h1 with ⟨rfl, z⟩ | ⟨ne, z⟩
    · rcases set_get h2 with ⟨rfl, z2⟩ | ⟨ne2, z2⟩
      · rfl
      · exact R.inj _ m2 b o o2 hn z2 h3 h4
    · rcases set_get h2 with ⟨rfl, z2⟩ | ⟨ne2, z2⟩
      · exact R.inj m1 _ b o1 o z hn h3 h4
      · exact R.inj m1 m2 b o1 o2 z z2 h3 h4
  · rcases set_get e with ⟨rfl, z⟩ | ⟨ne, z⟩
    · exact ⟨o, hn⟩
    · exact ⟨o2, z⟩
  · rw [upd_ne (fun z => nl.1 ⟨n, o, hn, by rw [ha, z]⟩)]; exact e
  · by_cases hb : b = a
    · rw [hb, upd_same]; simp
    · rw [upd_ne hb]; exact e
/-- an open object is opened no more: a tree from now on -/
theorem Rel.kill (R : Rel k ρ F O H) (hn : O[n]? = some (some o)) (ha : ρ[n]? = some a) (hu : H a = some u) : Rel k ρ (upd F a u) (O.set n none) H ∧ Tr ρ F O H ρ (upd F a u) (O.set n none) H := by
  obtain ⟨fa, ra⟩ := R.ob n a o hn ha
  have ff : ∀ b w, F b = some w → upd F a u b = some w := fun b w e => by rw [upd_ne (ne_of_none e fa)]; exact e
  have apF : Apart k.K (upd F a u) := fun b w e => by
    by_cases hb : b = a
    · subst hb; have := R.ap b w e; rw [hu] at this; cases this
    · rw [upd_ne hb]; exact R.apF b w e
  refine ⟨⟨⟨fun b w e => ?_, by simp [R.len], fun m b o2 h1 h2 => ?_, fun m1 m2 b o1 o2 h1 h2 h3 h4 => ?_, R.tb.putF ra.nt⟩, R.ap⟩, ⟨⟨[], by simp, by simp⟩, ff, fun m o2 _ e => ?_, fun b w e _ => e, fun b e e' => ?_, fun b e => e⟩⟩
  · by_cases hb : b = a
    · subst hb; rw [upd_same] at e; cases e; exact hu
    · rw [upd_ne hb] at e; exact R.fr b w e
  · rcases set_get h1 with ⟨rfl, z⟩ | ⟨ne, z⟩
    · cases z
    · have ne2 : b ≠ a := fun e => ne (R.inj m n a o2 o z hn (e ▸ h2) ha)
      exact ⟨by rw [upd_ne ne2]; exact (R.ob m b o2 z h2).1, (R.ob m b o2 z h2).2.mono (fun _ _ e => e) ff apF⟩
  · rcases set_get h1 with ⟨rfl, z⟩ | ⟨ne, z⟩
    · cases z
    · rcases set_get h2 with ⟨rfl, z2⟩ | ⟨ne2, z2⟩
      · cases z2
      · exact R.inj m1 m2 b o1 o2 z z2 h3 h4
  · rcases set_get e with ⟨rfl, z⟩ | ⟨ne, z⟩
    · cases z
    · exact ⟨o2, z⟩
  · by_cases hb : b = a
    · exact .inr ⟨n, o, hn, by rw [ha, hb]⟩
    · rw [upd_ne hb] at e'; exact absurd e e'
/-- an open object is forgotten -/
theorem Rel.drop (R : Rel k ρ F O H) (n : Nat) : Rel k ρ F (O.set n none) H ∧ Tr ρ F O H ρ F (O.set n none) H := by
  refine ⟨⟨⟨R.fr, by simp [R.len], fun m b o2 h1 h2 => ?_, fun m1 m2 b o1 o2 h1 h2 h3 h4 => ?_, R.tb⟩, R.ap⟩, ⟨⟨[], by simp, by simp⟩, fun _ _ e => e, fun m o2 _ e => ?_, fun b w e _ => e, fun b e e' => absurd e e', fun b e => e⟩⟩
  · rcases set_get h1 with ⟨rfl, z⟩ | ⟨ne, z⟩
    · cases z
    · exact R.ob m b o2 z h2
  · rcases set_get h1 with ⟨rfl, z⟩ | ⟨ne, z⟩
    · cases z
    · rcases set_get h2 with ⟨rfl, z2⟩ | ⟨ne2, z2⟩
      · cases z2
      · exact R.inj m1 m2 b o1 o2 z z2 h3 h4
  · rcases set_get e with ⟨rfl, z⟩ | ⟨ne, z⟩
    · cases z
    · exact ⟨o2, z⟩
variable {Q : VK} {W : XK}
/-- the object behind an open reference -/
theorem Rel.at (R : Rel k ρ F O H) {v : V} {m : Nat} (r : Rep k ρ F v (.ref m)) (h : O[m]? = some (some o)) : ∃ a, v = .ref a ∧ ρ[m]? = some a ∧ ObR k ρ F H a o := by
  obtain ⟨a, e, h1, _, h2⟩ := R.live r h
  exact ⟨a, e, h1, h2⟩
theorem put_val {x : D} {v : V} (R : Rel k ρ F O H) (hn : O[n]? = some (some o)) (ha : ρ[n]? = some a) (b : ObR k ρ F (upd H a u) a o') (rv : Rep k ρ F v x) (q : EP k ρ F O H Q W (.val x (O.set n (some o')))) : Q v (upd H a u) := by
  obtain ⟨R', T⟩ := R.put hn ha b
  exact q _ _ _ _ T R' (rv.tr T R')
end
/-! ### values' truth, not -/
def truD (O : Sto) (x : D) : Option Bool := match vw O x with
  | .non => some false
  | .bl b => some b
  | .int i => some (i != 0)
  | .str z => if z.length ≤ sizeLine then some ((z.length : Int) != 0) else none
  | .lst xs => some (!xs.isEmpty)
  | .kls xs => some (!xs.isEmpty)
  | .tup xs => some (!xs.isEmpty)
  | _ => none
def oNot : Sto → D → ER := fun O x => match truD O x with
  | some b => .val (.bl (!b)) O
  | none => .stk
theorem empty_reps {k : Ct} {ρ : List Addr} {F : Hp} {vs : List V} {ds : List D} (r : Reps k ρ F vs ds) : vs.isEmpty = ds.isEmpty := by cases r <;> rfl
theorem tru_ok' {k : Ct} {ρ F O H} {v : V} {x : D} {b : Bool} {Q : Bool → Hp → Prop} (R : Rel k ρ F O H) (r : Rep k ρ F v x) (h : truD O x = some b) (q : Q b H) : truV k.K v H Q := by
  unfold truD at h
  split at h
  · rename_i e; cases h; obtain rfl := see_non r e; exact q
  · rename_i e; cases h; obtain rfl := see_bl r e; exact q
  · rename_i e; cases h; obtain rfl := see_int r e; exact q
  · rename_i e; split at h
    · cases h; obtain rfl := see_str r e; exact ⟨‹_›, q⟩
    · cases h
  · rename_i e; cases h
    obtain ⟨p, vs, rfl, h1, h2⟩ := see_lst R r e
    rw [truV_ref, sqv_l (lstv_of h1)]; simp only; rw [empty_reps h2]; exact q
  · rename_i e; cases h
    obtain ⟨p, vs, rfl, h1, h2⟩ := see_kls R r e
    rw [truV_ref, sqv_l h1]; simp only; rw [empty_reps h2]; exact q
  · rename_i e; cases h
    obtain ⟨p, vs, rfl, h1, h2⟩ := see_tup R r e
    rw [truV_ref, sqv_tup h1]; simp only; rw [empty_reps h2]; exact q
  · cases h
/-! ### built-ins by values -/
def lenD : D → Option Int
  | .str z => if z.length ≤ sizeLine then some z.length else none
  | .lst xs => some xs.length
  | .kls xs => some xs.length
  | .tup xs => some xs.length
  | .dic xs => some xs.length
  | _ => none
def oLen : Sto → List D → ER := fun O xs => match xs with
  | [x] => match lenD (vw O x) with
    | some n => .val (.int n) O
    | none => .stk
  | _ => .stk
def rLenR (K : PySem.W.Frag) : List V → Hp → VK → Prop := fun xs H Q => ∃ a kvs, xs = [V.ref a] ∧ Rd H a (.dK kvs) ∧ Q (.int kvs.length) H
theorem call_lenR {X : Cx} : CallR X (.builtin "len") (rLenR X.K) := by
  intro pins s σ H xs us Q I r h
  obtain ⟨a, kvs, rfl, ha, q⟩ := h
  obtain ⟨u, rfl, ru⟩ := vals1 r
  cases ru
  exact d_len I ha fun t s' I' => ⟨.int kvs.length, H, I', ⟨t, rfl⟩, q⟩
def rLenB (K : PySem.W.Frag) : List V → Hp → VK → Prop := fun xs H Q => rLenU K xs H Q ∨ rLenR K xs H Q
theorem clOr {X : Cx} {f : Value} {r r' : List V → Hp → VK → Prop} (h : CallR X f r) (h' : CallR X f r') : CallR X f (fun xs H Q => r xs H Q ∨ r' xs H Q) := fun pins s σ H xs us Q I rx q => q.elim (h pins s σ H xs us Q I rx) (h' pins s σ H xs us Q I rx)
theorem c_lenB {X : Cx} : CallR X (.builtin "len") (rLenB X.K) := clOr c_len call_lenR
section
variable {K : PySem.W.Frag} {w : World}
theorem s_len : RCl K w (rLenB K) oLen := fun ad ρ F O H a x Q W R rx q => by
  unfold oLen at q
  split at q
  · rename_i x
    cases rx with
    | cons r1 r0 =>
      cases r0
      split at q
      · rename_i n e
        generalize ex : vw O x = x' at e
        unfold lenD at e
        split at e
        · split at e
          · cases e
            obtain rfl := see_str r1 ex
            exact .inl ⟨‹_›, fun _ => val_ok R (.int _) q⟩
          · cases e
        · cases e
          obtain ⟨p, vs, rfl, h1, h2⟩ := see_lst R r1 ex
          left; rw [rLen_lst (lstv_of h1), h2.length]; exact fun _ => val_ok R (.int _) q
        · cases e
          obtain ⟨p, vs, rfl, h1, h2⟩ := see_kls R r1 ex
          left; rw [rLen_lst h1, h2.length]; exact fun _ => val_ok R (.int _) q
        · cases e
          obtain ⟨p, vs, rfl, h1, h2⟩ := see_tup R r1 ex
          left; rw [rLenU_ref, sqv_tup h1]; simp only; rw [h2.length]; exact fun _ => val_ok R (.int _) q
        · cases e
          obtain ⟨p, vs, rfl, h1, h2, h3⟩ := see_dic R r1 ex
          exact .inr ⟨p, vs, rfl, h1, by rw [KR.len ⟨h2, h3⟩]; exact fun _ => val_ok R (.int _) q⟩
        · cases e
      · exact q.elim
  · exact q.elim
theorem s_not : RUn K w (fun x H Q => truV K x H fun k H2 => Q (.bl (!k)) H2) oNot := fun ad ρ F O H a x Q W R rx q => by
  unfold oNot at q
  split at q
  · exact tru_ok' R rx ‹_› fun _ => val_ok R (.bl _) q
  · exact q.elim
def oNeg : Sto → D → ER := fun O x => match x with
  | .int i => .val (.int (-i)) O
  | _ => .stk
theorem s_neg : RUn K w (mU fun i => .int (-i)) oNeg := fun ad ρ F O H a x Q W R rx q => by
  unfold oNeg at q
  split at q
  · cases rx; exact fun _ => val_ok R (.int _) q
  · exact q.elim
/-- of one value -/
def oC1 (f : Sto → D → ER) : Sto → List D → ER := fun O xs => match xs with
  | [x] => f O x
  | _ => .stk
def oC2 (f : Sto → D → D → ER) : Sto → List D → ER := fun O xs => match xs with
  | [x, y] => f O x y
  | _ => .stk
theorem s_c1 {r : List V → Hp → VK → Prop} {f : Sto → D → ER} (h : RUn K w (fun x H Q => r [x] H Q) f) : RCl K w r (oC1 f) := fun ad ρ F O H a x Q W R rx q => by
  unfold oC1 at q
  split at q
  · cases rx with
    | cons r1 r0 => cases r0; exact h ad ρ F O H _ _ Q W R r1 q
  · exact q.elim
theorem s_c2 {r : List V → Hp → VK → Prop} {f : Sto → D → D → ER} (h : ROp K w (fun x y H Q => r [x, y] H Q) f) : RCl K w r (oC2 f) := fun ad ρ F O H a x Q W R rx q => by
  unfold oC2 at q
  split at q
  · cases rx with
    | cons r1 r0 => cases r0 with
      | cons r2 r0 => cases r0; exact h ad ρ F O H _ _ _ _ Q W R r1 r2 q
  · exact q.elim
def oInt : Sto → D → ER := fun O x => match x with
  | .int i => .val (.int i) O
  | .bl b => .val (.int (if b then 1 else 0)) O
  | .str a => match PySem.intText? a with
    | some n => if a.length ≤ 640 then .val (.int n) O else .stk
    | none => .stk
  | _ => .stk
theorem s_int : RCl K w rInt (oC1 oInt) := s_c1 fun ad ρ F O H a x Q W R rx q => by
  unfold oInt at q
  split at q
  · cases rx; exact fun _ => val_ok R (.int _) q
  · cases rx; exact fun _ => val_ok R (.int _) q
  · cases rx
    split at q
    · split at q
      · rename_i n e h
        show rInt [.str _] H _
        unfold rInt
        simp only [e]
        exact ⟨h, fun _ => val_ok R (.int _) q⟩
      · exact q.elim
    · exact q.elim
  · exact q.elim
def oAbs : Sto → D → ER := fun O x => match x with
  | .int j => .val (.int (if j < 0 then -j else j)) O
  | _ => .stk
theorem s_abs : RCl K w rAbs (oC1 oAbs) := s_c1 fun ad ρ F O H a x Q W R rx q => by
  unfold oAbs at q
  split at q
  · cases rx; exact fun _ => val_ok R (.int _) q
  · exact q.elim
theorem s_max2 : RCl K w rMax2 (oC2 (oI fun i j => .int (if j > i then j else i))) := s_c2 fun ad ρ F O H a b x y Q W R rx ry q => by
  unfold oI at q
  split at q
  · cases rx; cases ry; exact fun _ => val_ok R (.int _) q
  · exact q.elim
theorem s_min2 : RCl K w rMin2 (oC2 (oI fun i j => .int (if j < i then j else i))) := s_c2 fun ad ρ F O H a b x y Q W R rx ry q => by
  unfold oI at q
  split at q
  · cases rx; cases ry; exact fun _ => val_ok R (.int _) q
  · exact q.elim
def keyB : Key → D
  | .inl i => .int i
  | .inr s => .str s
def oList (o : Bool) : Sto → D → ER := fun O x => match vw O x with
  | .lst xs => mk o (.lst xs) O
  | .kls xs => mk o (.lst xs) O
  | .tup xs => mk o (.lst xs) O
  | .dic kvs => mk o (.lst (kvs.map fun kv => keyB kv.1)) O
  | _ => .stk
def rListB (K : PySem.W.Frag) : List V → Hp → VK → Prop := fun xs H Q => rListOf K xs H Q ∨ ∃ (a : Addr) (kvs : List (Key × V)), xs = [.ref a] ∧ Rd H a (.dK kvs) ∧ ∀ p, H p = none → Q (.ref p) (upd H p (.lst (kvs.map fun kv => kV kv.1)))
theorem c_listB {X : Cx} (hc : X.calm = true) : CallR X (.type "list") (rListB X.K) := clOr (c_list hc) (call_listD hc)
theorem keys_reps {k : Ct} {ρ : List Addr} {F : Hp} : ∀ {vs : List (Key × V)} {ds : List (Key × D)}, vs.map (·.1) = ds.map (·.1) → Reps k ρ F (vs.map fun kv => kV kv.1) (ds.map fun kv => keyB kv.1)
  | [], [], _ => .nil
  | a :: vs, b :: ds, h => by
    simp only [List.map_cons, List.cons.injEq] at h
    simp only [List.map_cons]
    refine .cons ?_ (keys_reps h.2)
    rw [h.1]
    cases b.1 with
    | inl i => exact .int i
    | inr i => exact .str i
  | [], _ :: _, h => by simp at h
  | _ :: _, [], h => by simp at h
theorem s_list {o : Bool} : RCl K w (rListB K) (oC1 (oList o)) := s_c1 fun ad ρ F O H a x Q W R rx q => by
  unfold oList at q
  split at q
  · rename_i e
    obtain ⟨p, vs, rfl, h1, h2⟩ := see_lst R rx e
    left; rw [rListOf_lst (lstv_of h1)]; exact fun p hp ap => mk_lst R h2 hp ap q
  · rename_i e
    obtain ⟨p, vs, rfl, h1, h2⟩ := see_kls R rx e
    left; rw [rListOf_lst h1]; exact fun p hp ap => mk_lst R h2 hp ap q
  · rename_i e
    obtain ⟨p, vs, rfl, h1, h2⟩ := see_tup R rx e
    left; rw [rListOf_ref, sqv_tup h1]; exact fun p hp ap => mk_lst R h2 hp ap q
  · rename_i e
    obtain ⟨p, vs, rfl, h1, h2, h3⟩ := see_dic R rx e
    exact .inr ⟨p, vs, rfl, h1, fun p hp ap => mk_lst R (keys_reps h2) hp ap q⟩
  · exact q.elim
def oTuple : Sto → D → ER := fun O x => match vw O x with
  | .lst xs => .val (.tup xs) O
  | .kls xs => .val (.tup xs) O
  | .tup xs => .val x O
  | _ => .stk
theorem s_tuple : RCl K w (rTupOf K) (oC1 oTuple) := s_c1 fun ad ρ F O H a x Q W R rx q => by
  unfold oTuple at q
  show rTupOf K [a] H _
  split at q
  · rename_i e
    obtain ⟨p, vs, rfl, h1, h2⟩ := see_lst R rx e
    unfold rTupOf; simp only [lstv_of h1]; exact fun p hp ap => mk_tup R h2 hp ap q
  · rename_i e
    obtain ⟨p, vs, rfl, h1, h2⟩ := see_kls R rx e
    have h1 : lstv K H p = some vs := h1
    unfold rTupOf; simp only [h1]; exact fun p hp ap => mk_tup R h2 hp ap q
  · rename_i e
    obtain ⟨p, vs, rfl, h1, h2⟩ := see_tup R rx e
    have h3 : lstv K H p = none := tupv_not_lst h1
    have h1 : tupv K H p = some vs := h1
    unfold rTupOf; simp only [h3, h1]; exact fun _ => val_ok R rx q
  · exact q.elim
def oDictC (o : Bool) : Sto → D → ER := fun O x => match vw O x with
  | .dic kvs => mk o (.dic kvs) O
  | _ => .stk
def rDictC : List V → Hp → VK → Prop := fun xs H Q => ∃ (a : Addr) (kvs : List (Key × V)), xs = [.ref a] ∧ Rd H a (.dK kvs) ∧ ∀ p, H p = none → Q (.ref p) (upd H p (.dK kvs))
theorem c_dictC {X : Cx} : CallR X (.type "dict") rDictC := call_dictD
def RClK (K : PySem.W.Frag) (w : World) (r : List V → Hp → VK → Prop) (op : Sto → List D → ER) : Prop := ∀ (ad : String → Addr) (ρ : List Addr) (F : Hp) (O : Sto) (H : Hp) (a : List V) (x : List D) (Q : VK) (W : XK), Rel ⟨K, w, ad⟩ ρ F O H → Reps ⟨K, w, ad⟩ ρ F a x →
  EP ⟨K, w, ad⟩ ρ F O H Q W (op O x) → r a H (fun v H' => Apart K H' → Lk Q v H')
theorem pd_cbK {X : Cx} {y : Option Yx} {W : WX} {ad : String → Addr} {e : Expr} {ds : DA} {r : List V → Hp → VK → Prop} {op : Sto → List D → ER} (hr : RClK X.K X.w r op) (h : PE X e (tCB r (tA ⟨X.K, X.w, ad⟩ y W ds))) : PE X e (tE ⟨X.K, X.w, ad⟩ y W (dCB op ds)) := peK h fun σ H Q ⟨ρ, F, O, ε, R, S, q⟩ _ =>
  ⟨ρ, F, O, ε, R, S, ap_toE q fun x O1 ρ1 F1 H1 v T1 R1 r1 q1 => hr ad _ _ _ _ _ _ _ _ R1 r1 q1⟩
theorem s_dict {o : Bool} : RClK K w rDictC (oC1 (oDictC o)) := fun ad ρ F O H a x Q W R rx q => by
  unfold oC1 at q
  split at q
  case h_2 => exact q.elim
  cases rx with
  | cons rx r0 =>
  cases r0
  unfold oDictC at q
  split at q
  · rename_i e
    obtain ⟨p, vs, rfl, h1, h2, h3⟩ := see_dic R rx e
    exact ⟨p, vs, rfl, h1, fun p hp ap => mk_dic R h2 h3 hp ap q⟩
  · exact q.elim
def oStr : Sto → D → ER := fun O x => match x with
  | .int i => if i.natAbs.log2 < 1920 then .val (.str (toString i)) O else .stk
  | _ => .stk
theorem s_str : RCl K w rStrI (oC1 oStr) := s_c1 fun ad ρ F O H a x Q W R rx q => by
  unfold oStr at q
  split at q
  · split at q
    · cases rx; exact ⟨‹_›, fun _ => val_ok R (.str _) q⟩
    · exact q.elim
  · exact q.elim
/-- the name of a value's type -/
def tyD : D → Option String
  | .non => some "NoneType" | .bl _ => some "bool" | .int _ => some "int" | .str _ => some "str"
  | .lst _ => some "list" | .tup _ => some "tuple" | .dic _ => some "dict"
  | _ => none
theorem tyD_ok {k : Ct} {ρ F O H} {v : V} {x : D} {t : String} (R : Rel k ρ F O H) (r : Rep k ρ F v x) (h : tyD (vw O x) = some t) : TyX k.K H v (.type t) := by
  generalize e : vw O x = x' at h
  unfold tyD at h
  split at h <;> first | cases h | skip
  · obtain rfl := see_non r e; exact .base .non
  · obtain rfl := see_bl r e; exact .base (.bl _)
  · obtain rfl := see_int r e; exact .base (.int _)
  · obtain rfl := see_str r e; exact .base (.str _)
  · obtain ⟨p, vs, rfl, h1, h2⟩ := see_lst R r e; exact .base (.lst h1)
  · obtain ⟨p, vs, rfl, h1, h2⟩ := see_tup R r e
    rcases tupv_sq h1 with (z | ⟨o, z⟩) | ⟨o, its, n, z, c, _⟩
    · exact .base (.tup z)
    · exact .fTuple z
    · exact .kTuple z c
  · obtain ⟨p, vs, rfl, h1, h2, h3⟩ := see_dic R r e
    rcases h1 with z | ⟨o, z⟩
    · exact .base (.dK z)
    · exact .fDict z
def oIsi : Sto → D → D → ER := fun O x y => match y with
  | .ty T => match tyD (vw O x) with
    | some t => match kitB t T with
      | some b => .val (.bl b) O
      | none => .stk
    | none => .stk
  | _ => .stk
theorem s_isi : RCl K w (rIsi K) (oC2 oIsi) := s_c2 fun ad ρ F O H a b x y Q W R rx ry q => by
  unfold oIsi at q
  split at q
  · cases ry
    split at q
    · split at q
      · exact ⟨_, _, _, _, _, rfl, .ty _, tyD_ok R rx ‹_›, kit_ty ‹_›, fun _ => val_ok R (.bl _) q⟩
      · exact q.elim
    · exact q.elim
  · exact q.elim
end
end Mi

namespace Mi
open PySem PySem.Spec PyProof.Rows L2 R
/-! ### tests -/
def dT1 (d : DE) : DT := fun ε O => match d ε O with
  | .val (.bl b) O' => .val b O'
  | .exc x O' => .exc x O'
  | _ => .stk
def dTr (d : DE) : DT := fun ε O => (d ε O).toB fun x O1 => match truD O1 x with
  | some b => .val b O1
  | none => .stk
def dNot (t : DT) : DT := fun ε O => (t ε O).toB fun b O1 => .val (!b) O1
def dAnd (t u : DT) : DT := fun ε O => (t ε O).toB fun b O1 => if b = true then u ε O1 else .val false O1
def dOr (t u : DT) : DT := fun ε O => (t ε O).toB fun b O1 => if b = true then .val true O1 else u ε O1
def dChain (op op' : Sto → D → D → ER) (da db dc : DE) : DE := fun ε O => (da ε O).bind fun x O1 => (db ε O1).bind fun y O2 => (op O2 x y).bind fun z O3 => match z with
  | .bl true => (dc ε O3).bind fun w O4 => op' O4 y w
  | .bl false => .val (.bl false) O3
  | _ => .stk
def dAndV (da db : DE) : DE := fun ε O => (da ε O).bind fun x O1 => match truD O1 x with
  | some true => db ε O1
  | some false => .val x O1
  | none => .stk
def dOrV (da db : DE) : DE := fun ε O => (da ε O).bind fun x O1 => match truD O1 x with
  | some true => .val x O1
  | some false => db ε O1
  | none => .stk
def dIf (t : DT) (da db : DE) : DE := fun ε O => (t ε O).toE fun b O1 => if b = true then da ε O1 else db ε O1
theorem ep_imp {k : Ct} {ρ F O H} {Q Q' : VK} {W : XK} {r : ER} (q : EP k ρ F O H Q W r) (i : ∀ v H', Q v H' → Q' v H') : EP k ρ F O H Q' W r := by
  cases r with
  | val x O' => exact fun ρ' F' H' v T R r => i _ _ (q ρ' F' H' v T R r)
  | exc x O' => exact q
  | stk => exact q
theorem bp_imp {k : Ct} {ρ F O H} {Q Q' : Bool → Hp → Prop} {W : XK} {r : BR} (q : BP k ρ F O H Q W r) (i : ∀ v H', Q v H' → Q' v H') : BP k ρ F O H Q' W r := by
  cases r with
  | val x O' => exact fun ρ' F' H' T R => i _ _ (q ρ' F' H' T R)
  | exc x O' => exact q
  | stk => exact q
section
variable {X : Cx} {y : Option Yx} {W : WX} {ad : String → Addr} {e : Expr} {da db dc : DE} {dt du : DT} {r r' : R2} {op op' : Sto → D → D → ER}
theorem t1_ep {k : Ct} {ρ F O H} {Q : Bool → Hp → Prop} {W : XK} {d : DE} {ε : Env} (q : BP k ρ F O H Q W (dT1 d ε O)) : EP k ρ F O H (fun x H' => ∃ b, x = .bl b ∧ Q b H') W (d ε O) := by
  unfold dT1 at q
  split at q
  · rename_i e; rw [e]
    intro ρ' F' H' v T R' r
    cases r
    exact ⟨_, rfl, q _ _ _ T R'⟩
  · rename_i e; rw [e]; exact q
  · exact q.elim
def apR (K : PySem.W.Frag) (r : R2) : R2 := fun x y H Q => r x y H (fun v H' => _root_.R.Apart K H' → Q v H')
theorem op_ap {f : Value → Value → Sem Value} {r : R2} (h : OpR X f r) : OpR X f (apR X.K r) := fun pins s σ H x y u v Q I rx ry q => thn (h pins s σ H x y u v _ I rx ry q) fun _ _ ⟨v, H', I', r', q'⟩ => ⟨v, H', I', r', q' (inv_ap I')⟩
theorem pd_tcmp (hr : ROp X.K X.w r op) (h : PT X e (tTest (tOp (apR X.K r) (tE ⟨X.K, X.w, ad⟩ y W da) (tE ⟨X.K, X.w, ad⟩ y W db)))) : PT X e (tT ⟨X.K, X.w, ad⟩ y W (dT1 (dOp op da db))) := ptM h fun σ H Q ⟨ρ, F, O, ε, R, S, q⟩ _ => by
  have q1 := t1_ep q
  exact ⟨ρ, F, O, ε, R, S, ep_bind q1 fun x O1 ρ1 F1 H1 v T1 R1 r1 q1 => ⟨ρ1, F1, O1, ε, R1, S.tr T1 R1, ep_bind q1 fun y O2 ρ2 F2 H2 w T2 R2 r2 q2 => hr ad ρ2 F2 O2 H2 v w x y (fun x H' => ∃ k, x = .bl k ∧ (_root_.R.Apart X.K H' → Q k H')) _ R2 (r1.tr T2 R2) r2 (ep_imp q2 fun x H' ⟨b, e, q⟩ => ⟨b, e, fun _ => q⟩)⟩⟩
theorem pd_tr (h : PT X e (tTr X.K (tE ⟨X.K, X.w, ad⟩ y W da))) : PT X e (tT ⟨X.K, X.w, ad⟩ y W (dTr da)) := ptM h fun σ H Q ⟨ρ, F, O, ε, R, S, q⟩ _ =>
  ⟨ρ, F, O, ε, R, S, ep_toB q fun x O1 ρ1 F1 H1 v T1 R1 r1 q1 => by
    split at q1
    · exact tru_ok' R1 r1 ‹_› fun _ => q1 _ _ _ .refl R1
    · exact q1.elim⟩
theorem pd_not (h : PT X e (tNot (tT ⟨X.K, X.w, ad⟩ y W dt))) : PT X e (tT ⟨X.K, X.w, ad⟩ y W (dNot dt)) := ptM h fun σ H Q ⟨ρ, F, O, ε, R, S, q⟩ _ =>
  ⟨ρ, F, O, ε, R, S, bp_toB q fun x O1 ρ1 F1 H1 T1 R1 q1 => fun _ => q1 _ _ _ .refl R1⟩
theorem pd_and (h : PW X e (tAnd (tT ⟨X.K, X.w, ad⟩ y W dt) (tT ⟨X.K, X.w, ad⟩ y W du))) : PW X e (tT ⟨X.K, X.w, ad⟩ y W (dAnd dt du)) := pwM h fun σ H Q ⟨ρ, F, O, ε, R, S, q⟩ _ =>
  ⟨ρ, F, O, ε, R, S, bp_toB q fun x O1 ρ1 F1 H1 T1 R1 q1 => by
    split
    · rename_i h; rw [if_pos h] at q1; exact ⟨ρ1, F1, O1, ε, R1, S.tr T1 R1, bp_imp q1 fun _ _ q _ => q⟩
    · rename_i h; rw [if_neg h] at q1; exact fun _ => q1 _ _ _ .refl R1⟩
theorem pd_or (h : PW X e (tOr (tT ⟨X.K, X.w, ad⟩ y W dt) (tT ⟨X.K, X.w, ad⟩ y W du))) : PW X e (tT ⟨X.K, X.w, ad⟩ y W (dOr dt du)) := pwM h fun σ H Q ⟨ρ, F, O, ε, R, S, q⟩ _ =>
  ⟨ρ, F, O, ε, R, S, bp_toB q fun x O1 ρ1 F1 H1 T1 R1 q1 => by
    split
    · rename_i h; rw [if_pos h] at q1; exact fun _ => q1 _ _ _ .refl R1
    · rename_i h; rw [if_neg h] at q1; exact ⟨ρ1, F1, O1, ε, R1, S.tr T1 R1, bp_imp q1 fun _ _ q _ => q⟩⟩
theorem chain_go (hr : ROp X.K X.w r op) (hr' : ROp X.K X.w r' op') {σ : L2.St} {H : Hp} {Q : VK} (h : tE ⟨X.K, X.w, ad⟩ y W (dChain op op' da db dc) σ H Q) :
    tChain (apR X.K r) (apR X.K r') (tE ⟨X.K, X.w, ad⟩ y W da) (tE ⟨X.K, X.w, ad⟩ y W db) (tE ⟨X.K, X.w, ad⟩ y W dc) σ H Q := by
  obtain ⟨ρ, F, O, ε, R, S, q⟩ := h
  refine ⟨ρ, F, O, ε, R, S, ep_bind q fun x O1 ρ1 F1 H1 v T1 R1 r1 q1 => ⟨ρ1, F1, O1, ε, R1, S.tr T1 R1, ep_bind q1 fun z O2 ρ2 F2 H2 w T2 R2 r2 q2 => ?_⟩⟩
  refine hr ad ρ2 F2 O2 H2 v w x z _ _ R2 (r1.tr T2 R2) r2 (ep_bind q2 fun b O3 ρ3 F3 H3 u T3 R3 r3 q3 => ?_)
  have S3 := ((S.tr T1 R1).tr T2 R2).tr T3 R3
  split at q3
  · cases r3
    exact ⟨true, rfl, ρ3, F3, O3, ε, R3, S3, ep_bind q3 fun w' O4 ρ4 F4 H4 u4 T4 R4 r4 q4 => hr' ad ρ4 F4 O4 H4 w u4 z w' Q _ R4 ((r2.tr T3 R3).tr T4 R4) r4 q4⟩
  · cases r3
    exact ⟨false, rfl, val_ok R3 (.bl false) q3⟩
  · exact q3.elim
theorem pd_chain (hr : ROp X.K X.w r op) (hr' : ROp X.K X.w r' op') (h : PE X e (tChain (apR X.K r) (apR X.K r') (tE ⟨X.K, X.w, ad⟩ y W da) (tE ⟨X.K, X.w, ad⟩ y W db) (tE ⟨X.K, X.w, ad⟩ y W dc))) : PE X e (tE ⟨X.K, X.w, ad⟩ y W (dChain op op' da db dc)) :=
  peImp h fun σ H Q q => chain_go hr hr' q
theorem pd_tchain (hr : ROp X.K X.w r op) (hr' : ROp X.K X.w r' op') (h : PT X e (tTest (tChain (apR X.K r) (apR X.K r') (tE ⟨X.K, X.w, ad⟩ y W da) (tE ⟨X.K, X.w, ad⟩ y W db) (tE ⟨X.K, X.w, ad⟩ y W dc)))) : PT X e (tT ⟨X.K, X.w, ad⟩ y W (dT1 (dChain op op' da db dc))) :=
  ptM h fun σ H Q ⟨ρ, F, O, ε, R, S, q⟩ _ => chain_go hr hr' ⟨ρ, F, O, ε, R, S, ep_imp (t1_ep q) fun x H' ⟨b, e, q⟩ => ⟨b, e, fun _ => q⟩⟩
theorem pd_if (h : PE X e (tIf (tT ⟨X.K, X.w, ad⟩ y W dt) (tE ⟨X.K, X.w, ad⟩ y W da) (tE ⟨X.K, X.w, ad⟩ y W db))) : PE X e (tE ⟨X.K, X.w, ad⟩ y W (dIf dt da db)) := peImp h fun σ H Q ⟨ρ, F, O, ε, R, S, q⟩ =>
  ⟨ρ, F, O, ε, R, S, bp_toE q fun x O1 ρ1 F1 H1 T1 R1 q1 => by
    split
    · rename_i h; rw [if_pos h] at q1; exact ⟨ρ1, F1, O1, ε, R1, S.tr T1 R1, q1⟩
    · rename_i h; rw [if_neg h] at q1; exact ⟨ρ1, F1, O1, ε, R1, S.tr T1 R1, q1⟩⟩
theorem pd_notV (h : PE X e (tNotU X.K (tE ⟨X.K, X.w, ad⟩ y W da))) : PE X e (tE ⟨X.K, X.w, ad⟩ y W (dUn oNot da)) := peM h fun σ H Q ⟨ρ, F, O, ε, R, S, q⟩ _ =>
  ⟨ρ, F, O, ε, R, S, ep_bind q fun x O1 ρ1 F1 H1 v T1 R1 r1 q1 => s_not (K := X.K) (w := X.w) ad _ _ _ _ _ _ _ _ R1 r1 q1⟩
theorem pd_orV (h : PE X e (tOrT X.K (tE ⟨X.K, X.w, ad⟩ y W da) (tE ⟨X.K, X.w, ad⟩ y W db))) : PE X e (tE ⟨X.K, X.w, ad⟩ y W (dOrV da db)) := peImp h fun σ H Q ⟨ρ, F, O, ε, R, S, q⟩ =>
  ⟨ρ, F, O, ε, R, S, ep_bind q fun x O1 ρ1 F1 H1 v T1 R1 r1 q1 => by
    split at q1
    · obtain ⟨k, h1, h2⟩ := truV_k (Q := fun b H' => b = true ∧ H' = H1) (tru_ok' R1 r1 ‹_› ⟨rfl, rfl⟩)
      exact ⟨k, h1, by rw [if_pos h2.1]; exact val_ok R1 r1 q1⟩
    · obtain ⟨k, h1, h2⟩ := truV_k (Q := fun b H' => b = false ∧ H' = H1) (tru_ok' R1 r1 ‹_› ⟨rfl, rfl⟩)
      exact ⟨k, h1, by rw [if_neg (by rw [h2.1]; simp)]; exact ⟨ρ1, F1, O1, ε, R1, S.tr T1 R1, q1⟩⟩
    · exact q1.elim⟩
theorem pd_andV (h : PE X e (tAndT X.K (tE ⟨X.K, X.w, ad⟩ y W da) (tE ⟨X.K, X.w, ad⟩ y W db))) : PE X e (tE ⟨X.K, X.w, ad⟩ y W (dAndV da db)) := peImp h fun σ H Q ⟨ρ, F, O, ε, R, S, q⟩ =>
  ⟨ρ, F, O, ε, R, S, ep_bind q fun x O1 ρ1 F1 H1 v T1 R1 r1 q1 => by
    split at q1
    · obtain ⟨k, h1, h2⟩ := truV_k (Q := fun b H' => b = true ∧ H' = H1) (tru_ok' R1 r1 ‹_› ⟨rfl, rfl⟩)
      exact ⟨k, h1, by rw [if_pos h2.1]; exact ⟨ρ1, F1, O1, ε, R1, S.tr T1 R1, q1⟩⟩
    · obtain ⟨k, h1, h2⟩ := truV_k (Q := fun b H' => b = false ∧ H' = H1) (tru_ok' R1 r1 ‹_› ⟨rfl, rfl⟩)
      exact ⟨k, h1, by rw [if_neg (by rw [h2.1]; simp)]; exact val_ok R1 r1 q1⟩
    · exact q1.elim⟩
end
/-! ### displays, fields -/
def dLst (o : Bool) (ds : DA) : DE := fun ε O => (ds ε O).toE fun xs O1 => if xs.length ≤ sizeLine then mk o (.lst xs) O1 else .stk
def dTup (ds : DA) : DE := fun ε O => (ds ε O).toE fun xs O1 => if xs.length ≤ sizeLine then .val (.tup xs) O1 else .stk
def dNewK (o : Bool) : DE := fun ε O => mk o (.dic []) O
def dNewT (o : Bool) : DE := fun ε O => mk o (.dtt []) O
def fldD (c : String) (f : Str) (O : Sto) (x : D) : ER := match vw O x with
  | .ins c' fs => if c' = c then (match fs.lookup f with
    | some d => .val d O
    | none => .stk) else .stk
  | _ => .stk
def dFld (c : String) (f : Str) (da : DE) : DE := fun ε O => (da ε O).bind fun x O1 => fldD c f O1 x
def dPrs : List (DE × DE) → Env → Sto → (List (Key × D) → Sto → ER) → ER
  | [], _, O, f => f [] O
  | (a, b) :: r, ε, O, f => (a ε O).bind fun x O1 => (b ε O1).bind fun z O2 => match keyD x with
    | some key => dPrs r ε O2 fun ps O3 => f ((key, z) :: ps) O3
    | none => .stk
def dDisp (o : Bool) (ps : List (DE × DE)) : DE := fun ε O => dPrs ps ε O fun kvs O1 => if kvs.length ≤ 15 then mk o (.dic (kvs.foldl (fun acc kv => putD acc kv.1 kv.2) [])) O1 else .stk
section
variable {X : Cx} {y : Option Yx} {W : WX} {ad : String → Addr} {e : Expr} {da db dc : DE} {ds : DA}
theorem pd_lst {o : Bool} (h : PE X e (tLst (tA ⟨X.K, X.w, ad⟩ y W ds))) : PE X e (tE ⟨X.K, X.w, ad⟩ y W (dLst o ds)) := peM h fun σ H Q ⟨ρ, F, O, ε, R, S, q⟩ _ =>
  ⟨ρ, F, O, ε, R, S, ap_toE q fun x O1 ρ1 F1 H1 v T1 R1 r1 q1 => by
    split at q1
    · exact ⟨by rw [r1.length]; assumption, fun p hp ap => mk_lst R1 r1 hp ap q1⟩
    · exact q1.elim⟩
theorem pd_tup (h : PE X e (tTup (tA ⟨X.K, X.w, ad⟩ y W ds))) : PE X e (tE ⟨X.K, X.w, ad⟩ y W (dTup ds)) := peM h fun σ H Q ⟨ρ, F, O, ε, R, S, q⟩ _ =>
  ⟨ρ, F, O, ε, R, S, ap_toE q fun x O1 ρ1 F1 H1 v T1 R1 r1 q1 => by
    split at q1
    · exact ⟨by rw [r1.length]; assumption, fun p hp ap => mk_tup R1 r1 hp ap q1⟩
    · exact q1.elim⟩
theorem pd_newK {o : Bool} (h : PE X e tDNewK) : PE X e (tE ⟨X.K, X.w, ad⟩ y W (dNewK o)) := peK h fun σ H Q ⟨ρ, F, O, ε, R, S, q⟩ _ => fun p hp ap => mk_dic R rfl .nil hp ap q
theorem pd_newT {o : Bool} (h : PE X e tDNewT) : PE X e (tE ⟨X.K, X.w, ad⟩ y W (dNewT o)) := peK h fun σ H Q ⟨ρ, F, O, ε, R, S, q⟩ _ => fun p hp ap => mk_dtt R rfl .nil hp ap q
theorem fld_ok {k : Ct} {ρ F O H} {v : V} {x : D} {c : String} {f : Str} {Q : VK} {W : XK} (R : Rel k ρ F O H) (r : Rep k ρ F v x) (q : EP k ρ F O H Q W (fldD c f O x)) :
    ∃ a dx vs z, v = .ref a ∧ H a = some (.ins (k.ad c) dx vs) ∧ vs.lookup f = some z ∧ Q z H := by
  unfold fldD at q
  split at q
  · rename_i c' fs e
    split at q
    · rename_i hc
      subst hc
      split at q
      · rename_i d hd
        obtain ⟨a, dx, vs, rfl, h1, h2, h3⟩ := see_ins R r e
        rcases KR.lookup ⟨h2, h3⟩ f with ⟨e1, e2⟩ | ⟨v, d', e1, e2, r'⟩
        · rw [hd] at e2; cases e2
        · rw [hd] at e2; cases e2
          exact ⟨a, dx, vs, v, rfl, h1, e1, val_ok R r' q⟩
      · exact q.elim
    · exact q.elim
  · exact q.elim
theorem pd_fld {c : String} {f : Str} {C : Addr} (hc : ad c = C) (h : PE X e (tFldC C f (tE ⟨X.K, X.w, ad⟩ y W da))) : PE X e (tE ⟨X.K, X.w, ad⟩ y W (dFld c f da)) := peM h fun σ H Q ⟨ρ, F, O, ε, R, S, q⟩ _ =>
  ⟨ρ, F, O, ε, R, S, ep_bind q fun x O1 ρ1 F1 H1 v T1 R1 r1 q1 => by
    subst hc
    obtain ⟨a, dx, vs, z, rfl, h1, h2, h3⟩ := fld_ok R1 r1 q1
    simp only [h1, h2]
    exact ⟨trivial, fun _ => h3⟩⟩
theorem ep_bind0 {k : Ct} {ρ F O H ρ0 F0 O0 H0} {Q : VK} {W : XK} {r : ER} {f : D → Sto → ER} {G : VK} (T0 : Tr ρ0 F0 O0 H0 ρ F O H) (h : EP k ρ0 F0 O0 H0 Q W (r.bind f))
    (g : ∀ x O' ρ' F' H' v, Tr ρ F O H ρ' F' O' H' → Rel k ρ' F' O' H' → Rep k ρ' F' v x → EP k ρ0 F0 O0 H0 Q W (f x O') → G v H') : EP k ρ F O H G W r := by
  cases r with
  | val x O' => exact fun ρ' F' H' v T R r => g x O' ρ' F' H' v T R r h
  | exc x O' => exact XP.tr T0 h
  | stk => exact h
/-- the pairs of a display, from the left; what stands beside is kept -/
theorem prs_go {trs : List (DE × DE)} : ∀ {σ : L2.St} {H : Hp} {QP : List (V × V) → Hp → Prop} {ρ F O ε ρ0 F0 O0 H0} {Q : VK} {f : List (Key × D) → Sto → ER}, Rel ⟨X.K, X.w, ad⟩ ρ F O H → SloR ⟨X.K, X.w, ad⟩ y ρ F σ ε → Tr ρ0 F0 O0 H0 ρ F O H →
    EP ⟨X.K, X.w, ad⟩ ρ0 F0 O0 H0 Q (fun c o H' => W c o σ H') (dPrs trs ε O f) →
    (∀ ρ' F' H' O' kvs kds, Tr ρ F O H ρ' F' O' H' → Rel ⟨X.K, X.w, ad⟩ ρ' F' O' H' → KR ⟨X.K, X.w, ad⟩ ρ' F' kvs kds → EP ⟨X.K, X.w, ad⟩ ρ0 F0 O0 H0 Q (fun c o H' => W c o σ H') (f kds O') → QP (kvs.map fun kv => (kV kv.1, kv.2)) H') →
    tPairs (trs.map fun t => (apE X.K (tE ⟨X.K, X.w, ad⟩ y W t.1), apE X.K (tE ⟨X.K, X.w, ad⟩ y W t.2))) σ H QP := by
  induction trs with
  | nil => intro σ H QP ρ F O ε ρ0 F0 O0 H0 Q f R S T0 q g; exact g _ _ _ _ [] [] .refl R KR.nil q
  | cons t trs ih =>
    obtain ⟨a, b⟩ := t
    intro σ H QP ρ F O ε ρ0 F0 O0 H0 Q f R S T0 q g
    rw [List.map_cons, tPairs_cons]
    refine fun _ => ⟨ρ, F, O, ε, R, S, ep_bind0 T0 q fun x O1 ρ1 F1 H1 v T1 R1 r1 q1 => fun _ _ => ⟨ρ1, F1, O1, ε, R1, S.tr T1 R1, ep_bind0 (T0.trans T1) q1 fun z O2 ρ2 F2 H2 w T2 R2 r2 q2 => fun _ => ?_⟩⟩
    split at q2
    · rename_i key hk
      obtain rfl := keyD_ok r1 hk
      refine ih R2 ((S.tr T1 R1).tr T2 R2) ((T0.trans T1).trans T2) q2 fun ρ' F' H' O' kvs kds T R' r q3 => ?_
      exact g ρ' F' H' O' ((key, w) :: kvs) ((key, z) :: kds) ((T1.trans T2).trans T) R' (KR.cons_iff.mpr ⟨rfl, r2.tr T R', r⟩) q3
    · exact q2.elim
theorem merge_reps {k : Ct} {ρ F} : ∀ {kvs : List (Key × V)} {kds : List (Key × D)} {vs ds}, KR k ρ F kvs kds → KR k ρ F vs ds → KR k ρ F (mergeK vs kvs) (kds.foldl (fun acc kv => putD acc kv.1 kv.2) ds)
  | [], [], _, _, _, r => r
  | a :: kvs, b :: kds, vs, ds, h, r => by
    obtain ⟨h1, h2, h3⟩ := KR.cons_iff.mp h
    unfold mergeK
    rw [List.foldl_cons, List.foldl_cons, h1]
    exact merge_reps h3 (r.put h2)
  | [], _ :: _, _, _, h, _ => by have := h.len; simp at this
  | _ :: _, [], _, _, h, _ => by have := h.len; simp at this
/-- a thing of ours that stood beside becomes a tree, or an open object -/
theorem adopt_tree {k : Ct} {ρ F O H ρ' F' O' H'} {p : Addr} {u : HO} (T : Tr ρ F O H ρ' F' O' H') (R : Rel k ρ' F' O' H') (hp : H p = none) (hF : F' p = none) (hl : ¬ Liv ρ' O' p) (hH : H' p ≠ none) (hT : ∀ ps, H' p ≠ some (.tbl ps)) :
    Rel k ρ' (upd F' p u) O' (upd H' p u) ∧ Tr ρ F O H ρ' (upd F' p u) O' (upd H' p u) := by
  have ff : ∀ a w, F' a = some w → upd F' p u a = some w := fun a w e => by rw [upd_ne (ne_of_none e hF)]; exact e
  have apH := ap_put (u := u) R.ap hH
  have apF : _root_.R.Apart k.K (upd F' p u) := fun b o e => by
    by_cases hb : b = p
    · subst hb; have := apH b o e; rw [upd_same] at this; cases this
    · rw [upd_ne hb]; exact R.apF b o e
  have nl : ∀ (n : Nat) (a : Addr) (o : Ob), O'[n]? = some (some o) → ρ'[n]? = some a → a ≠ p := fun n a o h1 h2 z => hl ⟨n, o, h1, z ▸ h2⟩
  refine ⟨⟨⟨fun a w e => ?_, R.len, fun n a o h1 h2 => ?_, R.inj, (R.tb.putF hT).put hT⟩, apH⟩, ⟨T.pre, fun a w e => ff a w (T.ff a w e), T.dead, fun a w e l => ?_, fun a e e' => ?_, fun a e => ?_⟩⟩
  · by_cases hb : a = p
    · subst hb; rw [upd_same] at e ⊢; exact e
    · rw [upd_ne hb] at e ⊢; exact R.fr a w e
  · have ne := nl n a o h1 h2
    exact ⟨by rw [upd_ne ne]; exact (R.ob n a o h1 h2).1, ((R.ob n a o h1 h2).2.ne ne).mono (fun _ _ e => e) ff apF⟩
  · rw [upd_ne (ne_of_none e hp)]; exact T.fr a w e l
  · by_cases hb : a = p
    · subst hb; exact .inl hp
    · rw [upd_ne hb] at e'; exact T.gr a e e'
  · by_cases hb : a = p
    · rw [hb, upd_same]; simp
    · rw [upd_ne hb]; exact T.st a e
theorem adopt_open {k : Ct} {ρ F O H ρ' F' O' H'} {p : Addr} {u : HO} {o : Ob} (T : Tr ρ F O H ρ' F' O' H') (R : Rel k ρ' F' O' H') (hp : H p = none) (hF : F' p = none) (hl : ¬ Liv ρ' O' p) (hH : H' p ≠ none) (hT : ∀ ps, H' p ≠ some (.tbl ps)) (b : ObR k ρ' F' (upd H' p u) p o) :
    Rel k (ρ' ++ [p]) F' (O' ++ [some o]) (upd H' p u) ∧ Tr ρ F O H (ρ' ++ [p]) F' (O' ++ [some o]) (upd H' p u) := by
  have pr : ∀ (n : Nat) (a : Addr), ρ'[n]? = some a → (ρ' ++ [p])[n]? = some a := fun n a e => by
    rw [List.getElem?_append_left (List.getElem?_eq_some_iff.mp e).1]; exact e
  have cs : ∀ (n : Nat) (a : Addr) (o2 : Ob), (O' ++ [some o])[n]? = some (some o2) → (ρ' ++ [p])[n]? = some a → (O'[n]? = some (some o2) ∧ ρ'[n]? = some a) ∨ (n = O'.length ∧ o2 = o ∧ a = p) := fun n a o2 h1 h2 => by
    by_cases hn : n < O'.length
    · rw [List.getElem?_append_left hn] at h1
      rw [List.getElem?_append_left (by rw [R.len]; exact hn)] at h2
      exact .inl ⟨h1, h2⟩
    · have hl : n < O'.length + 1 := by
        have := (List.getElem?_eq_some_iff.mp h1).1
        simpa using this
      have : n = O'.length := by omega
      subst this
      rw [List.getElem?_append_right (by omega)] at h1
      rw [List.getElem?_append_right (by rw [R.len]; omega)] at h2
      simp [R.len] at h1 h2
      exact .inr ⟨rfl, h1.symm, h2.symm⟩
  have nl : ∀ (n : Nat) (a : Addr) (o : Ob), O'[n]? = some (some o) → ρ'[n]? = some a → a ≠ p := fun n a o h1 h2 z => hl ⟨n, o, h1, z ▸ h2⟩
  have hlen : ρ.length ≤ ρ'.length := by obtain ⟨l, e, _⟩ := T.pre; rw [e, List.length_append]; omega
  refine ⟨⟨⟨fun a w e => ?_, by simp [R.len], fun n a o2 h1 h2 => ?_, fun n m a o1 o2 h1 h2 h3 h4 => ?_, R.tb.put hT⟩, ap_put R.ap hH⟩, ⟨?_, T.ff, fun n o' hn e => ?_, fun a w e l => ?_, T.gr, fun a e => ?_⟩⟩
  · rw [upd_ne (ne_of_none e hF)]; exact R.fr a w e
  · rcases cs n a o2 h1 h2 with ⟨z1, z2⟩ | ⟨_, rfl, rfl⟩
    · exact ⟨(R.ob n a o2 z1 z2).1, ((R.ob n a o2 z1 z2).2.ne (nl n a o2 z1 z2)).mono pr (fun _ _ e => e) R.apF⟩
    · exact ⟨hF, b.mono pr (fun _ _ e => e) R.apF⟩
  · rcases cs n a o1 h1 h3 with ⟨z1, z2⟩ | ⟨rfl, rfl, rfl⟩
    · rcases cs m a o2 h2 h4 with ⟨w1, w2⟩ | ⟨rfl, rfl, rfl⟩
      · exact R.inj n m a o1 o2 z1 w1 z2 w2
      · exact absurd rfl (nl n a o1 z1 z2)
    · rcases cs m a o2 h2 h4 with ⟨w1, w2⟩ | ⟨rfl, rfl, _⟩
      · exact absurd rfl (nl m a o2 w1 w2)
      · rfl
  · obtain ⟨l, e, h⟩ := T.pre
    exact ⟨l ++ [p], by rw [e, List.append_assoc], fun a ha => by
      rcases List.mem_append.mp ha with z | z
      · exact h a z
      · rw [List.mem_singleton.mp z]; exact hp⟩
  · rw [List.getElem?_append_left (by rw [← R.len]; omega)] at e
    exact T.dead n o' hn e
  · rw [upd_ne (ne_of_none e hp)]; exact T.fr a w e l
  · by_cases hb : a = p
    · rw [hb, upd_same]; simp
    · rw [upd_ne hb]; exact T.st a e
theorem adopt_dic {k : Ct} {ρ F O H ρ' F' O' H'} {Q : VK} {W : XK} {o : Bool} {p : Addr} {vs : List (Key × V)} {ds : List (Key × D)} (T : Tr ρ F O H ρ' F' O' H') (R : Rel k ρ' F' O' H') (hp : H p = none) (hF : F' p = none) (hl : ¬ Liv ρ' O' p) (hH : H' p ≠ none) (hT : ∀ ps, H' p ≠ some (.tbl ps))
    (r : KR k ρ' F' vs ds) (h : EP k ρ F O H Q W (mk o (.dic ds) O')) : Lk Q (.ref p) (upd H' p (.dK vs)) := by
  cases o with
  | true => exact .inr (.inr (by
      obtain ⟨R', T'⟩ := adopt_open (u := .dK vs) (o := .dic ds) T R hp hF hl hH hT ⟨vs, upd_same, r.1, r.2⟩
      exact h _ _ _ _ T' R' (.ref (by rw [List.getElem?_append_right (by rw [R.len]; exact Nat.le_refl _)]; simp [R.len]))))
  | false =>
    refine .inl ⟨p, vs, rfl, upd_same, fun od => ?_⟩
    rw [upd_upd]
    obtain ⟨R', T'⟩ := adopt_tree (u := .frz od (.dK vs)) T R hp hF hl hH hT
    exact h _ _ _ _ T' R' (.dic (by unfold lkv; rw [upd_same]) r.1 (r.2.mono (fun _ _ e => e) (fun a w e => by rw [upd_ne (ne_of_none e hF)]; exact e) R'.apF))
theorem pd_disp {o : Bool} {t : DE × DE} {trs : List (DE × DE)} (h : PE X e (tDisp ((t :: trs).map fun t => (apE X.K (tE ⟨X.K, X.w, ad⟩ y W t.1), apE X.K (tE ⟨X.K, X.w, ad⟩ y W t.2))))) : PE X e (tE ⟨X.K, X.w, ad⟩ y W (dDisp o (t :: trs))) := by
  refine peK h fun σ H Q ⟨ρ, F, O, ε, R, S, q⟩ ap p hp => ?_
  suffices hh : _root_.R.Apart X.K (upd H p (.dK [])) → tPairs ((t :: trs).map fun t => (apE X.K (tE ⟨X.K, X.w, ad⟩ y W t.1), apE X.K (tE ⟨X.K, X.w, ad⟩ y W t.2))) σ (upd H p (.dK [])) fun ps H2 => H2 p = some (.dK []) ∧ ∃ kvs : List (Key × V), ps = kvs.map (fun kv => (kV kv.1, kv.2)) ∧ kvs.length ≤ 15 ∧ (_root_.R.Apart X.K (upd H2 p (.dK (mergeK [] kvs))) → Lk Q (.ref p) (upd H2 p (.dK (mergeK [] kvs)))) by
    rw [List.map_cons, tPairs_cons] at hh ⊢
    exact fun ap => hh ap ap
  intro apP
  obtain ⟨R0, T0⟩ := R.side (u := .dK []) hp apP
  refine prs_go R0 (S.tr T0 R0) T0 q fun ρ' F' H' O' kvs kds T R' r q3 => ?_
  split at q3
  · rename_i hl
    have hH : H' p = some (.dK []) := T.fr p _ upd_same ⟨fun l => notLiv R hp l, fun _ z => nomatch z⟩
    have hF : F' p = none := by
      cases e : F' p with
      | none => rfl
      | some u =>
        rcases T.gr p (F_none R hp) (by rw [e]; simp) with z | z
        · rw [upd_same] at z; cases z
        · exact (notLiv R hp z).elim
    have hL : ¬ Liv ρ' O' p := fun l => notLiv R hp (T.liv (by rw [upd_same]; simp) l)
    refine ⟨hH, kvs, rfl, by rw [r.len]; exact hl, fun ap2 => ?_⟩
    exact adopt_dic (T0.trans T) R' hp hF hL (by rw [hH]; simp) (by rw [hH]; simp) (merge_reps r KR.nil) q3
  · exact q3.elim
end
end Mi

namespace Mi
open PySem PySem.Spec PyProof.Rows L2 R
/-! ### statements -/
def SR.seq (r : SR) (f : Env → Sto → SR) : SR := match r with
  | .nx ε O => f ε O
  | r => r
def dNext : DS := fun ε O => .nx ε O
def dSeq (a b : DS) : DS := fun ε O => (a ε O).seq b
def dExpr (d : DE) : DS := fun ε O => (d ε O).toS ε fun _ O1 => .nx ε O1
def dRet (d : DE) : DS := fun ε O => (d ε O).toS ε fun x O1 => .rt x O1
def dRetN : DS := fun _ O => .rt .non O
def dBreak : DS := fun ε O => .bk ε O
def dCont : DS := fun ε O => .ct ε O
def dIfS (t : DT) (a b : DS) : DS := fun ε O => (t ε O).toS ε fun c O1 => if c = true then a ε O1 else b ε O1
/-- targets -/
inductive GR where
  | nx (ε : Env) (O : Sto) | exc (x : Ex) (ε : Env) (O : Sto) | stk
def GR.toS : GR → SR
  | .nx ε O => .nx ε O
  | .exc x ε O => .exc x ε O
  | .stk => .stk
def GR.seq (r : GR) (f : Env → Sto → GR) : GR := match r with
  | .nx ε O => f ε O
  | r => r
def ER.toG (r : ER) (ε : Env) (f : D → Sto → GR) : GR := match r with
  | .val x O => f x O
  | .exc x O => .exc x ε O
  | .stk => .stk
abbrev DG := D → Env → Sto → GR
def gNm (i : Nat) : DG := fun x ε O => .nx (ε.set i (.v x)) O
def gAll : List DG → List D → Env → Sto → GR
  | [], [], ε, O => .nx ε O
  | g :: gs, x :: xs, ε, O => (g x ε O).seq fun ε1 O1 => gAll gs xs ε1 O1
  | _, _, _, _ => .stk
def gTp (gs : List DG) : DG := fun x ε O => match vw O x with
  | .tup xs => if xs.length = gs.length then gAll gs xs ε O else .stk
  | _ => .stk
def dAsg (d : DE) (g : DG) : DS := fun ε O => (d ε O).toS ε fun x O1 => (g x ε O1).toS
/-- what a target does -/
def GP (k : Ct) (y : Option Yx) (ρ : List Addr) (F : Hp) (O : Sto) (H : Hp) (Q : L2.St → Hp → Prop) (W : WX) : GR → Prop
  | .nx ε O' => NP k y ρ F O H Q ε O'
  | .exc x ε O' => ∀ ρ' F' H' cls od σ', Tr ρ F O H ρ' F' O' H' → Rel k ρ' F' O' H' → SloR k y ρ' F' σ' ε → XR k ρ' F' cls od x → W cls od σ' H'
  | .stk => False
def tG (k : Ct) (y : Option Yx) (W : WX) (g : DG) : TG := fun v σ H Q => ∃ ρ F O ε x, Rel k ρ F O H ∧ SloR k y ρ F σ ε ∧ Rep k ρ F v x ∧ GP k y ρ F O H Q W (g x ε O)
section
variable {k : Ct} {y : Option Yx} {ρ : List Addr} {F : Hp} {O : Sto} {H : Hp} {D' : Ends} {WW : WX} {σ : L2.St} {ε : Env}
theorem NP.tr {ρ1 F1 O1 H1} {Q : L2.St → Hp → Prop} {O' : Sto} (T : Tr ρ F O H ρ1 F1 O1 H1) (h : NP k y ρ F O H Q ε O') : NP k y ρ1 F1 O1 H1 Q ε O' := fun ρ' F' H' σ' U => h ρ' F' H' σ' (T.trans U)
theorem GP.tr {ρ1 F1 O1 H1} {Q : L2.St → Hp → Prop} {r : GR} (T : Tr ρ F O H ρ1 F1 O1 H1) (h : GP k y ρ F O H Q WW r) : GP k y ρ1 F1 O1 H1 Q WW r := by
  cases r with
  | nx ε O' => exact NP.tr T h
  | exc x ε O' => exact fun ρ' F' H' cls od σ' U => h ρ' F' H' cls od σ' (T.trans U)
  | stk => exact h
theorem gp_of {r : GR} (h : SP k y ρ F O H D' WW r.toS) : GP k y ρ F O H D'.nx WW r := by cases r <;> exact h
theorem gp_imp {r : GR} {Q Q' : L2.St → Hp → Prop} (h : GP k y ρ F O H Q WW r) (i : ∀ σ H, Q σ H → Q' σ H) : GP k y ρ F O H Q' WW r := by
  cases r with
  | nx ε O' => exact fun ρ' F' H' σ' T R S => i _ _ (h ρ' F' H' σ' T R S)
  | exc x ε O' => exact h
  | stk => exact h
theorem ep_toG {Q : L2.St → Hp → Prop} {r : ER} {f : D → Sto → GR} {G : VK} (S : SloR k y ρ F σ ε) (h : GP k y ρ F O H Q WW (r.toG ε f))
    (g : ∀ x O' ρ' F' H' v, Tr ρ F O H ρ' F' O' H' → Rel k ρ' F' O' H' → Rep k ρ' F' v x → GP k y ρ' F' O' H' Q WW (f x O') → G v H') : EP k ρ F O H G (fun c o H' => WW c o σ H') r := by
  cases r with
  | val x O' => exact fun ρ' F' H' v T R r => g x O' ρ' F' H' v T R r (GP.tr T h)
  | exc x O' => exact fun ρ' F' H' cls od T R r => h ρ' F' H' cls od σ T R (S.tr T R) r
  | stk => exact h
theorem sp_nx {r : SR} {D' : Ends} {N : L2.St → Hp → Prop} (h : SP k y ρ F O H D' WW r) (g : ∀ ε O', r = .nx ε O' → NP k y ρ F O H D'.nx ε O' → NP k y ρ F O H N ε O') : SP k y ρ F O H { D' with nx := N } WW r := by
  cases r with
  | nx ε O' => exact g ε O' rfl h
  | rt x O' => exact h
  | bk ε O' => exact h
  | ct ε O' => exact h
  | exc x ε O' => exact h
  | stk => exact h
end
theorem pssI {X : Cx} {sts : List Stmt} {t t' : TS} (h : PSs X sts t) (i : ∀ D σ H, t' D σ H → t D σ H) : PSs X sts t' := ⟨fun pins s σ H D I q => h.run pins s σ H D I (i _ _ _ q)⟩
section
variable {X : Cx} {y : Option Yx} {W : WX} {ad : String → Addr} {st : Stmt} {rest : List Stmt} {a b : DS} {e : Expr} {d : DE} {t : DT}
theorem pd_snil : PSs X [] (tS ⟨X.K, X.w, ad⟩ y W dNext) := pssI pss_nil fun D σ H ⟨ρ, F, O, ε, R, S, q⟩ => q _ _ _ _ .refl R S
theorem pd_scons (ha : PS X st (tS ⟨X.K, X.w, ad⟩ y W a)) (hb : PSs X rest (tS ⟨X.K, X.w, ad⟩ y W b)) : PSs X (st :: rest) (tS ⟨X.K, X.w, ad⟩ y W (dSeq a b)) := pssI (pss_cons ha hb) fun D σ H ⟨ρ, F, O, ε, R, S, q⟩ =>
  ⟨ρ, F, O, ε, R, S, by
    unfold dSeq at q
    cases h : a ε O with
    | nx ε1 O1 => rw [h] at q; exact fun ρ' F' H' σ' T R' S' => ⟨ρ', F', O1, ε1, R', S', SP.tr T q⟩
    | rt x O' => rw [h] at q; exact q
    | bk ε O' => rw [h] at q; exact q
    | ct ε O' => rw [h] at q; exact q
    | exc x ε O' => rw [h] at q; exact q
    | stk => rw [h] at q; exact q⟩
theorem pd_sone (ha : PS X st (tS ⟨X.K, X.w, ad⟩ y W a)) : PSs X [st] (tS ⟨X.K, X.w, ad⟩ y W a) := pssI (pss_cons ha pss_nil) fun D σ H ⟨ρ, F, O, ε, R, S, q⟩ => ⟨ρ, F, O, ε, R, S, q⟩
theorem pd_expr (h : PS X st (tDrop (tE ⟨X.K, X.w, ad⟩ y W d))) : PS X st (tS ⟨X.K, X.w, ad⟩ y W (dExpr d)) := psImp h fun D σ H ⟨ρ, F, O, ε, R, S, q⟩ =>
  ⟨ρ, F, O, ε, R, S, ep_toS S q fun x O1 ρ1 F1 H1 v T1 R1 r1 q1 => q1 _ _ _ _ .refl R1 (S.tr T1 R1)⟩
theorem pd_ret (h : PS X st (tRet (tE ⟨X.K, X.w, ad⟩ y W d))) : PS X st (tS ⟨X.K, X.w, ad⟩ y W (dRet d)) := psImp h fun D σ H ⟨ρ, F, O, ε, R, S, q⟩ =>
  ⟨ρ, F, O, ε, R, S, ep_toS S q fun x O1 ρ1 F1 H1 v T1 R1 r1 q1 => q1 _ _ _ _ .refl R1 r1⟩
theorem pd_retN (h : PS X st tRetN) : PS X st (tS ⟨X.K, X.w, ad⟩ y W dRetN) := psImp h fun D σ H ⟨ρ, F, O, ε, R, S, q⟩ => q _ _ _ _ .refl R .non
theorem pd_next (h : PS X st tNext) : PS X st (tS ⟨X.K, X.w, ad⟩ y W dNext) := psImp h fun D σ H ⟨ρ, F, O, ε, R, S, q⟩ => q _ _ _ _ .refl R S
theorem pd_break (h : PS X st tBreak) : PS X st (tS ⟨X.K, X.w, ad⟩ y W dBreak) := psImp h fun D σ H ⟨ρ, F, O, ε, R, S, q⟩ => q _ _ _ _ .refl R S
theorem pd_cont (h : PS X st tCont) : PS X st (tS ⟨X.K, X.w, ad⟩ y W dCont) := psImp h fun D σ H ⟨ρ, F, O, ε, R, S, q⟩ => q _ _ _ _ .refl R S
theorem pd_ifS (h : PS X st (tIfS (tT ⟨X.K, X.w, ad⟩ y W t) (tS ⟨X.K, X.w, ad⟩ y W a) (tS ⟨X.K, X.w, ad⟩ y W b))) : PS X st (tS ⟨X.K, X.w, ad⟩ y W (dIfS t a b)) := psImp h fun D σ H ⟨ρ, F, O, ε, R, S, q⟩ =>
  ⟨ρ, F, O, ε, R, S, bp_toS S q fun x O1 ρ1 F1 H1 T1 R1 q1 => by
    split
    · rename_i h; rw [if_pos h] at q1; exact ⟨ρ1, F1, O1, ε, R1, S.tr T1 R1, q1⟩
    · rename_i h; rw [if_neg h] at q1; exact ⟨ρ1, F1, O1, ε, R1, S.tr T1 R1, q1⟩⟩
/-! targets -/
theorem pgI {e : Expr} {t t' : TG} (h : PG X e t) (i : ∀ v σ H Q, t' v σ H Q → t v σ H Q) : PG X e t' := ⟨fun pins s σ H v u Q I r q => h.run pins s σ H v u Q I r (i _ _ _ _ q)⟩
theorem pd_gnm {i : Nat} (h : PG X e (gName i)) : PG X e (tG ⟨X.K, X.w, ad⟩ y W (gNm i)) := pgI h fun v σ H Q ⟨ρ, F, O, ε, x, R, S, r, q⟩ => q _ _ _ _ .refl R (S.set i r)
theorem pd_asg {g : DG} (h : PS X st (tAsg (tE ⟨X.K, X.w, ad⟩ y W d) (tG ⟨X.K, X.w, ad⟩ y W g))) : PS X st (tS ⟨X.K, X.w, ad⟩ y W (dAsg d g)) := psImp h fun D σ H ⟨ρ, F, O, ε, R, S, q⟩ =>
  ⟨ρ, F, O, ε, R, S, ep_toS S q fun x O1 ρ1 F1 H1 v T1 R1 r1 q1 => ⟨ρ1, F1, O1, ε, x, R1, S.tr T1 R1, r1, gp_of q1⟩⟩
theorem pd_set {i : Nat} (h : PS X st (tAsg (tE ⟨X.K, X.w, ad⟩ y W d) (gName i))) : PS X st (tS ⟨X.K, X.w, ad⟩ y W (dAsg d (gNm i))) := psImp h fun D σ H ⟨ρ, F, O, ε, R, S, q⟩ =>
  ⟨ρ, F, O, ε, R, S, ep_toS S q fun x O1 ρ1 F1 H1 v T1 R1 r1 q1 => q1 _ _ _ _ .refl R1 ((S.tr T1 R1).set i r1)⟩
/-- several targets, one after another -/
def tGs (k : Ct) (y : Option Yx) (W : WX) (gs : List DG) : TGs := fun vs σ H Q => ∃ ρ F O ε xs, Rel k ρ F O H ∧ SloR k y ρ F σ ε ∧ Reps k ρ F vs xs ∧ GP k y ρ F O H Q W (gAll gs xs ε O)
theorem pgsI {es : List Expr} {t t' : TGs} (h : PGs X es t) (i : ∀ v σ H Q, t' v σ H Q → t v σ H Q) : PGs X es t' := ⟨fun pins s σ H v u Q I r q => h.run pins s σ H v u Q I r (i _ _ _ _ q)⟩
theorem pd_gs0 : PGs X [] (tGs ⟨X.K, X.w, ad⟩ y W []) := pgsI pgs_nil fun vs σ H Q ⟨ρ, F, O, ε, xs, R, S, r, q⟩ => by
  cases xs with
  | nil => cases r; exact ⟨rfl, q _ _ _ _ .refl R S⟩
  | cons _ _ => exact q.elim
theorem pd_gs1 {es : List Expr} {g : DG} {gs : List DG} (h : PGs X (e :: es) (gCons (tG ⟨X.K, X.w, ad⟩ y W g) (tGs ⟨X.K, X.w, ad⟩ y W gs))) : PGs X (e :: es) (tGs ⟨X.K, X.w, ad⟩ y W (g :: gs)) := pgsI h fun vs σ H Q ⟨ρ, F, O, ε, xs, R, S, r, q⟩ => by
  cases xs with
  | nil => exact q.elim
  | cons x xs =>
    cases r with
    | cons r1 r2 =>
      refine ⟨_, _, rfl, ρ, F, O, ε, x, R, S, r1, ?_⟩
      unfold gAll at q
      cases hg : g x ε O with
      | nx ε1 O1 => rw [hg] at q; exact fun ρ' F' H' σ' T R' S' => ⟨ρ', F', O1, ε1, xs, R', S', r2.tr T R', GP.tr T q⟩
      | exc x ε1 O1 => rw [hg] at q; exact q
      | stk => rw [hg] at q; exact q
theorem pd_gtp {n : Nat} {gs : List DG} (hn : gs.length = n) (h : PG X e (gTupU X.K n (tGs ⟨X.K, X.w, ad⟩ y W gs))) : PG X e (tG ⟨X.K, X.w, ad⟩ y W (gTp gs)) := pgI h fun v σ H Q ⟨ρ, F, O, ε, x, R, S, r, q⟩ => by
  unfold gTp at q
  split at q
  · rename_i xs ex
    obtain ⟨p, vs, rfl, h1, h2⟩ := see_tup R r ex
    unfold gTupU
    have h1 : tupv X.K H p = some vs := h1
    simp only [h1]
    split at q
    · exact ⟨by rw [h2.length, ← hn]; assumption, ρ, F, O, ε, xs, R, S, h2, q⟩
    · exact q.elim
  · exact q.elim
end

/-! ### stores -/
def putFD (f : Str) (v : D) : List (Str × D) → List (Str × D)
  | [] => [(f, v)]
  | (g, x) :: r => if g = f then (g, v) :: r else (g, x) :: putFD f v r
theorem putF_reps {k : Ct} {ρ F} {f : Str} {v : V} {d : D} (h : Rep k ρ F v d) : ∀ {vs : List (Str × V)} {ds : List (Str × D)}, KR k ρ F vs ds → KR k ρ F (putF f v vs) (putFD f d ds)
  | [], [], _ => KR.cons_iff.mpr ⟨rfl, h, KR.nil⟩
  | (a, a2) :: vs, (b, b2) :: ds, r => by
    obtain ⟨h1, h2, h3⟩ := KR.cons_iff.mp r
    simp only at h1 h2
    subst h1
    unfold putF putFD
    split
    · exact KR.cons_iff.mpr ⟨rfl, h, h3⟩
    · exact KR.cons_iff.mpr ⟨rfl, h2, putF_reps h h3⟩
  | [], b :: ds, r => by have := r.len; simp at this
  | a :: vs, [], r => by have := r.len; simp at this
/-- o.f = v -/
def setFld (c : String) (f : Str) (O : Sto) (x v : D) : Option Sto := match x with
  | .ref n => match O[n]? with
    | some (some (.ins c' fs)) => if c' = c ∧ fs.length < 1000 then some (O.set n (some (.ins c' (putFD f v fs)))) else none
    | _ => none
  | _ => none
def dSetF (c : String) (f : Str) (dob dv : DE) : DS := fun ε O => (dv ε O).toS ε fun v O1 => (dob ε O1).toS ε fun x O2 => match setFld c f O2 x v with
  | some O3 => .nx ε O3
  | none => .stk
theorem setFld_ok {k : Ct} {ρ F O H} {v : V} {x z : D} {c : String} {f : Str} {O' : Sto} {u : V} (R : Rel k ρ F O H) (r : Rep k ρ F v x) (rz : Rep k ρ F u z) (q : setFld c f O x z = some O') :
    ∃ a dx vs, v = .ref a ∧ H a = some (.ins (k.ad c) dx vs) ∧ vs.length < 1000 ∧ Rel k ρ F O' (upd H a (.ins (k.ad c) dx (putF f u vs))) ∧ Tr ρ F O H ρ F O' (upd H a (.ins (k.ad c) dx (putF f u vs))) := by
  unfold setFld at q
  split at q
  · rename_i n
    split at q
    · rename_i c' fs ho
      split at q
      · rename_i hc
        obtain ⟨rfl, hl⟩ := hc
        cases q
        obtain ⟨a, rfl, ha, dx, vs, h1, h2, h3⟩ := R.at r ho
        have kr := putF_reps (f := f) rz (vs := vs) (ds := fs) ⟨h2, h3⟩
        obtain ⟨R', T⟩ := R.put (u := .ins (k.ad c') dx (putF f u vs)) ho ha (o' := .ins c' (putFD f z fs)) ⟨dx, _, upd_same, kr.1, kr.2⟩
        have hlen : vs.length = fs.length := KR.len (k := k) (ρ := ρ) (F := F) ⟨h2, h3⟩
        exact ⟨a, dx, vs, rfl, h1, by omega, R', T⟩
      · cases q
    · cases q
  · cases q
section
variable {X : Cx} {y : Option Yx} {W : WX} {ad : String → Addr} {st : Stmt} {dob dv : DE} {e : Expr}
theorem pd_setF {c : String} {f : Str} {C : Addr} (hc : ad c = C) (h : PS X st (sFldC C f (tE ⟨X.K, X.w, ad⟩ y W dob) (tE ⟨X.K, X.w, ad⟩ y W dv))) : PS X st (tS ⟨X.K, X.w, ad⟩ y W (dSetF c f dob dv)) := psImp h fun D σ H ⟨ρ, F, O, ε, R, S, q⟩ =>
  ⟨ρ, F, O, ε, R, S, ep_toS S q fun v O1 ρ1 F1 H1 u T1 R1 r1 q1 => ⟨ρ1, F1, O1, ε, R1, S.tr T1 R1, ep_toS (S.tr T1 R1) q1 fun x O2 ρ2 F2 H2 w T2 R2 r2 q2 => by
    split at q2
    · rename_i O3 e3
      obtain ⟨a, dx, vs, rfl, h1, h2, R', T⟩ := setFld_ok R2 r2 (r1.tr T2 R2) e3
      have h1 : H2 a = some (.ins (ad c) dx vs) := h1
      rw [hc] at h1
      simp only [h1]
      have R' : Rel _ _ _ _ (upd H2 a (.ins (ad c) dx (putF f u vs))) := R'
      have T : Tr _ _ _ _ _ _ _ (upd H2 a (.ins (ad c) dx (putF f u vs))) := T
      rw [hc] at R' T
      exact ⟨trivial, h2, q2 _ _ _ _ T R' (((S.tr T1 R1).tr T2 R2).tr T R')⟩
    · exact q2.elim⟩⟩
/-- o[i] = v by values -/
def setItm (O : Sto) (x i v : D) : Option Sto := match x with
  | .ref n => match O[n]? with
    | some (some (.lst xs)) => match i with
      | .int j => match ixN xs.length j with
        | some m => some (O.set n (some (.lst (xs.set m v))))
        | none => none
      | _ => none
    | some (some (.dic kvs)) => match keyD i with
      | some z => if kvs.length < sizeLine then some (O.set n (some (.dic (putD kvs z v)))) else none
      | none => none
    | some (some (.dtt kvs)) => match i with
      | .tup xs => match keysD xs with
        | some z => if kvs.length < sizeLine then some (O.set n (some (.dtt (putD kvs z v)))) else none
        | none => none
      | _ => none
    | _ => none
  | _ => none
def gSb (dob di : DE) : DG := fun v ε O => (dob ε O).toG ε fun x O1 => (di ε O1).toG ε fun i O2 => match setItm O2 x i v with
  | some O3 => .nx ε O3
  | none => .stk
def rSetA : TSet := fun o i v H Q => rSetU o i v H Q ∨ ∃ a H', o = .ref a ∧ DPut H a i v H' ∧ Q H'
theorem set_A (hu : X.A.units + 1 < cLine) : PSet X rSetA := by
  intro pins s σ H o i v ov iv u Q I ro ri rv h
  rcases h with h | ⟨a, H', rfl, g, q⟩
  · exact set_U hu pins s σ H o i v ov iv u Q I ro ri rv h
  · obtain rfl : ov = Value.ref a := ro
    exact d_setItem hu I g ri rv fun s4 I4 => ⟨H', I4, q⟩
theorem setItm_ok {k : Ct} {ρ F O H} {vo vi vv : V} {x i z : D} {O' : Sto} {Q : Hp → Prop} (R : Rel k ρ F O H) (r : Rep k ρ F vo x) (ri : Rep k ρ F vi i) (rz : Rep k ρ F vv z) (q : setItm O x i z = some O')
    (g : ∀ H', Rel k ρ F O' H' → Tr ρ F O H ρ F O' H' → Q H') : rSetA vo vi vv H Q := by
  unfold setItm at q
  split at q
  · rename_i n
    split at q
    · rename_i xs ho
      split at q
      · rename_i j
        split at q
        · rename_i m hm
          cases q
          cases ri
          obtain ⟨a, rfl, ha, vs, h1, h2⟩ := R.at r ho
          left
          rw [rSetU_lst h1, h2.length, hm]
          obtain ⟨R', T⟩ := R.put (u := .lst (vs.set m vv)) ho ha (o' := .lst (xs.set m z)) ⟨_, upd_same, Reps.set rz m h2⟩
          exact g _ R' T
        · cases q
      · cases q
    · rename_i kvs ho
      split at q
      · rename_i key hk
        split at q
        · cases q
          obtain rfl := keyD_ok ri hk
          obtain ⟨a, rfl, ha, vs, h1, h2, h3⟩ := R.at r ho
          have kr := KR.put (x := key) (vs := vs) (ds := kvs) ⟨h2, h3⟩ rz
          obtain ⟨R', T⟩ := R.put (u := .dK (putK vs key vv)) ho ha (o' := .dic (putD kvs key z)) ⟨_, upd_same, kr.1, kr.2⟩
          have hlen : vs.length = kvs.length := KR.len (k := k) (ρ := ρ) (F := F) ⟨h2, h3⟩
          exact .inr ⟨a, _, rfl, DPut.k h1 (by omega), g _ R' T⟩
        · cases q
      · cases q
    · rename_i kvs ho
      split at q
      · split at q
        · rename_i key hk
          split at q
          · cases q
            obtain ⟨pb, rfl, hb⟩ := key_tup R ri hk
            obtain ⟨a, rfl, ha, vs, h1, h2, h3⟩ := R.at r ho
            have kr := KR.put (x := key) (vs := vs) (ds := kvs) ⟨h2, h3⟩ rz
            obtain ⟨R', T⟩ := R.put (u := .dT (putK vs key vv)) ho ha (o' := .dtt (putD kvs key z)) ⟨_, upd_same, kr.1, kr.2⟩
            have hlen : vs.length = kvs.length := KR.len (k := k) (ρ := ρ) (F := F) ⟨h2, h3⟩
            exact .inr ⟨a, _, rfl, DPut.t h1 hb (by omega), g _ R' T⟩
          · cases q
        · cases q
      · cases q
    · cases q
  · cases q
theorem pd_gsb {di : DE} (h : PG X e (gSub (tE ⟨X.K, X.w, ad⟩ y W dob) (tE ⟨X.K, X.w, ad⟩ y W di) rSetA)) : PG X e (tG ⟨X.K, X.w, ad⟩ y W (gSb dob di)) := pgI h fun v σ H Q ⟨ρ, F, O, ε, z, R, S, rz, q⟩ =>
  ⟨ρ, F, O, ε, R, S, ep_toG S q fun x O1 ρ1 F1 H1 u T1 R1 r1 q1 => ⟨ρ1, F1, O1, ε, R1, S.tr T1 R1, ep_toG (S.tr T1 R1) q1 fun i O2 ρ2 F2 H2 w T2 R2 r2 q2 => by
    split at q2
    · rename_i O3 e3
      exact setItm_ok R2 (r1.tr T2 R2) r2 ((rz.tr T1 R1).tr T2 R2) e3 fun H' R' T => q2 _ _ _ _ T R' (((S.tr T1 R1).tr T2 R2).tr T R')
    · exact q2.elim⟩⟩
end
/-! ### x op= e -/
def dAug (i : Nat) (op : Sto → D → D → ER) (de : DE) : DS := fun ε O => match ε[i]? with
  | some (.v x) => (de ε O).toS ε fun z O1 => (op O1 x z).toS ε fun r O2 => .nx (ε.set i (.v r)) O2
  | _ => .stk
/-- o.f op= e -/
def dAugF (c : String) (f : Str) (op : Sto → D → D → ER) (dob de : DE) : DS := fun ε O => (dob ε O).toS ε fun x O1 => (fldD c f O1 x).toS ε fun v O2 => (de ε O2).toS ε fun z O3 => (op O3 v z).toS ε fun r O4 => match setFld c f O4 x r with
  | some O5 => .nx ε O5
  | none => .stk
section
variable {X : Cx} {y : Option Yx} {W : WX} {ad : String → Addr} {st : Stmt} {dob de : DE} {op : Sto → D → D → ER} {r : R2}
theorem ip_ap {o : Operator} {r : R2} (h : OpR X (inplaceOp o) r) : PIp X o (apR X.K r) := fun pins s σ H x y v u Q I rx ry q => op_ap h pins s σ H x y v u Q I rx ry q
theorem pd_aug {i : Nat} (hr : ROp X.K X.w r op) (h : PS X st (tAug i (tE ⟨X.K, X.w, ad⟩ y W de) (apR X.K r))) : PS X st (tS ⟨X.K, X.w, ad⟩ y W (dAug i op de)) := psImp h fun D σ H ⟨ρ, F, O, ε, R, S, q⟩ => by
  unfold dAug at q
  split at q
  · rename_i d e
    obtain ⟨v, h1, h2⟩ := (S.2 i).1 d e
    refine ⟨v, h1, ρ, F, O, ε, R, S, ep_toS S q fun x O1 ρ1 F1 H1 u T1 R1 r1 q1 => ?_⟩
    refine hr ad ρ1 F1 O1 H1 v u d x _ _ R1 (h2.tr T1 R1) r1 (ep_toS (S.tr T1 R1) q1 fun z O2 ρ2 F2 H2 w T2 R2 r2 q2 => ?_)
    exact q2 _ _ _ _ .refl R2 (((S.tr T1 R1).tr T2 R2).set i r2)
  · exact q.elim
theorem pd_augF {c : String} {f : Str} {C : Addr} (hc : ad c = C) (hr : ROp X.K X.w r op) (h : PS X st (sFldAC C f (tE ⟨X.K, X.w, ad⟩ y W dob) (tE ⟨X.K, X.w, ad⟩ y W de) (apR X.K r))) : PS X st (tS ⟨X.K, X.w, ad⟩ y W (dAugF c f op dob de)) := psImp h fun D σ H ⟨ρ, F, O, ε, R, S, q⟩ =>
  ⟨ρ, F, O, ε, R, S, ep_toS S q fun x O1 ρ1 F1 H1 v T1 R1 r1 q1 => by
    unfold fldD at q1
    split at q1
    · rename_i c' fs e
      split at q1
      · rename_i hcc
        subst hcc
        split at q1
        · rename_i d hd
          obtain ⟨a, dx, vs, rfl, h1, h2, h3⟩ := see_ins R1 r1 e
          have h1 : H1 a = some (.ins (ad c') dx vs) := h1
          rw [hc] at h1
          simp only [h1]
          refine ⟨trivial, ?_⟩
          rcases KR.lookup ⟨h2, h3⟩ f with ⟨e1, e2⟩ | ⟨fv, d', e1, e2, r'⟩
          · rw [hd] at e2; cases e2
          · rw [hd] at e2; cases e2
            rw [e1]
            refine ⟨ρ1, F1, O1, ε, R1, S.tr T1 R1, ep_toS (S.tr T1 R1) q1 fun z O2 ρ2 F2 H2 u T2 R2 r2 q2 => ?_⟩
            refine hr ad ρ2 F2 O2 H2 fv u d z _ _ R2 (r'.tr T2 R2) r2 (ep_toS ((S.tr T1 R1).tr T2 R2) q2 fun rz O3 ρ3 F3 H3 w T3 R3 r3 q3 => ?_)
            split at q3
            · rename_i O5 e5
              obtain ⟨a2, dx2, vs2, ea, g1, g2, R', T⟩ := setFld_ok R3 ((r1.tr T2 R2).tr T3 R3) r3 e5
              cases ea
              have g1 : H3 a = some (.ins (ad c') dx2 vs2) := g1
              have R' : Rel _ _ _ _ (upd H3 a (.ins (ad c') dx2 (putF f w vs2))) := R'
              have T : Tr _ _ _ _ _ _ _ (upd H3 a (.ins (ad c') dx2 (putF f w vs2))) := T
              rw [hc] at g1 R' T
              simp only [g1]
              exact ⟨trivial, g2, q3 _ _ _ _ T R' ((((S.tr T1 R1).tr T2 R2).tr T3 R3).tr T R')⟩
            · exact q3.elim
        · exact q1.elim
      · exact q1.elim
    · exact q1.elim⟩
end
end Mi

namespace Mi
open PySem PySem.Spec PyProof.Rows L2 R
/-! ### while -/
def wh : Nat → DT → DS → Env → Sto → Option SR
  | 0, _, _, _, _ => none
  | n + 1, c, b, ε, O => match c ε O with
    | .val true O1 => match b ε O1 with
      | .nx ε2 O2 => wh n c b ε2 O2
      | .ct ε2 O2 => wh n c b ε2 O2
      | .bk ε2 O2 => some (.nx ε2 O2)
      | r => some r
    | .val false O1 => some (.nx ε O1)
    | .exc x O1 => some (.exc x ε O1)
    | .stk => some .stk
theorem wh_mono {c : DT} {b : DS} : ∀ {n m : Nat} {ε : Env} {O : Sto} {r : SR}, wh n c b ε O = some r → n ≤ m → wh m c b ε O = some r
  | 0, _, _, _, _, h, _ => by simp [wh] at h
  | n + 1, 0, _, _, _, _, h => by omega
  | n + 1, m + 1, ε, O, r, h, hm => by
    unfold wh at h ⊢
    split at h
    · split at h
      · exact wh_mono h (by omega)
      · exact wh_mono h (by omega)
      · exact h
      · exact h
    · exact h
    · exact h
    · exact h
open Classical in
noncomputable def dWhile (c : DT) (b : DS) : DS := fun ε O => if h : ∃ r n, wh n c b ε O = some r then Classical.choose h else .stk
theorem while_of {c : DT} {b : DS} {n : Nat} {ε : Env} {O : Sto} {r : SR} (h : wh n c b ε O = some r) : dWhile c b ε O = r := by
  unfold dWhile
  have hh : ∃ r n, wh n c b ε O = some r := ⟨r, n, h⟩
  rw [dif_pos hh]
  obtain ⟨m, hm⟩ := Classical.choose_spec hh
  have h1 := wh_mono h (Nat.le_max_left n m)
  have h2 := wh_mono hm (Nat.le_max_right n m)
  rw [h1] at h2
  exact (Option.some.inj h2).symm
/-- one turn -/
theorem while_eq {c : DT} {b : DS} {ε : Env} {O : Sto} : dWhile c b ε O = match c ε O with
    | .val true O1 => (match b ε O1 with
      | .nx ε2 O2 => dWhile c b ε2 O2
      | .ct ε2 O2 => dWhile c b ε2 O2
      | .bk ε2 O2 => .nx ε2 O2
      | r => r)
    | .val false O1 => .nx ε O1
    | .exc x O1 => .exc x ε O1
    | .stk => .stk := by
  have key : ∀ ε2 O2, (∀ n, wh (n + 1) c b ε O = wh n c b ε2 O2) → dWhile c b ε O = dWhile c b ε2 O2 := fun ε2 O2 e => by
    by_cases h : ∃ r n, wh n c b ε2 O2 = some r
    · obtain ⟨r, n, hn⟩ := h
      rw [while_of hn, while_of (n := n + 1) (by rw [e]; exact hn)]
    · have h2 : ¬ ∃ r n, wh n c b ε O = some r := by
        rintro ⟨r, n, hn⟩
        cases n with
        | zero => simp [wh] at hn
        | succ n => exact h ⟨r, n, by rw [← e]; exact hn⟩
      unfold dWhile
      rw [dif_neg h, dif_neg h2]
  split
  · rename_i O1 e
    split
    · rename_i e2; exact key _ _ fun n => by conv => lhs; unfold wh; rw [e]; simp only [e2]
    · rename_i e2; exact key _ _ fun n => by conv => lhs; unfold wh; rw [e]; simp only [e2]
    · rename_i e2; exact while_of (n := 1) (by unfold wh; rw [e]; simp only [e2])
    · rename_i h1 h2 h3
      refine while_of (n := 1) ?_
      unfold wh; rw [e]
      cases hb : b ε O1 with
      | nx a1 a2 => exact absurd hb (h1 a1 a2)
      | ct a1 a2 => exact absurd hb (h2 a1 a2)
      | bk a1 a2 => exact absurd hb (h3 a1 a2)
      | _ => simp only [hb]
  · rename_i e; exact while_of (n := 1) (by unfold wh; rw [e])
  · rename_i e; exact while_of (n := 1) (by unfold wh; rw [e])
  · rename_i e; exact while_of (n := 1) (by unfold wh; rw [e])
/-- a loop by a measure: what is held at each head -/
theorem while_by {c : DT} {b : DS} {R : SR → Prop} (I : Nat → Env → Sto → Prop) {m : Nat} {ε : Env} {O : Sto} (h0 : I m ε O)
    (step : ∀ m ε O, I m ε O → match c ε O with
      | .val true O1 => (match b ε O1 with
        | .nx ε2 O2 => ∃ m', m' < m ∧ I m' ε2 O2
        | .ct ε2 O2 => ∃ m', m' < m ∧ I m' ε2 O2
        | .bk ε2 O2 => R (.nx ε2 O2)
        | r => R r)
      | .val false O1 => R (.nx ε O1)
      | .exc x O1 => R (.exc x ε O1)
      | .stk => R .stk) : R (dWhile c b ε O) := by
  induction m using Nat.strongRecOn generalizing ε O with
  | _ m ih =>
    have s := step m ε O h0
    rw [while_eq]
    split at s
    · rename_i O1 e
      split at s
      · rename_i e2; obtain ⟨m', hm, hi⟩ := s; exact ih m' hm hi
      · rename_i e2; obtain ⟨m', hm, hi⟩ := s; exact ih m' hm hi
      · exact s
      · rename_i h1 h2 h3
        cases hb : b ε O1 with
        | nx a1 a2 => exact absurd hb (h1 a1 a2)
        | ct a1 a2 => exact absurd hb (h2 a1 a2)
        | bk a1 a2 => exact absurd hb (h3 a1 a2)
        | _ => rw [hb] at s; exact s
    · exact s
    · exact s
    · exact s
section
variable {X : Cx} {y : Option Yx} {W : WX} {ad : String → Addr} {st : Stmt} {c : DT} {b : DS}
theorem pd_while (h : PS X st (tWhile (tT ⟨X.K, X.w, ad⟩ y W c) (tS ⟨X.K, X.w, ad⟩ y W b))) : PS X st (tS ⟨X.K, X.w, ad⟩ y W (dWhile c b)) := psImp h fun D σ H ⟨ρ, F, O, ε, R, S, q⟩ => by
  by_cases hh : ∃ r n, wh n c b ε O = some r
  · obtain ⟨r, n, hn⟩ := hh
    rw [while_of hn] at q
    refine ⟨fun m σ H => ∃ ρ F O ε r, Rel ⟨X.K, X.w, ad⟩ ρ F O H ∧ SloR ⟨X.K, X.w, ad⟩ y ρ F σ ε ∧ wh m c b ε O = some r ∧ SP ⟨X.K, X.w, ad⟩ y ρ F O H D W r, ⟨n, ρ, F, O, ε, r, R, S, hn, q⟩, ?_⟩
    rintro m σ H ⟨ρ, F, O, ε, r, R, S, hn, q⟩
    cases m with
    | zero => simp [wh] at hn
    | succ m =>
      refine ⟨ρ, F, O, ε, R, S, ?_⟩
      unfold wh at hn
      cases hc : c ε O with
      | stk => rw [hc] at hn; cases hn; exact q
      | exc x O1 => rw [hc] at hn; cases hn; exact fun ρ' F' H' cls od T R' r => q ρ' F' H' cls od σ T R' (S.tr T R') r
      | val bb O1 =>
        intro ρ1 F1 H1 T1 R1
        rw [hc] at hn
        cases bb with
        | false =>
          cases hn
          exact q _ _ _ _ T1 R1 (S.tr T1 R1)
        | true =>
          refine ⟨fun σ' H' => ∃ ρ' F' O' ε' r', Rel ⟨X.K, X.w, ad⟩ ρ' F' O' H' ∧ SloR ⟨X.K, X.w, ad⟩ y ρ' F' σ' ε' ∧ wh m c b ε' O' = some r' ∧ SP ⟨X.K, X.w, ad⟩ y ρ' F' O' H' D W r', fun σ' H' h => ⟨m, Nat.lt_succ_self m, h⟩, ρ1, F1, O1, ε, R1, S.tr T1 R1, ?_⟩
          simp only at hn
          cases hb : b ε O1 with
          | nx ε2 O2 => rw [hb] at hn; exact fun ρ' F' H' σ' T R' S' => ⟨ρ', F', O2, ε2, r, R', S', hn, SP.tr (T1.trans T) q⟩
          | ct ε2 O2 => rw [hb] at hn; exact fun ρ' F' H' σ' T R' S' => ⟨ρ', F', O2, ε2, r, R', S', hn, SP.tr (T1.trans T) q⟩
          | bk ε2 O2 => rw [hb] at hn; cases hn; exact fun ρ' F' H' σ' T R' S' => q _ _ _ _ (T1.trans T) R' S'
          | rt x O2 => rw [hb] at hn; cases hn; exact fun ρ' F' H' v T R' r => q _ _ _ _ (T1.trans T) R' r
          | exc x ε2 O2 => rw [hb] at hn; cases hn; exact fun ρ' F' H' cls od σ' T R' S' r => q _ _ _ _ _ _ (T1.trans T) R' S' r
          | stk => rw [hb] at hn; cases hn; exact q
  · unfold dWhile at q
    rw [dif_neg hh] at q
    exact q.elim
end

/-! ### for -/
/-- an open list that is walked must stay -/
abbrev Gd := Option (Nat × List D)
def gdOk (gd : Gd) (O : Sto) : Prop := match gd with
  | none => True
  | some (n, xs) => O[n]? = some (some (.lst xs))
inductive IR where
  | val (ds : List D) (gd : Gd) (O : Sto) | exc (x : Ex) (O : Sto) | stk
abbrev DI := Env → Sto → IR
open Classical in
noncomputable def forGo (gd : Gd) (g : DG) (b : DS) : List D → Env → Sto → SR
  | [], ε, O => if gdOk gd O then .nx ε O else .stk
  | x :: xs, ε, O => if gdOk gd O then (match g x ε O with
    | .nx ε1 O1 => (match b ε1 O1 with
      | .nx ε2 O2 => forGo gd g b xs ε2 O2
      | .ct ε2 O2 => forGo gd g b xs ε2 O2
      | .bk ε2 O2 => .nx ε2 O2
      | r => r)
    | .exc x ε O => .exc x ε O
    | .stk => .stk) else .stk
noncomputable def dFor (it : DI) (g : DG) (b : DS) : DS := fun ε O => match it ε O with
  | .val ds gd O1 => forGo gd g b ds ε O1
  | .exc x O1 => .exc x ε O1
  | .stk => .stk
/-- J gives the items ds while P stands -/
structure Wk (k : Ct) (J : It) (ds : List D) (gd : Gd) (P : List Addr → Hp → Sto → Prop) : Prop where
  mono : ∀ {ρ F O H ρ' F' O' H'}, Rel k ρ F O H → Tr ρ F O H ρ' F' O' H' → Rel k ρ' F' O' H' → P ρ F O → gdOk gd O' → P ρ' F' O'
  stop : ∀ {ρ F O H i}, Rel0 k ρ F O H → P ρ F O → ds.length ≤ i → J.stop i H
  go : ∀ {ρ F O H i}, Rel0 k ρ F O H → P ρ F O → i < ds.length → J.go i H
  yld : ∀ {ρ F O H i x H'}, Rel0 k ρ F O H → P ρ F O → J.yld i H x H' → ∀ d, ds[i]? = some d → H' = H ∧ Rep k ρ F x d
def IP (k : Ct) (ρ : List Addr) (F : Hp) (O : Sto) (H : Hp) (Q : It → Hp → Prop) (W : XK) : IR → Prop
  | .val ds gd O' => ∀ ρ' F' H' J P, Tr ρ F O H ρ' F' O' H' → Rel k ρ' F' O' H' → Wk k J ds gd P → P ρ' F' O' → Q J H'
  | .exc x O' => XP k ρ F O H W x O'
  | .stk => False
def tI (k : Ct) (y : Option Yx) (W : WX) (d : DI) : TI := fun σ H Q => ∃ ρ F O ε, Rel k ρ F O H ∧ SloR k y ρ F σ ε ∧ IP k ρ F O H Q (fun c o H' => W c o σ H') (d ε O)
section
variable {X : Cx} {y : Option Yx} {W : WX} {ad : String → Addr} {st : Stmt} {c : DT} {b : DS} {g : DG} {it : DI}
theorem goes_wk {J : It} {ds : List D} {gd : Gd} {P : List Addr → Hp → Sto → Prop} {ρ F O H σ ε} {E : Ends} (w : Wk ⟨X.K, X.w, ad⟩ J ds gd P) (R : Rel ⟨X.K, X.w, ad⟩ ρ F O H) (S : SloR ⟨X.K, X.w, ad⟩ y ρ F σ ε) (p : P ρ F O)
    (q : SP ⟨X.K, X.w, ad⟩ y ρ F O H E W (forGo gd g b ds ε O)) : Goes J (tG ⟨X.K, X.w, ad⟩ y W g) (tS ⟨X.K, X.w, ad⟩ y W b) E σ H := by
  -- what is held ahead of turn i
  let I : Nat → L2.St → Hp → Prop := fun i σ H => ∃ ρ F O ε, Rel ⟨X.K, X.w, ad⟩ ρ F O H ∧ SloR ⟨X.K, X.w, ad⟩ y ρ F σ ε ∧ (gdOk gd O → P ρ F O) ∧ SP ⟨X.K, X.w, ad⟩ y ρ F O H E W (forGo gd g b (ds.drop i) ε O)
  refine ⟨fun i m σ H => m = ds.length - i ∧ i ≤ ds.length ∧ I i σ H, ⟨_, rfl, Nat.zero_le _, ρ, F, O, ε, R, S, fun _ => p, by simpa using q⟩, ?_⟩
  rintro i m σ H ⟨rfl, hi, ρ, F, O, ε, R, S, pp, q⟩
  by_cases hl : i < ds.length
  · right
    have hd : ds.drop i = ds[i] :: ds.drop (i + 1) := List.drop_eq_getElem_cons hl
    rw [hd] at q
    unfold forGo at q
    split at q
    · rename_i hg
      have p := pp hg
      refine ⟨w.go R.toRel0 p hl, fun σ' H' => i + 1 ≤ ds.length ∧ I (i + 1) σ' H', fun σ' H' h => ⟨ds.length - (i + 1), by omega, rfl, h.1, h.2⟩, fun x H' hy => ?_⟩
      obtain ⟨rfl, r⟩ := w.yld R.toRel0 p hy ds[i] (List.getElem?_eq_getElem hl)
      refine ⟨ρ, F, O, ε, ds[i], R, S, r, ?_⟩
      cases hgx : g ds[i] ε O with
      | stk => rw [hgx] at q; exact q
      | exc x ε1 O1 => rw [hgx] at q; exact q
      | nx ε1 O1 =>
        intro ρ1 F1 H1 σ1 T1 R1 S1
        rw [hgx] at q
        simp only at q
        refine ⟨ρ1, F1, O1, ε1, R1, S1, ?_⟩
        have go : ∀ ε2 O2, SP ⟨X.K, X.w, ad⟩ y ρ F O H' E W (forGo gd g b (ds.drop (i + 1)) ε2 O2) → NP ⟨X.K, X.w, ad⟩ y ρ1 F1 O1 H1 (fun σ' H' => i + 1 ≤ ds.length ∧ I (i + 1) σ' H') ε2 O2 := fun ε2 O2 q2 ρ2 F2 H2 σ2 T2 R2 S2 =>
          ⟨hl, ρ2, F2, O2, ε2, R2, S2, fun hg2 => w.mono R (T1.trans T2) R2 p hg2, SP.tr (T1.trans T2) q2⟩
        cases hb : b ε1 O1 with
        | nx ε2 O2 => rw [hb] at q; exact go ε2 O2 q
        | ct ε2 O2 => rw [hb] at q; exact go ε2 O2 q
        | bk ε2 O2 => rw [hb] at q; exact fun ρ' F' H' σ' T R' S' => q _ _ _ _ (T1.trans T) R' S'
        | rt x O2 => rw [hb] at q; exact fun ρ' F' H' v T R' r => q _ _ _ _ (T1.trans T) R' r
        | exc x ε2 O2 => rw [hb] at q; exact fun ρ' F' H' cls od σ' T R' S' r => q _ _ _ _ _ _ (T1.trans T) R' S' r
        | stk => rw [hb] at q; exact q
    · exact q.elim
  · left
    rw [List.drop_eq_nil_of_le (by omega)] at q
    unfold forGo at q
    split at q
    · rename_i hg
      exact ⟨w.stop R.toRel0 (pp hg) (by omega), q _ _ _ _ .refl R S⟩
    · exact q.elim
theorem pd_for (h : PS X st (tForU (tI ⟨X.K, X.w, ad⟩ y W it) (tG ⟨X.K, X.w, ad⟩ y W g) (tS ⟨X.K, X.w, ad⟩ y W b))) : PS X st (tS ⟨X.K, X.w, ad⟩ y W (dFor it g b)) := psImp h fun D σ H ⟨ρ, F, O, ε, R, S, q⟩ => by
  refine ⟨ρ, F, O, ε, R, S, ?_⟩
  unfold dFor at q
  cases hi : it ε O with
  | stk => rw [hi] at q; exact q
  | exc x O1 => rw [hi] at q; exact fun ρ' F' H' cls od T R' r => q ρ' F' H' cls od σ T R' (S.tr T R') r
  | val ds gd O1 =>
    rw [hi] at q
    exact fun ρ' F' H' J P T R' w p => goes_wk w R' (S.tr T R') p (SP.tr T q)
end
/-! ### what is walked -/
def itD (O : Sto) (x : D) : Option (List D × Gd) := match x with
  | .lst xs => some (xs, none)
  | .kls xs => some (xs, none)
  | .tup xs => some (xs, none)
  | .ktp xs => some (xs, none)
  | .str z => some (z.cps.toList.map fun c => .str ⟨#[c]⟩, none)
  | .dic kvs => some (kvs.map fun kv => keyB kv.1, none)
  | .ref n => match O[n]? with
    | some (some (.lst xs)) => some (xs, some (n, xs))
    | _ => none
  | _ => none
def dIt (da : DE) : DI := fun ε O => match da ε O with
  | .val x O1 => match itD O1 x with
    | some (xs, gd) => .val xs gd O1
    | none => .stk
  | .exc x O1 => .exc x O1
  | .stk => .stk
/-- anything that is walked, by its value -/
noncomputable def iAny (K : PySem.W.Frag) (tl : TE) : TI := fun σ H R => tl σ H fun x H1 => match x with
  | .str z => R (Its z) H1
  | .ref a => (match lstv K H1 a with
    | some _ => R (Itl K a) H1
    | none => (match tupv K H1 a with
      | some _ => R (Itt K a) H1
      | none => (∃ o kvs, H1 a = some (.frz o (.dK kvs)) ∧ R (Itk a o kvs) H1) ∨ ∃ o kvs, H1 a = some (.frz o (.dT kvs)) ∧ R (Itkt a o kvs) H1))
  | _ => False
section
variable {X : Cx} {tg l : Expr} {tl : TE}
theorem pi_any (hl : PE X l tl) : PI X tg l (iAny X.K tl) := by
  refine ⟨fun pins s σ H R I h => ?_⟩
  refine thn (hl.run pins s σ H _ I h) fun v s1 ⟨x, H1, I1, r1, q1⟩ => ?_
  dsimp only at q1
  split at q1
  · rename_i z
    obtain ⟨t, rfl⟩ := r1
    cases ha : z.cps.all (· < 128)
    · exact wpAny_pyIter_wide ha (pi_one (tk := s1.toks) I1 _ (turn_str _ z t "str_iterator" (.inr rfl)) ⟨_, Heap.get?_push_size _ rfl, rfl, rfl⟩ q1)
    · exact wpAny_pyIter_ascii ha (pi_one (tk := s1.toks) I1 _ (turn_str _ z t "str_ascii_iterator" (.inl rfl)) ⟨_, Heap.get?_push_size _ rfl, rfl, rfl⟩ q1)
  · rename_i a
    cases r1
    split at q1
    · rename_i xs hx
      obtain ⟨its, rv, p, hz⟩ := I1.list (lstv_sq hx)
      refine wpAny_pyIter_list p.isList ?_
      refine ⟨s1.heap.objs.size, [s1.heap.objs.size], _, _, H1, rfl, I1.kept (t' := s1.toks) fun b o e => Heap.get?_push_of_some _ e, turn_list a _, ⟨_, Heap.get?_push_size _ rfl, rfl, rfl⟩, fun b hb => ?_, q1⟩
      have e : b = s1.heap.objs.size := by simpa using hb
      subst e
      exact I1.fpOk (Nat.le_refl _) (I1.hok.fresh (Nat.le_refl _))
    · split at q1
      · rename_i xs hx
        obtain ⟨its, rv, p, hz⟩ := I1.tuple (tupv_sq hx)
        refine wpAny_pyIter_tuple (show s1.heap.IsTuple a its.toArray from p) ?_
        refine ⟨s1.heap.objs.size, [s1.heap.objs.size], _, _, H1, rfl, I1.kept (t' := s1.toks) fun b o e => Heap.get?_push_of_some _ e, turn_tuple a _, ⟨_, Heap.get?_push_size _ rfl, rfl, rfl⟩, fun b hb => ?_, q1⟩
        have e : b = s1.heap.objs.size := by simpa using hb
        subst e
        exact I1.fpOk (Nat.le_refl _) (I1.hok.fresh (Nat.le_refl _))
      · rcases q1 with ⟨o, kvs, hd, q⟩ | ⟨o, kvs, hd, q⟩
        · obtain ⟨hs, hgd, hx, es, ep, vs, hdt, hsz, kv, hm⟩ := I1.frzK hd
          refine iter_keys hs hgd hx hdt (pi_one (tk := s1.toks) I1 _ (turn_keys _ hdt) ⟨_, Heap.get?_push_size _ rfl, rfl, ?_⟩ q)
          rw [hsz] <;> rfl
        · obtain ⟨hs, hgd, hx, es, ep, hdt, hsz, ent⟩ := I1.frzT hd
          refine iter_keys hs hgd hx hdt (pi_one (tk := s1.toks) I1 _ (turn_keysT _ hdt) ⟨_, Heap.get?_push_size _ rfl, rfl, ?_⟩ q)
          rw [hsz] <;> rfl
  · exact q1.elim
end
end Mi

namespace Mi
open PySem PySem.Spec PyProof.Rows L2 R
section
variable {k : Ct}
theorem Sqinj {K : PySem.W.Frag} {H : Hp} {a : Addr} {xs ys : List V} (h : H a = some (.lst xs)) (ap : Apart K H) (h2 : SqL K H a ys) : ys = xs := by
  rcases h2 with (z | ⟨_, z⟩) | ⟨o, _, _, z, _⟩
  · rw [h] at z; cases z; rfl
  · rw [h] at z; cases z
  · have := ap a o z; rw [h] at this; cases this
theorem SqinjT {K : PySem.W.Frag} {H : Hp} {a : Addr} {xs ys : List V} (h : H a = some (.tup xs)) (ap : Apart K H) (h2 : SqT K H a ys) : ys = xs := by
  rcases h2 with (z | ⟨_, z⟩) | ⟨o, _, _, z, _⟩
  · rw [h] at z; cases z; rfl
  · rw [h] at z; cases z
  · have := ap a o z; rw [h] at this; cases this
theorem SqinjK {K : PySem.W.Frag} {H : Hp} {a : Addr} {xs ys : List V} (h : klst K a = some xs) (ap : Apart K H) (h2 : SqL K H a ys) : ys = xs := by
  obtain ⟨o, q⟩ := klst_in h
  have hn := ap a o q
  have h3 : SqL K (fun _ => none) a ys := by
    rcases h2 with (z | ⟨_, z⟩) | z
    · rw [hn] at z; cases z
    · rw [hn] at z; cases z
    · exact .inr z
  have := klst_uniq h3
  rw [h] at this
  exact (Option.some.inj this).symm
theorem SqinjKT {K : PySem.W.Frag} {H : Hp} {a : Addr} {xs ys : List V} (h : KTup K a xs) (ap : Apart K H) (h2 : SqT K H a ys) : ys = xs := by
  obtain ⟨o, its, n, h1, h3, h4, h5, h6⟩ := h
  have hn := ap a o h1
  rcases h2 with (z | ⟨_, z⟩) | ⟨o', its', n', z1, _, z4, _, z6⟩
  · rw [hn] at z; cases z
  · rw [hn] at z; cases z
  · rw [h1] at z1; cases z1
    rw [h4] at z4; cases z4
    exact Vals.inj z6 h6
theorem kls_any {k : Ct} {ρ F O H} {a : Addr} {vs : List V} (R : Rel0 k ρ F O H) (h : lstv k.K F a = some vs) : SqL k.K H a vs := by
  rcases lstv_sq h with (z | ⟨o, z⟩) | z
  · exact .inl (.inl (R.fr _ _ z))
  · exact .inl (.inr ⟨o, R.fr _ _ z⟩)
  · exact .inr z
/-- a list that stands for ever -/
theorem wk_lst {a : Addr} {vs : List V} {ds : List D} : Wk k (Itl k.K a) ds none (fun ρ F _ => F a = some (.lst vs) ∧ Reps k ρ F vs ds) where
  mono := fun R T R' p _ => ⟨T.ff _ _ p.1, p.2.tr T R'⟩
  stop := fun {ρ F O H i} R p h => ⟨vs, .inl (.inl (R.fr _ _ p.1)), by rw [p.2.length]; exact h⟩
  go := fun {ρ F O H i} R p h => by
    have hv : i < vs.length := by rw [p.2.length]; exact h
    exact ⟨vs, vs[i], .inl (.inl (R.fr _ _ p.1)), List.getElem?_eq_getElem hv⟩
  yld := fun {ρ F O H i x H'} R p hy d hd => by
    obtain ⟨e, hx⟩ := hy
    obtain ⟨v, h1, h2⟩ := p.2.get hd
    have := hx vs (.inl (.inl (R.fr _ _ p.1)))
    rw [h1] at this; cases this
    exact ⟨e, h2⟩
theorem wk_kls {a : Addr} {vs : List V} {ds : List D} : Wk k (Itl k.K a) ds none (fun ρ F _ => lstv k.K F a = some vs ∧ Reps k ρ F vs ds) where
  mono := fun R T R' p _ => ⟨lstv_mono T.ff R'.apF p.1, p.2.tr T R'⟩
  stop := fun {ρ F O H i} R p h => ⟨vs, kls_any R p.1, by rw [p.2.length]; exact h⟩
  go := fun {ρ F O H i} R p h => by
    have hv : i < vs.length := by rw [p.2.length]; exact h
    exact ⟨vs, vs[i], kls_any R p.1, List.getElem?_eq_getElem hv⟩
  yld := fun {ρ F O H i x H'} R p hy d hd => by
    obtain ⟨e, hx⟩ := hy
    obtain ⟨v, h1, h2⟩ := p.2.get hd
    have := hx vs (kls_any R p.1)
    rw [h1] at this; cases this
    exact ⟨e, h2⟩
theorem wk_tup {a : Addr} {vs : List V} {ds : List D} : Wk k (Itt k.K a) ds none (fun ρ F _ => F a = some (.tup vs) ∧ Reps k ρ F vs ds) where
  mono := fun R T R' p _ => ⟨T.ff _ _ p.1, p.2.tr T R'⟩
  stop := fun {ρ F O H i} R p h => ⟨vs, .inl (.inl (R.fr _ _ p.1)), by rw [p.2.length]; exact h⟩
  go := fun {ρ F O H i} R p h => by
    have hv : i < vs.length := by rw [p.2.length]; exact h
    exact ⟨vs, vs[i], .inl (.inl (R.fr _ _ p.1)), List.getElem?_eq_getElem hv⟩
  yld := fun {ρ F O H i x H'} R p hy d hd => by
    obtain ⟨e, hx⟩ := hy
    obtain ⟨v, h1, h2⟩ := p.2.get hd
    have := hx vs (.inl (.inl (R.fr _ _ p.1)))
    rw [h1] at this; cases this
    exact ⟨e, h2⟩
theorem wk_ktp {a : Addr} {vs : List V} {ds : List D} (h0 : KTup k.K a vs) : Wk k (Itt k.K a) ds none (fun ρ F _ => Reps k ρ F vs ds) where
  mono := fun R T R' p _ => p.tr T R'
  stop := fun {ρ F O H i} R p h => ⟨vs, .inr h0, by rw [p.length]; exact h⟩
  go := fun {ρ F O H i} R p h => by
    have hv : i < vs.length := by rw [p.length]; exact h
    exact ⟨vs, vs[i], .inr h0, List.getElem?_eq_getElem hv⟩
  yld := fun {ρ F O H i x H'} R p hy d hd => by
    obtain ⟨e, hx⟩ := hy
    obtain ⟨v, h1, h2⟩ := p.get hd
    have := hx vs (.inr h0)
    rw [h1] at this; cases this
    exact ⟨e, h2⟩
/-- an open list that stays as it is -/
theorem wk_opn {n : Nat} {a : Addr} {ds : List D} : Wk k (Itl k.K a) ds (some (n, ds)) (fun ρ F O => O[n]? = some (some (.lst ds)) ∧ ρ[n]? = some a) where
  mono := fun R T R' p g => ⟨g, T.pr _ _ p.2⟩
  stop := fun {ρ F O H i} R p h => by
    obtain ⟨_, vs, h1, h2⟩ := R.ob _ _ _ p.1 p.2
    exact ⟨vs, .inl (.inl h1), by rw [h2.length]; exact h⟩
  go := fun {ρ F O H i} R p h => by
    obtain ⟨_, vs, h1, h2⟩ := R.ob _ _ _ p.1 p.2
    have hv : i < vs.length := by rw [h2.length]; exact h
    exact ⟨vs, vs[i], .inl (.inl h1), List.getElem?_eq_getElem hv⟩
  yld := fun {ρ F O H i x H'} R p hy d hd => by
    obtain ⟨_, vs, h1, h2⟩ := R.ob _ _ _ p.1 p.2
    obtain ⟨e, hx⟩ := hy
    obtain ⟨v, h3, h4⟩ := h2.get hd
    have := hx vs (.inl (.inl h1))
    rw [h3] at this; cases this
    exact ⟨e, h4⟩
theorem wk_str {z : Str} : Wk k (Its z) (z.cps.toList.map fun c => D.str ⟨#[c]⟩) none (fun _ _ _ => True) where
  mono := fun _ _ _ _ _ => trivial
  stop := fun _ _ h => by simp at h; exact h
  go := fun _ _ h => by simp at h; exact h
  yld := fun {ρ F O H i x H'} R p hy d hd => by
    obtain ⟨e, c, hc, rfl⟩ := hy
    rw [List.getElem?_map, Array.getElem?_toList, hc] at hd
    cases hd
    exact ⟨e, .str _⟩
theorem wk_dic {d : Addr} {o : Obj} {kvs : List (Key × V)} {ds : List (Key × D)} (hk : kvs.map (·.1) = ds.map (·.1)) : Wk k (Itk d o kvs) (ds.map fun kv => keyB kv.1) none (fun _ F _ => F d = some (.frz o (.dK kvs))) where
  mono := fun R T R' p _ => T.ff _ _ p
  stop := fun R p h => ⟨R.fr _ _ p, by have := congrArg List.length hk; simp at this h; omega⟩
  go := fun R p h => ⟨R.fr _ _ p, by have := congrArg List.length hk; simp at this h; omega⟩
  yld := fun {ρ F O H i x H'} R p hy e he => by
    obtain ⟨e1, key, v, hkv, rfl⟩ := hy
    refine ⟨e1, ?_⟩
    have h1 : (kvs.map (·.1))[i]? = some key := by rw [List.getElem?_map, hkv]; rfl
    rw [hk, List.getElem?_map] at h1
    rw [List.getElem?_map] at he
    cases hd : ds[i]? with
    | none => rw [hd] at h1; cases h1
    | some z =>
      rw [hd] at h1 he
      simp at h1 he
      subst h1
      rw [← he]
      cases z.1 with
      | inl i => exact .int i
      | inr i => exact .str i
theorem wk_rng {lo : Int} {n : Nat} : Wk k (Itr lo n) ((List.range n).map fun (j : Nat) => D.int (lo + j)) none (fun _ _ _ => True) where
  mono := fun _ _ _ _ _ => trivial
  stop := fun _ _ h => by simp at h; exact h
  go := fun _ _ h => by simp at h; exact h
  yld := fun {ρ F O H i x H'} R p hy d hd => by
    obtain ⟨e, rfl⟩ := hy
    rw [List.getElem?_map] at hd
    by_cases hi : i < n
    · rw [List.getElem?_range hi] at hd
      cases hd
      exact ⟨e, .int _⟩
    · rw [List.getElem?_eq_none (by simp; omega)] at hd; cases hd
end
section
variable {X : Cx} {y : Option Yx} {W : WX} {ad : String → Addr} {tg e : Expr} {da : DE} {ds : DA}
theorem piI {wi wi' : TI} (h : PI X tg e wi) (i : ∀ σ H R, wi' σ H R → wi σ H R) : PI X tg e wi' := ⟨fun pins s σ H R I q => h.run pins s σ H R I (i _ _ _ q)⟩
theorem pd_it (h : PI X tg e (iAny X.K (tE ⟨X.K, X.w, ad⟩ y W da))) : PI X tg e (tI ⟨X.K, X.w, ad⟩ y W (dIt da)) := piI h fun σ H R' ⟨ρ, F, O, ε, R, S, q⟩ => by
  refine ⟨ρ, F, O, ε, R, S, ?_⟩
  unfold dIt at q
  cases hd : da ε O with
  | stk => rw [hd] at q; exact q
  | exc x O1 => rw [hd] at q; exact q
  | val x O1 =>
    intro ρ' F' H' v T R1 r
    rw [hd] at q
    simp only at q
    split at q
    · rename_i xs gd ei
      unfold itD at ei
      split at ei
      · cases ei
        cases r with
        | lst h1 h2 => simp only [lstv_of (R1.fr _ _ h1)]; exact q ρ' F' H' _ _ T R1 wk_lst ⟨h1, h2⟩
      · cases ei
        cases r with
        | kls h1 h2 =>
          have h3 : lstv X.K H' _ = some _ := kls_H R1 h1
          simp only [h3]; exact q ρ' F' H' _ _ T R1 wk_kls ⟨h1, h2⟩
      · cases ei
        cases r with
        | tup h1 h2 =>
          simp only [lstv_tup (R1.fr _ _ h1), tupv_of (R1.fr _ _ h1)]; exact q ρ' F' H' _ _ T R1 wk_tup ⟨h1, h2⟩
      · cases ei
        cases r with
        | ktp h1 h2 =>
          have h3 : tupv X.K H' _ = some _ := tupv_K h1 R1.ap
          simp only [tupv_not_lst h3, h3]; exact q ρ' F' H' _ _ T R1 (wk_ktp h1) h2
      · cases ei
        cases r; exact q ρ' F' H' _ _ T R1 wk_str trivial
      · cases ei
        cases r with
        | dic h1 h2 h3 =>
          rename_i p vs
          have : ∃ o, F' p = some (.frz o (.dK vs)) := by
            unfold lkv at h1
            split at h1
            · rename_i o kvs e; cases h1; exact ⟨o, e⟩
            · cases h1
          obtain ⟨o, hF⟩ := this
          have hH := R1.fr _ _ hF
          have e1 : lstv X.K H' p = none := by unfold lstv; rw [hH]
          have e2 : tupv X.K H' p = none := by unfold tupv; rw [hH]
          simp only [e1, e2]
          exact .inl ⟨o, vs, hH, q ρ' F' H' _ _ T R1 (wk_dic h2) hF⟩
      · split at ei
        · rename_i n _ xs ho
          cases ei
          cases r with
          | ref h1 =>
            obtain ⟨_, vs, b1, b2⟩ := R1.ob _ _ _ ho h1
            simp only [lstv_of b1]; exact q ρ' F' H' _ _ T R1 wk_opn ⟨ho, h1⟩
        · cases ei
      · cases ei
    · exact q.elim
/-- range -/
def dRng1 (ds : DA) : DI := fun ε O => match ds ε O with
  | .val [.int j] O1 => if -(2 ^ 62) ≤ j ∧ j < 2 ^ 62 then .val ((List.range j.toNat).map fun (i : Nat) => .int (0 + i)) none O1 else .stk
  | .exc x O1 => .exc x O1
  | _ => .stk
def dRng2 (ds : DA) : DI := fun ε O => match ds ε O with
  | .val [.int i, .int j] O1 => if -(2 ^ 62) ≤ i ∧ i < 2 ^ 62 ∧ -(2 ^ 62) ≤ j ∧ j < 2 ^ 62 then .val ((List.range (j - i).toNat).map fun (m : Nat) => .int (i + m)) none O1 else .stk
  | .exc x O1 => .exc x O1
  | _ => .stk
theorem pd_rng1 (h : PI X tg e (iRng1 (tA ⟨X.K, X.w, ad⟩ y W ds))) : PI X tg e (tI ⟨X.K, X.w, ad⟩ y W (dRng1 ds)) := piI h fun σ H R' ⟨ρ, F, O, ε, R, S, q⟩ => by
  refine ⟨ρ, F, O, ε, R, S, ?_⟩
  unfold dRng1 at q
  split at q
  · rename_i j O1 e
    rw [e]
    split at q
    · rename_i hj
      intro ρ' F' H' v T R1 r
      cases r with
      | cons r1 r0 =>
        cases r1
        cases r0
        exact ⟨j, rfl, hj.1, hj.2, q ρ' F' H' _ _ T R1 wk_rng trivial⟩
    · exact q.elim
  · rename_i e; rw [e]; exact q
  · exact q.elim
theorem pd_rng2 (h : PI X tg e (iRng2 (tA ⟨X.K, X.w, ad⟩ y W ds))) : PI X tg e (tI ⟨X.K, X.w, ad⟩ y W (dRng2 ds)) := piI h fun σ H R' ⟨ρ, F, O, ε, R, S, q⟩ => by
  refine ⟨ρ, F, O, ε, R, S, ?_⟩
  unfold dRng2 at q
  split at q
  · rename_i i j O1 e
    rw [e]
    split at q
    · rename_i hj
      intro ρ' F' H' v T R1 r
      cases r with
      | cons r1 r0 => cases r0 with
        | cons r2 r0 =>
          cases r1
          cases r2
          cases r0
          exact ⟨i, j, rfl, hj, q ρ' F' H' _ _ T R1 wk_rng trivial⟩
    · exact q.elim
  · rename_i e; rw [e]; exact q
  · exact q.elim
end
end Mi

namespace Mi
open PySem PySem.Spec PyProof.Rows L2 R
/-! ### errors -/
theorem takes_ap {X : Cx} {W : WX} (t : Takes X W) : Takes X (fun c d σ H => _root_.R.Apart X.K H → W c d σ H) := fun u s' ⟨a, B, sI, pins, σ, H, cls, d, e, I, nb, up, sky, na, os, ag, w⟩ =>
  t u s' ⟨a, B, sI, pins, σ, H, cls, d, e, I, nb, up, sky, na, os, ag, w (inv_ap I)⟩
section
variable {k : Ct} {ρ : List Addr} {F : Hp} {O : Sto} {H H' : Hp}
/-- all that was tracked is as it was -/
theorem TabH.same {k : Ct} {F H H' : Hp} (t : TabH k F H) (s : Same H H') : TabH k F H' := fun i hi => by
  obtain ⟨f, ps, e, q⟩ := t i hi
  exact ⟨f, ps, s _ _ e, q⟩
theorem Rel.same (R : Rel k ρ F O H) (s : Same H H') (ap : _root_.R.Apart k.K H') : Rel k ρ F O H' ∧ Tr ρ F O H ρ F O H' := by
  refine ⟨⟨⟨fun a u e => s _ _ (R.fr a u e), R.len, fun n a o h1 h2 => ?_, R.inj, R.tb.same s⟩, ap⟩, ⟨⟨[], by simp, by simp⟩, fun _ _ e => e, fun n o' _ e => ⟨o', e⟩, fun a o e _ => s _ _ e, fun a e e' => absurd e e', fun a e => ?_⟩⟩
  · obtain ⟨h3, h4⟩ := R.ob n a o h1 h2
    refine ⟨h3, ?_⟩
    cases o with
    | lst _ => obtain ⟨vs, b, c⟩ := h4; exact ⟨vs, s _ _ b, c⟩
    | dic _ => obtain ⟨vs, b, c⟩ := h4; exact ⟨vs, s _ _ b, c⟩
    | dtt _ => obtain ⟨vs, b, c⟩ := h4; exact ⟨vs, s _ _ b, c⟩
    | ins _ _ => obtain ⟨dx, vs, b, c⟩ := h4; exact ⟨dx, vs, s _ _ b, c⟩
  · cases q : H a with
    | none => exact absurd q e
    | some o => rw [s _ _ q]; simp
/-- a new thing that is there already is taken as standing for ever -/
theorem Rel.take (R : Rel k ρ F O H) (s : Same H H') (ap : _root_.R.Apart k.K H') {d : Addr} {u : HO} (hd : H d = none) (hu : H' d = some u) : Rel k ρ (upd F d u) O H' ∧ Tr ρ F O H ρ (upd F d u) O H' := by
  obtain ⟨R1, T1⟩ := R.same s ap
  have hF := F_none R hd
  have ff : ∀ a w, F a = some w → upd F d u a = some w := fun a w e => by rw [upd_ne (ne_of_none e hF)]; exact e
  have apF : _root_.R.Apart k.K (upd F d u) := fun b o e => by
    by_cases hb : b = d
    · subst hb; have := ap b o e; rw [hu] at this; cases this
    · rw [upd_ne hb]; exact R.apF b o e
  refine ⟨⟨⟨fun a w e => ?_, R.len, fun n a o h1 h2 => ?_, R.inj, (R.tb.newF hd).same s⟩, ap⟩, ⟨⟨[], by simp, by simp⟩, ff, fun n o' _ e => ⟨o', e⟩, T1.fr, fun a e e' => ?_, T1.st⟩⟩
  · by_cases hb : a = d
    · subst hb; rw [upd_same] at e; cases e; exact hu
    · rw [upd_ne hb] at e; exact R1.fr a w e
  · obtain ⟨h3, h4⟩ := R1.ob n a o h1 h2
    have ne : a ≠ d := fun z => by
      subst z
      exact (R.ob n a o h1 h2).2.here hd
    exact ⟨by rw [upd_ne ne]; exact h3, h4.mono (fun _ _ e => e) ff apF⟩
  · by_cases hb : a = d
    · subst hb; exact .inl hd
    · rw [upd_ne hb] at e'; exact absurd e e'
end
/-- raise C(e) -/
def dRaise (c nm : String) (de : DE) : DS := fun ε O => (de ε O).toS ε fun v O1 => .exc ⟨c, [(Str.ofString "name", .str (Str.ofString nm)), (Str.ofString "place", v)]⟩ ε O1
section
variable {X : Cx} {y : Option Yx} {W : WX} {ad : String → Addr} {st : Stmt} {de : DE}
theorem pd_raise {c nm : String} {C : Addr} (hc : ad c = C) (h : PS X st (tRs (fun c d σ H => _root_.R.Apart X.K H → W c d σ H) (tMkF C (Str.ofString nm) (tE ⟨X.K, X.w, ad⟩ y W de)))) : PS X st (tS ⟨X.K, X.w, ad⟩ y W (dRaise c nm de)) := psImp h fun D σ H ⟨ρ, F, O, ε, R, S, q⟩ =>
  ⟨ρ, F, O, ε, R, S, ep_toS S q fun v O1 ρ1 F1 H1 u T1 R1 r1 q1 => fun d H' hd s hu ap => by
    subst hc
    obtain ⟨R2, T2⟩ := R1.take s ap hd hu
    exact q1 _ _ _ _ _ _ T2 R2 ((S.tr T1 R1).tr T2 R2) ⟨rfl, d, _, rfl, upd_same, rfl, .cons (.str _) (.cons (r1.tr T2 R2) .nil)⟩⟩
end
/-- try .. except h (as the slot i): the suite su -/
def catchD (h c : String) : Bool := h == "FormstripesError" || h == c
def exB : Sl → Bool
  | .ex => true
  | _ => false
/-- behind a suite: the slot i is nothing, no other holds an error -/
def offEx (i : Nat) : SR → SR
  | .nx ε O => if (ε.set i .no).all (fun s => !exB s) then .nx (ε.set i .no) O else .stk
  | .bk ε O => if (ε.set i .no).all (fun s => !exB s) then .bk (ε.set i .no) O else .stk
  | .ct ε O => if (ε.set i .no).all (fun s => !exB s) then .ct (ε.set i .no) O else .stk
  | .rt v O => .rt v O
  | _ => .stk
def dTryAs (L : List String) (h : String) (i : Nat) (b : DS) (su : Ex → DS) : DS := fun ε O => match b ε O with
  | .exc x ε1 O1 => if L.contains x.c then (if catchD h x.c then offEx i (su x (ε1.set i .ex) O1) else .exc x ε1 O1) else .stk
  | r => r
def dTry (L : List String) (h : String) (b : DS) (su : Ex → DS) : DS := fun ε O => match b ε O with
  | .exc x ε1 O1 => if L.contains x.c then (if catchD h x.c then (match su x ε1 O1 with
      | .exc _ _ _ => .stk
      | .nx ε2 O2 => if ε2.all (fun s => !exB s) then .nx ε2 O2 else .stk
      | .bk ε2 O2 => if ε2.all (fun s => !exB s) then .bk ε2 O2 else .stk
      | .ct ε2 O2 => if ε2.all (fun s => !exB s) then .ct ε2 O2 else .stk
      | r => r) else .exc x ε1 O1) else .stk
  | r => r
section
variable {k : Ct} {ρ : List Addr} {F : Hp} {O : Sto} {H H' : Hp} {y : Option Yx} {σ : L2.St} {ε : Env}
theorem SloR.re {y' : Option Yx} (S : SloR k none ρ F σ ε) : SloR k y' ρ F σ ε := ⟨S.1, fun i => ⟨(S.2 i).1, fun e => by
  obtain ⟨z, h, _⟩ := (S.2 i).2 e
  cases h⟩⟩
theorem SloR.ex {i : Nat} {z : Yx} (S : SloR k none ρ F σ ε) (x : XR k ρ F z.cls z.d z.x) : SloR k (some z) ρ F (σ.set i (some (.ref z.a))) (ε.set i .ex) := ⟨by simp [S.1], fun j => by
  by_cases hj : i = j
  · subst hj
    by_cases hl : i < ε.length
    · rw [List.getElem?_set_self hl, List.getElem?_set_self (by rw [S.1]; exact hl)]
      exact ⟨fun d' e => (by cases e), fun e => ⟨z, rfl, rfl, x⟩⟩
    · rw [List.getElem?_eq_none (by simp; omega)]
      exact ⟨fun _ e => (by cases e), fun e => (by cases e)⟩
  · rw [List.getElem?_set_ne hj, List.getElem?_set_ne hj]
    exact ⟨(S.2 j).1, fun e => by
      obtain ⟨z, h, _⟩ := (S.2 j).2 e
      cases h⟩⟩
theorem SloR.un {i : Nat} {z : Option Yx} (S : SloR k z ρ F σ ε) (h : (ε.set i .no).all (fun s => !exB s) = true) : SloR k none ρ F (σ.set i none) (ε.set i .no) := by
  have S' := S.no i none
  refine ⟨S'.1, fun j => ⟨(S'.2 j).1, fun e => ?_⟩⟩
  have := List.all_eq_true.mp h _ (List.mem_of_getElem? e)
  simp [exB] at this
theorem SloR.un0 {z : Option Yx} (S : SloR k z ρ F σ ε) (h : ε.all (fun s => !exB s) = true) : SloR k none ρ F σ ε := by
  refine ⟨S.1, fun j => ⟨(S.2 j).1, fun e => ?_⟩⟩
  have := List.all_eq_true.mp h _ (List.mem_of_getElem? e)
  simp [exB] at this
end
/-- what is known of an error's class -/
structure ErrF (K : PySem.W.Frag) (C : Addr) : Prop where
  xf : XfC K C
  xc : ExcC K C
  np : PySem.W.findIn K (.ref C) "place" = some none
  nn : PySem.W.findIn K (.ref C) "name" = some none
theorem pss_ex {X : Cx} {sts : List Stmt} {α : Type} {p : α → Prop} {t : α → TS} (h : ∀ x, p x → PSs X sts (t x)) : PSs X sts (fun D σ H => ∃ x, p x ∧ t x D σ H) := ⟨fun pins s σ H D I ⟨x, hx, q⟩ => (h x hx).run pins s σ H D I q⟩
/-- a suite's reading -/
def tSu (k : Ct) (L : List String) (su : Ex → DS) (a : Addr) (cls : Value) (d : Option Addr) : TS := fun D σ H => ∃ x : Ex, L.contains x.c = true ∧ tS k (some ⟨a, cls, d, x⟩) W0 (su x) D σ H
section
variable {X : Cx} {W : WX} {ad : String → Addr} {st : Stmt} {db : DS} {su : Ex → DS} {L : List String} {h : String} {i : Nat} {C : Addr}
theorem pd_tryAs (hh : ad h = C) (hL : ∀ c, L.contains c = true → PySem.W.exmOne X.K (.ref (ad c)) (.ref C) = some (catchD h c))
    (hp : PS X st (tTryAs X.K (.ref C) i (tSu ⟨X.K, X.w, ad⟩ L su) W (fun W => tS ⟨X.K, X.w, ad⟩ none W db))) : PS X st (tS ⟨X.K, X.w, ad⟩ none W (dTryAs L h i db su)) := psImp hp fun D σ H ⟨ρ, F, O, ε, R, S, q⟩ => by
  refine ⟨ρ, F, O, ε, R, S, ?_⟩
  unfold dTryAs at q
  cases hd : db ε O with
  | nx ε1 O1 => rw [hd] at q; exact q
  | rt v O1 => rw [hd] at q; exact q
  | bk ε1 O1 => rw [hd] at q; exact q
  | ct ε1 O1 => rw [hd] at q; exact q
  | stk => rw [hd] at q; exact q
  | exc x ε1 O1 =>
    rw [hd] at q
    simp only at q
    intro ρ' F' H' cls od σ' T R' S' xr
    split at q
    · rename_i hc
      obtain ⟨rfl, hx⟩ := _root_.id xr
      refine ⟨_, hL _ hc, fun hb a ha => ?_, fun hb => ?_⟩
      · rw [if_pos hb] at q
        refine ⟨x, hc, ρ', F', O1, ε1.set i .ex, R', S'.ex (z := ⟨a, _, od, x⟩) xr, ?_⟩
        have q' := SP.tr T q
        cases hs : su x (ε1.set i .ex) O1 with
        | nx ε2 O2 =>
          rw [hs] at q'; unfold offEx at q'
          by_cases h2 : ((ε2.set i .no).all fun s => !exB s) = true
          · simp only [if_pos h2] at q'; exact fun ρ2 F2 H2 σ2 T2 R2 S2 => q' _ _ _ _ T2 R2 (S2.un h2)
          · simp only [if_neg h2] at q'; exact q'.elim
        | bk ε2 O2 =>
          rw [hs] at q'; unfold offEx at q'
          by_cases h2 : ((ε2.set i .no).all fun s => !exB s) = true
          · simp only [if_pos h2] at q'; exact fun ρ2 F2 H2 σ2 T2 R2 S2 => q' _ _ _ _ T2 R2 (S2.un h2)
          · simp only [if_neg h2] at q'; exact q'.elim
        | ct ε2 O2 =>
          rw [hs] at q'; unfold offEx at q'
          by_cases h2 : ((ε2.set i .no).all fun s => !exB s) = true
          · simp only [if_pos h2] at q'; exact fun ρ2 F2 H2 σ2 T2 R2 S2 => q' _ _ _ _ T2 R2 (S2.un h2)
          · simp only [if_neg h2] at q'; exact q'.elim
        | rt v O2 => rw [hs] at q'; exact q'
        | exc _ _ _ => rw [hs] at q'; exact q'.elim
        | stk => rw [hs] at q'; exact q'.elim
      · rw [if_neg (by rw [hb]; simp)] at q
        exact q _ _ _ _ _ _ T R' S' xr
    · exact q.elim
theorem pd_try (hh : ad h = C) (hL : ∀ c, L.contains c = true → PySem.W.exmOne X.K (.ref (ad c)) (.ref C) = some (catchD h c))
    (hp : PS X st (tTryOnly X.K (.ref C) (tSu ⟨X.K, X.w, ad⟩ L su) W (fun W => tS ⟨X.K, X.w, ad⟩ none W db))) : PS X st (tS ⟨X.K, X.w, ad⟩ none W (dTry L h db su)) := psImp hp fun D σ H ⟨ρ, F, O, ε, R, S, q⟩ => by
  refine ⟨ρ, F, O, ε, R, S, ?_⟩
  unfold dTry at q
  cases hd : db ε O with
  | nx ε1 O1 => rw [hd] at q; exact q
  | rt v O1 => rw [hd] at q; exact q
  | bk ε1 O1 => rw [hd] at q; exact q
  | ct ε1 O1 => rw [hd] at q; exact q
  | stk => rw [hd] at q; exact q
  | exc x ε1 O1 =>
    rw [hd] at q
    simp only at q
    intro ρ' F' H' cls od σ' T R' S' xr
    split at q
    · rename_i hc
      obtain ⟨rfl, hx⟩ := _root_.id xr
      refine ⟨_, hL _ hc, fun hb a ha => ?_, fun hb => ?_⟩
      · rw [if_pos hb] at q
        refine ⟨x, hc, ρ', F', O1, ε1, R', S'.re, ?_⟩
        have q' := SP.tr T q
        cases hs : su x ε1 O1 with
        | nx ε2 O2 =>
          rw [hs] at q'
          by_cases h2 : (ε2.all fun s => !exB s) = true
          · simp only [if_pos h2] at q'; exact fun ρ2 F2 H2 σ2 T2 R2 S2 => q' _ _ _ _ T2 R2 (S2.un0 h2)
          · simp only [if_neg h2] at q'; exact q'.elim
        | bk ε2 O2 =>
          rw [hs] at q'
          by_cases h2 : (ε2.all fun s => !exB s) = true
          · simp only [if_pos h2] at q'; exact fun ρ2 F2 H2 σ2 T2 R2 S2 => q' _ _ _ _ T2 R2 (S2.un0 h2)
          · simp only [if_neg h2] at q'; exact q'.elim
        | ct ε2 O2 =>
          rw [hs] at q'
          by_cases h2 : (ε2.all fun s => !exB s) = true
          · simp only [if_pos h2] at q'; exact fun ρ2 F2 H2 σ2 T2 R2 S2 => q' _ _ _ _ T2 R2 (S2.un0 h2)
          · simp only [if_neg h2] at q'; exact q'.elim
        | rt v O2 => rw [hs] at q'; exact q'
        | exc _ _ _ => rw [hs] at q'; exact q'.elim
        | stk => rw [hs] at q'; exact q'.elim
      · rw [if_neg (by rw [hb]; simp)] at q
        exact q _ _ _ _ _ _ T R' S' xr
    · exact q.elim
end
/-- err.f, in a suite -/
def dXf (x : Ex) (i : Nat) (f : Str) : DE := fun ε O => match ε[i]? with
  | some .ex => match x.fs.lookup f with
    | some d => .val d O
    | none => .stk
  | _ => .stk
/-- isinstance(err, C), in a suite -/
def dIsX (x : Ex) (i : Nat) (c : String) : DE := fun ε O => match ε[i]? with
  | some .ex => .val (.bl (catchD c x.c)) O
  | _ => .stk
def dIsXT (x : Ex) (i : Nat) : DE := fun ε O => match ε[i]? with
  | some .ex => .val (.bl true) O
  | _ => .stk
section
variable {X : Cx} {W : WX} {ad : String → Addr} {e : Expr} {a : Addr} {cls : Value} {d : Option Addr} {x : Ex} {i : Nat}
theorem pd_xf {f : Str} (E : ErrF X.K (ad x.c)) (hf : f = "place" ∨ f = "name") (h : PE X e (tXfU X.K a cls d f (tVar i))) : PE X e (tE ⟨X.K, X.w, ad⟩ (some ⟨a, cls, d, x⟩) W (dXf x i f)) := peImp h fun σ H Q ⟨ρ, F, O, ε, R, S, q⟩ => by
  unfold dXf at q
  split at q
  · rename_i e
    obtain ⟨z, hz, h1, hcl, dd, vs, h3, h4, h5, h6⟩ := (S.2 i).2 e
    cases hz
    have hcl : cls = .ref (ad x.c) := hcl
    have h3 : d = some dd := h3
    subst hcl h3
    split at q
    · rename_i dv hl
      refine ⟨_, rfl, E.xf, ?_, _, h1, rfl, dd, vs, ?_⟩
      · rcases hf with rfl | rfl
        · exact E.np
        · exact E.nn
      · rcases KR.lookup ⟨h5, h6⟩ f with ⟨e1, e2⟩ | ⟨v, d', e1, e2, r⟩
        · rw [hl] at e2; cases e2
        · rw [hl] at e2; cases e2
          exact ⟨v, rfl, R.fr _ _ h4, e1, val_ok R r q⟩
    · exact q.elim
  · exact q.elim
theorem pd_isX {c : String} {C : Addr} (E : ErrF X.K (ad x.c)) (hk : PySem.W.kitOne X.K (.ref (ad x.c)) (.ref C) = some (catchD c x.c)) (h : PE X e (tCB (rIsX X.K a cls d) (tCons (tVar i) (tCons (tC (.ref C)) tNil)))) : PE X e (tE ⟨X.K, X.w, ad⟩ (some ⟨a, cls, d, x⟩) W (dIsX x i c)) := peImp h fun σ H Q ⟨ρ, F, O, ε, R, S, q⟩ => by
  unfold dIsX at q
  split at q
  · rename_i e
    obtain ⟨z, hz, h1, hcl, dd, vs, h3, h4, h5, h6⟩ := (S.2 i).2 e
    cases hz
    have hcl : cls = .ref (ad x.c) := hcl
    have h3 : d = some dd := h3
    subst hcl h3
    refine ⟨_, h1, ?_⟩
    show rIsX X.K a _ (some dd) [.ref a, .ref C] H Q
    exact rIsX_i (R.fr _ _ h4) E.xc hk (val_ok R (.bl _) q)
  · exact q.elim
theorem pd_isXT (E : ErrF X.K (ad x.c)) (hk : PySem.W.kitOne X.K (.ref (ad x.c)) (.type "ValueError") = some true) (h : PE X e (tCB (rIsX X.K a cls d) (tCons (tVar i) (tCons (tC (.ty "ValueError")) tNil)))) : PE X e (tE ⟨X.K, X.w, ad⟩ (some ⟨a, cls, d, x⟩) W (dIsXT x i)) := peImp h fun σ H Q ⟨ρ, F, O, ε, R, S, q⟩ => by
  unfold dIsXT at q
  split at q
  · rename_i e
    obtain ⟨z, hz, h1, hcl, dd, vs, h3, h4, h5, h6⟩ := (S.2 i).2 e
    cases hz
    have hcl : cls = .ref (ad x.c) := hcl
    have h3 : d = some dd := h3
    subst hcl h3
    refine ⟨_, h1, ?_⟩
    show rIsX X.K a _ (some dd) [.ref a, .ty "ValueError"] H Q
    exact rIsX_t (R.fr _ _ h4) E.xc hk (val_ok R (.bl _) q)
  · exact q.elim
end
/-! ### defs -/
def Ob.pure (o : Ob) : Bool := D.pure o.d
def Ob.box : Ob → Bool
  | .ins _ _ => false
  | _ => true
def Ex.pure (x : Ex) : Bool := D.pureF x.fs
/-- what a def gives: a tree, a new box of trees, an error -/
inductive FR where
  | ok (d : D) | fr (o : Ob) | exc (x : Ex) | stk
def SR.fin : SR → FR
  | .nx _ _ => .ok .non
  | .rt x O => if D.pure x then .ok x else match x with
    | .ref m => match O[m]? with
      | some (some o) => if o.pure && o.box then .fr o else .stk
      | _ => .stk
    | _ => .stk
  | .exc x _ _ => if x.pure then .exc x else .stk
  | _ => .stk
/-- a def's body, run alone -/
def runF (b : DS) (n : Nat) (args : List D) : FR := (b (args.map Sl.v ++ List.replicate (n - args.length) .no) []).fin
def FP (k : Ct) (ρ : List Addr) (F : Hp) (O : Sto) (H : Hp) (Q : VK) (E : XK) : FR → Prop
  | .ok d => ∀ F' H' v, Tr ρ F O H ρ F' O H' → Rel k ρ F' O H' → Rep k ρ F' v d → Q v H'
  | .fr o => ∀ F' H' p, Tr ρ F O H ρ F' O H' → Rel k ρ F' O H' → H p = none → F' p = none → ObR k ρ F' H' p o → Q (.ref p) H'
  | .exc x => ∀ F' H' cls od, Tr ρ F O H ρ F' O H' → Rel k ρ F' O H' → XR k ρ F' cls od x → E cls od H'
  | .stk => False
/-- the promise: what m gives of trees -/
def spF (k : Ct) (n : Nat) (m : List D → FR) : Sp := fun vs H Q E => ∃ ρ F O ds, Rel k ρ F O H ∧ Reps k ρ F vs ds ∧ ds.length = n ∧ D.pureL ds = true ∧ FP k ρ F O H Q E (m ds)
theorem spF_len {k : Ct} {n : Nat} {m : List D → FR} : ∀ vs H Q E, spF k n m vs H Q E → vs.length = n := fun vs H Q E ⟨ρ, F, O, ds, R, r, h, _⟩ => by rw [r.length, h]
section
variable {k : Ct} {ρ : List Addr} {F : Hp} {O : Sto} {H : Hp}
theorem Rel.alone (R : Rel k ρ F O H) : Rel k [] F [] H := ⟨⟨R.fr, rfl, fun n a o h _ => by simp at h, fun n m a o o' h => by simp at h, R.tb⟩, R.ap⟩
/-- behind a def that ran alone -/
theorem Rel.back {ρ' : List Addr} {F' : Hp} {O' : Sto} {H' : Hp} (R : Rel k ρ F O H) (T : Tr [] F [] H ρ' F' O' H') (R' : Rel k ρ' F' O' H') : Rel k ρ F' O H' ∧ Tr ρ F O H ρ F' O H' := by
  have nl : ∀ a, ¬ Liv [] [] a := fun a ⟨n, o, h, _⟩ => by simp at h
  refine ⟨⟨⟨R'.fr, R.len, fun n a o h1 h2 => ?_, R.inj, R'.tb⟩, R'.ap⟩, ⟨⟨[], by simp, by simp⟩, T.ff, fun n o' _ e => ⟨o', e⟩, fun a o e z => T.fr a o e ⟨nl a, z.2⟩, fun a e e' => .inl ((T.gr a e e').resolve_right (nl a)), T.st⟩⟩
  obtain ⟨h3, h4⟩ := R.ob n a o h1 h2
  refine ⟨?_, ?_⟩
  · cases e : F' a with
    | none => rfl
    | some u => exact absurd ((T.gr a h3 (by rw [e]; simp)).resolve_right (nl a)) h4.here
  · have h5 : ObR k ρ F H' a o := by
      cases o with
      | lst _ => obtain ⟨vs, b, c⟩ := h4; exact ⟨vs, T.fr _ _ b ⟨nl a, fun _ z => nomatch z⟩, c⟩
      | dic _ => obtain ⟨vs, b, c⟩ := h4; exact ⟨vs, T.fr _ _ b ⟨nl a, fun _ z => nomatch z⟩, c⟩
      | dtt _ => obtain ⟨vs, b, c⟩ := h4; exact ⟨vs, T.fr _ _ b ⟨nl a, fun _ z => nomatch z⟩, c⟩
      | ins _ _ => obtain ⟨dx, vs, b, c⟩ := h4; exact ⟨dx, vs, T.fr _ _ b ⟨nl a, fun _ z => nomatch z⟩, c⟩
    exact h5.mono (fun _ _ e => e) T.ff R'.apF
theorem ob_pu {ρ' : List Addr} {F : Hp} {a : Addr} {o : Ob} (b : ObR k ρ F H a o) (p : o.pure = true) : ObR k ρ' F H a o := by
  cases o with
  | lst xs => obtain ⟨vs, b, c⟩ := b; exact ⟨vs, b, c.pu (by unfold Ob.pure Ob.d at p; rw [D.pure] at p; exact p)⟩
  | dic _ => obtain ⟨vs, b, e, c⟩ := b; exact ⟨vs, b, e, c.pu (by unfold Ob.pure Ob.d at p; rw [D.pure] at p; rw [pureL_K]; exact p)⟩
  | dtt _ => obtain ⟨vs, b, e, c⟩ := b; exact ⟨vs, b, e, c.pu (by unfold Ob.pure Ob.d at p; rw [D.pure] at p; rw [pureL_T]; exact p)⟩
  | ins _ _ => obtain ⟨dx, vs, b, e, c⟩ := b; exact ⟨dx, vs, b, e, c.pu (by unfold Ob.pure Ob.d at p; rw [D.pure] at p; rw [pureL_F]; exact p)⟩
theorem start_slots {N : List Str} {vs : List V} {ds : List D} (r : Reps k ρ F vs ds) : SloR k none ρ F (L2.start N vs) (ds.map Sl.v ++ List.replicate (N.length - ds.length) .no) := by
  have hl := r.length
  refine ⟨by simp [L2.start, hl], fun i => ⟨fun d e => ?_, fun e => ?_⟩⟩
  · unfold L2.start
    by_cases hi : i < ds.length
    · rw [List.getElem?_append_left (by simpa using hi), List.getElem?_map] at e
      rw [List.getElem?_append_left (by simp; omega), List.getElem?_map]
      cases hd : ds[i]? with
      | none => rw [hd] at e; cases e
      | some d' =>
        rw [hd] at e
        cases e
        obtain ⟨v, h1, h2⟩ := r.get hd
        exact ⟨v, by rw [h1]; rfl, h2⟩
    · rw [List.getElem?_append_right (by simp; omega), List.getElem?_replicate] at e
      split at e <;> cases e
  · by_cases hi : i < ds.length
    · rw [List.getElem?_append_left (by simpa using hi), List.getElem?_map] at e
      cases hd : ds[i]? with
      | none => rw [hd] at e; cases e
      | some d' => rw [hd] at e; cases e
    · rw [List.getElem?_append_right (by simp; omega), List.getElem?_replicate] at e
      split at e <;> cases e
/-- the body's reading gives the promise -/
theorem run_ok {b : DS} {N : List Str} {n : Nat} {vs : List V} {Q : VK} {E : XK} (h : spF k n (runF b N.length) vs H Q E) : tS k none (fun cls d _ H => E cls d H) b { nx := fun _ H' => Q .non H', rt := Q } (L2.start N vs) H := by
  obtain ⟨ρ, F, O, ds, R, r, hl, hp, q⟩ := h
  refine ⟨[], F, [], _, R.alone, start_slots (r.pu hp), ?_⟩
  unfold runF at q
  generalize b (ds.map Sl.v ++ List.replicate (N.length - ds.length) .no) [] = s at q
  have nl : ∀ a, ¬ Liv [] [] a := fun a ⟨n, o, h, _⟩ => by simp at h
  cases s with
  | nx ε O' => exact fun ρ' F' H' σ' T R' S' => q F' H' .non (R.back T R').2 (R.back T R').1 .non
  | rt x O' =>
    intro ρ' F' H' v T R' rv
    unfold SR.fin at q
    simp only at q
    split at q
    · exact q F' H' v (R.back T R').2 (R.back T R').1 (rv.pu ‹_›)
    · split at q
      · rename_i m
        split at q
        · rename_i o ho
          split at q
          · rename_i hpb
            rw [Bool.and_eq_true] at hpb
            obtain ⟨a, rfl, ha, hF, hb⟩ := R'.live rv ho
            have hn : H a = none := by
              obtain ⟨l, e, hl⟩ := T.pre
              rw [List.nil_append] at e
              subst e
              exact hl a (List.mem_of_getElem? ha)
            exact q F' H' a (R.back T R').2 (R.back T R').1 hn hF (ob_pu hb hpb.1)
          · exact q.elim
        · exact q.elim
      · exact q.elim
  | bk ε O' => exact q.elim
  | ct ε O' => exact q.elim
  | exc x ε O' =>
    intro ρ' F' H' cls od σ' T R' S' xr
    unfold SR.fin at q
    simp only at q
    split at q
    · rename_i hp
      obtain ⟨e, d, vs', e1, e2, e3, e4⟩ := xr
      exact q F' H' cls od (R.back T R').2 (R.back T R').1 ⟨e, d, vs', e1, e2, e3, e4.pu (by unfold Ex.pure at hp; rw [pureL_F]; exact hp)⟩
    · exact q.elim
  | stk => exact q.elim
end
/-- f(..), its arguments trees -/
def FR.toE (o : Bool) (r : FR) (O : Sto) : ER := match r with
  | .ok d => .val d O
  | .fr c => mk o c O
  | .exc x => .exc x O
  | .stk => .stk
def dCall (o : Bool) (m : List D → FR) (n : Nat) (ds : DA) : DE := fun ε O => (ds ε O).toE fun xs O1 => if xs.length = n ∧ D.pureL xs = true then (m xs).toE o O1 else .stk
section
variable {X : Cx} {y : Option Yx} {W : WX} {ad : String → Addr} {e : Expr} {ds : DA} {m : List D → FR} {n : Nat}
theorem fp_ok {k : Ct} {ρ F O H} {o : Bool} {r : FR} {Q : VK} {E : XK} (R : Rel k ρ F O H) (q : EP k ρ F O H Q E (r.toE o O)) : FP k ρ F O H (fun v H' => _root_.R.Apart k.K H' → Lk Q v H') E r := by
  cases r with
  | ok d => exact fun F' H' v T R' rv ap => .inr (.inr (q _ _ _ _ T R' rv))
  | exc x => exact fun F' H' cls od T R' xr => q _ _ _ _ _ T R' xr
  | stk => exact q
  | fr c =>
    intro F' H' p T R' hp hF hb ap
    have hl : ¬ Liv ρ O p := notLiv R hp
    have q : EP k ρ F O H Q E (mk o c O) := q
    have up : ∀ u, H' p = some u → upd H' p u = H' := fun u e => by
      funext b
      by_cases hb : b = p
      · rw [hb, upd_same, e]
      · rw [upd_ne hb]
    have opn : ∀ u, H' p = some u → ObR k ρ F' H' p c → o = true → Q (.ref p) H' := fun u e b ho => by
      subst ho
      obtain ⟨R2, T2⟩ := adopt_open (u := u) (o := c) T R' hp hF hl (by rw [e]; simp) b.nt (by rw [up u e]; exact b)
      rw [up u e] at R2 T2
      exact q _ _ _ _ T2 R2 (.ref (by rw [List.getElem?_append_right (by rw [R.len]; exact Nat.le_refl _)]; simp [R.len]))
    cases o with
    | true =>
      right; right
      cases c with
      | lst xs => obtain ⟨vs, b1, b2⟩ := _root_.id hb; exact opn _ b1 hb rfl
      | dic xs => obtain ⟨vs, b1, b2⟩ := _root_.id hb; exact opn _ b1 hb rfl
      | dtt xs => obtain ⟨vs, b1, b2⟩ := _root_.id hb; exact opn _ b1 hb rfl
      | ins c xs => obtain ⟨dx, vs, b1, b2⟩ := _root_.id hb; exact opn _ b1 hb rfl
    | false =>
      have ffu : ∀ u a w, F' a = some w → upd F' p u a = some w := fun u a w e => by rw [upd_ne (ne_of_none e hF)]; exact e
      cases c with
      | lst xs =>
        obtain ⟨vs, b1, b2⟩ := hb
        obtain ⟨R2, T2⟩ := adopt_tree (u := .lst vs) T R' hp hF hl (by rw [b1]; simp) (by rw [b1]; simp)
        rw [up _ b1] at R2 T2
        exact .inr (.inr (q _ _ _ _ T2 R2 (.lst upd_same (b2.mono (fun _ _ e => e) (ffu _) R2.apF))))
      | ins c xs =>
        obtain ⟨dx, vs, b1, b2, b3⟩ := hb
        obtain ⟨R2, T2⟩ := adopt_tree (u := .ins (k.ad c) dx vs) T R' hp hF hl (by rw [b1]; simp) (by rw [b1]; simp)
        rw [up _ b1] at R2 T2
        exact .inr (.inr (q _ _ _ _ T2 R2 (.ins upd_same b2 (b3.mono (fun _ _ e => e) (ffu _) R2.apF))))
      | dic xs =>
        obtain ⟨vs, b1, b2, b3⟩ := hb
        refine .inl ⟨p, vs, rfl, b1, fun od => ?_⟩
        obtain ⟨R2, T2⟩ := adopt_tree (u := .frz od (.dK vs)) T R' hp hF hl (by rw [b1]; simp) (by rw [b1]; simp)
        exact q _ _ _ _ T2 R2 (.dic (by unfold lkv; rw [upd_same]) b2 (b3.mono (fun _ _ e => e) (ffu _) R2.apF))
      | dtt xs =>
        obtain ⟨vs, b1, b2, b3⟩ := hb
        refine .inr (.inl ⟨p, vs, rfl, b1, fun od => ?_⟩)
        obtain ⟨R2, T2⟩ := adopt_tree (u := .frz od (.dT vs)) T R' hp hF hl (by rw [b1]; simp) (by rw [b1]; simp)
        exact q _ _ _ _ T2 R2 (.dtt (by unfold ltv; rw [upd_same]) b2 (b3.mono (fun _ _ e => e) (ffu _) R2.apF))
theorem call_go {k : Ct} {ρ F O H} {o : Bool} {vs : List V} {xs : List D} {Q : VK} {E : XK} (R : Rel k ρ F O H) (r : Reps k ρ F vs xs) (q : EP k ρ F O H Q E (if xs.length = n ∧ D.pureL xs = true then (m xs).toE o O else .stk)) :
    spF k n m vs H (fun v H' => _root_.R.Apart k.K H' → Lk Q v H') E := by
  split at q
  · rename_i h
    exact ⟨ρ, F, O, xs, R, r, h.1, h.2, fp_ok R q⟩
  · exact q.elim
theorem pd_call {o : Bool} (h : PE X e (tCallW (spF ⟨X.K, X.w, ad⟩ n m) W (tA ⟨X.K, X.w, ad⟩ y W ds))) : PE X e (tE ⟨X.K, X.w, ad⟩ y W (dCall o m n ds)) := peK h fun σ H Q ⟨ρ, F, O, ε, R, S, q⟩ _ =>
  ⟨ρ, F, O, ε, R, S, ap_toE q fun xs O1 ρ1 F1 H1 vs T1 R1 r1 q1 => call_go R1 r1 q1⟩
end
end Mi

namespace Mi
open PySem PySem.Spec PyProof.Rows L2 R
/-! ### list comprehensions -/
section
variable {k : Ct} {ρ : List Addr} {F : Hp} {O : Sto} {H : Hp}
theorem Rel0.F_none (R : Rel0 k ρ F O H) {p : Addr} (h : H p = none) : F p = none := by
  cases e : F p with
  | none => rfl
  | some u => have z := R.fr _ _ e; rw [h] at z; cases z
theorem Rel0.notLiv (R : Rel0 k ρ F O H) {p : Addr} (h : H p = none) : ¬ Liv ρ O p := by
  rintro ⟨n, o, h1, h2⟩
  exact (R.ob n p o h1 h2).2.here h
theorem Rel0.side (R : Rel0 k ρ F O H) {p : Addr} {u : HO} (h : H p = none) : Rel0 k ρ F O (upd H p u) ∧ Tr ρ F O H ρ F O (upd H p u) := by
  refine ⟨⟨fun a w e => ?_, R.len, fun n a o h1 h2 => ?_, R.inj, R.tb.new h⟩, ⟨⟨[], by simp, by simp⟩, fun _ _ e => e, fun n o' _ e => ⟨o', e⟩, fun a o e _ => by rw [upd_ne (ne_of_none e h)]; exact e, fun a e e' => absurd e e', fun a e => ?_⟩⟩
  · have ne : a ≠ p := ne_of_none e (R.F_none h)
    rw [upd_ne ne]; exact R.fr a w e
  · exact ⟨(R.ob n a o h1 h2).1, (R.ob n a o h1 h2).2.up h⟩
  · by_cases hb : a = p
    · rw [hb, upd_same]; simp
    · rw [upd_ne hb]; exact e
/-- what stands beside changes -/
theorem Rel0.beside {ρ0 F0 O0 H0} (R : Rel0 k ρ F O H) (T : Tr ρ0 F0 O0 H0 ρ F O H) {p : Addr} {u : HO} (h0 : H0 p = none) (hF : F p = none) (hl : ¬ Liv ρ O p) (hT : ∀ ps, H p ≠ some (.tbl ps)) : Rel0 k ρ F O (upd H p u) ∧ Tr ρ0 F0 O0 H0 ρ F O (upd H p u) := by
  refine ⟨⟨fun a w e => ?_, R.len, fun n a o h1 h2 => ?_, R.inj, R.tb.put hT⟩, ⟨T.pre, T.ff, T.dead, fun a o e l => by rw [upd_ne (ne_of_none e h0)]; exact T.fr a o e l, T.gr, fun a e => ?_⟩⟩
  · rw [upd_ne (ne_of_none e hF)]; exact R.fr a w e
  · have ne : a ≠ p := fun z => hl ⟨n, o, h1, z ▸ h2⟩
    exact ⟨(R.ob n a o h1 h2).1, (R.ob n a o h1 h2).2.ne ne⟩
  · by_cases hb : a = p
    · rw [hb, upd_same]; simp
    · rw [upd_ne hb]; exact T.st a e
end
/-- the names of a comprehension: one, or several of a tuple -/
inductive CT where
  | one (i : Nat) | tup (is : List Nat)
def CT.ns : CT → List Nat
  | .one i => [i]
  | .tup is => is
def setAll : List Nat → List D → Env → Env
  | i :: is, x :: xs, ε => setAll is xs (ε.set i (.v x))
  | _, _, ε => ε
def CT.put (t : CT) (O : Sto) (x : D) (ε : Env) : Option Env := match t with
  | .one i => some (ε.set i (.v x))
  | .tup is => match vw O x with
    | .tup xs => if xs.length = is.length then some (setAll is xs ε) else none
    | _ => none
def wipeD (ε : Env) : List Nat → Env
  | [] => ε
  | v :: vs => (wipeD ε vs).set v .no
def dYes : DT := fun _ O => .val true O
open Classical in
noncomputable def lcGo (gd : Gd) (t : CT) (c : DT) (e : DE) (ε : Env) : List D → List D → Sto → AR
  | [], acc, O => if gdOk gd O then .val acc O else .stk
  | x :: xs, acc, O => if gdOk gd O then (match t.put O x ε with
    | some ε1 => (match c ε1 O with
      | .val true O2 => (match e ε1 O2 with
        | .val y O3 => if acc.length < sizeLine then lcGo gd t c e ε xs (acc ++ [y]) O3 else .stk
        | _ => .stk)
      | .val false O2 => lcGo gd t c e ε xs acc O2
      | _ => .stk)
    | none => .stk) else .stk
noncomputable def dLc (o : Bool) (it : DI) (t : CT) (c : DT) (e : DE) : DE := fun ε O => match it ε O with
  | .val ds gd O1 => (lcGo gd t c e (wipeD ε t.ns) ds [] O1).toE fun xs O2 => mk o (.lst xs) O2
  | .exc x O1 => .exc x O1
  | .stk => .stk
/-- the target's reading -/
noncomputable def CT.g (K : PySem.W.Frag) : CT → TG
  | .one i => gName i
  | .tup is => gTupU K is.length (is.foldr (fun i u => gCons (gName i) u) gNil)
section
variable {k : Ct} {ρ : List Addr} {F : Hp} {O : Sto} {H : Hp} {y : Option Yx} {σ : L2.St} {ε : Env}
theorem wipe_rel (S : SloR k y ρ F σ ε) : ∀ vs : List Nat, SloR k y ρ F (wipe σ vs) (wipeD ε vs)
  | [] => S
  | v :: vs => (wipe_rel S vs).no v none
theorem wipe_set {σ : L2.St} {i : Nat} {o : Option V} : ∀ {vs : List Nat}, i ∈ vs → wipe (σ.set i o) vs = wipe σ vs
  | v :: vs, h => by
    unfold wipe
    by_cases hm : i ∈ vs
    · rw [wipe_set hm]
    · have hi : i = v := by
        rcases List.mem_cons.mp h with z | z
        · exact z
        · exact absurd z hm
      subst hi
      have : ∀ vs : List Nat, i ∉ vs → wipe (σ.set i o) vs = (wipe σ vs).set i o := by
        intro vs
        induction vs with
        | nil => intro _; rfl
        | cons w ws ih =>
          intro h
          unfold wipe
          rw [ih (fun z => h (List.mem_cons_of_mem _ z)), List.set_comm]
          exact fun z => h (by rw [z]; exact List.mem_cons_self)
      rw [this vs hm, List.set_set]
theorem setAll_go {Q : L2.St → Hp → Prop} {vs0 : List Nat} : ∀ {is : List Nat} {vs : List V} {xs : List D} {σ : L2.St} {ε : Env}, (∀ i ∈ is, i ∈ vs0) → SloR k y ρ F σ ε → Reps k ρ F vs xs → xs.length = is.length →
    (∀ σ', SloR k y ρ F σ' (setAll is xs ε) → wipe σ' vs0 = wipe σ vs0 → Q σ' H) → (is.foldr (fun i u => gCons (gName i) u) gNil) vs σ H Q
  | [], _, _, σ, ε, _, S, .nil, _, g => ⟨rfl, g σ S rfl⟩
  | i :: is, _, _, σ, ε, hm, S, .cons r rs, hl, g => by
    refine ⟨_, _, rfl, ?_⟩
    refine setAll_go (fun j hj => hm j (List.mem_cons_of_mem _ hj)) (S.set i r) rs (by simpa using hl) fun σ' S' w => g σ' S' ?_
    rw [w, wipe_set (hm i List.mem_cons_self)]
  | [], _, _, _, _, _, _, .cons _ _, hl, _ => by simp at hl
  | _ :: _, _, _, _, _, _, _, .nil, hl, _ => by simp at hl
theorem put_go {t : CT} {O : Sto} {v : V} {x : D} {ε1 : Env} {Q : L2.St → Hp → Prop} (R : Rel0 k ρ F O H) (ap : ∀ is, t = .tup is → _root_.R.Apart k.K H) (S : SloR k y ρ F σ ε) (r : Rep k ρ F v x) (h : t.put O x ε = some ε1)
    (g : ∀ σ', SloR k y ρ F σ' ε1 → wipe σ' t.ns = wipe σ t.ns → Q σ' H) : t.g k.K v σ H Q := by
  cases t with
  | one i =>
    cases h
    exact g _ (S.set i r) (wipe_set (by simp [CT.ns]))
  | tup is =>
    unfold CT.put at h
    simp only at h
    split at h
    · rename_i xs ex
      split at h
      · rename_i hl
        cases h
        have R' : Rel k ρ F O H := ⟨R, ap is rfl⟩
        obtain ⟨p, vs, rfl, h1, h2⟩ := see_tup R' r ex
        show gTupU k.K is.length _ (.ref p) σ H Q
        unfold gTupU
        simp only [h1]
        exact ⟨by rw [h2.length, hl], setAll_go (fun i hi => hi) S h2 hl g⟩
      · cases h
    · cases h
end
section
variable {X : Cx} {W : WX} {ad : String → Addr} {e : Expr} {it : DI} {t : CT} {c : DT} {el : DE} {y : Option Yx}
theorem lc_go {J : It} {ds : List D} {gd : Gd} {P : List Addr → Hp → Sto → Prop} {ρ F O H σ ε} {Q : VK} {o : Bool} (w : Wk ⟨X.K, X.w, ad⟩ J ds gd P) (R : Rel ⟨X.K, X.w, ad⟩ ρ F O H) (S : SloR ⟨X.K, X.w, ad⟩ y ρ F σ ε) (p : P ρ F O)
    (q : EP ⟨X.K, X.w, ad⟩ ρ F O H Q (fun c o H' => W c o σ H') ((lcGo gd t c el (wipeD ε t.ns) ds [] O).toE fun xs O2 => mk o (.lst xs) O2)) :
    LcGo J (fun v σ H G => _root_.R.Apart X.K H → t.g X.K v σ H G) (tT ⟨X.K, X.w, ad⟩ y W0 c) (apE X.K (tE ⟨X.K, X.w, ad⟩ y W0 el)) t.ns σ H (fun v H' => _root_.R.Apart X.K H' → Q v H') := by
  intro D hD
  obtain ⟨R1, T1⟩ := R.toRel0.side (u := .lst []) hD
  let I : Nat → Hp → Prop := fun i H' => ∃ ρ' F' O' acc vacc, Rel0 ⟨X.K, X.w, ad⟩ ρ' F' O' H' ∧ Tr ρ F O H ρ' F' O' H' ∧ SloR ⟨X.K, X.w, ad⟩ y ρ' F' σ ε ∧ (gdOk gd O' → P ρ' F' O') ∧ H' D = some (.lst vacc) ∧ Reps ⟨X.K, X.w, ad⟩ ρ' F' vacc acc ∧ F' D = none ∧ ¬ Liv ρ' O' D ∧
    EP ⟨X.K, X.w, ad⟩ ρ F O H Q (fun c o H' => W c o σ H') ((lcGo gd t c el (wipeD ε t.ns) (ds.drop i) acc O').toE fun xs O2 => mk o (.lst xs) O2)
  refine ⟨fun i m H' => m = ds.length - i ∧ i ≤ ds.length ∧ I i H', ⟨_, rfl, Nat.zero_le _, ρ, F, O, [], [], R1, T1, S, fun _ => p, upd_same, .nil, R.toRel0.F_none hD, R.toRel0.notLiv hD, by simpa using q⟩, ?_⟩
  rintro i m H' ⟨rfl, hi, ρ', F', O', acc, vacc, R', T', S', pp, hDl, racc, hFD, hLD, q'⟩
  by_cases hl : i < ds.length
  · right
    have hd : ds.drop i = ds[i] :: ds.drop (i + 1) := List.drop_eq_getElem_cons hl
    rw [hd] at q'
    unfold lcGo at q'
    split at q'
    · rename_i hg
      have p' := pp hg
      refine ⟨w.go R' p' hl, fun H' => i + 1 ≤ ds.length ∧ I (i + 1) H', fun H'' h => ⟨ds.length - (i + 1), by omega, rfl, h.1, h.2⟩, fun x H'' hy ap => ?_⟩
      obtain ⟨rfl, r⟩ := w.yld R' p' hy ds[i] (List.getElem?_eq_getElem hl)
      split at q'
      · rename_i ε1 hput
        refine put_go R' (fun _ _ => ap) (wipe_rel S' t.ns) r hput fun σ2 S2 hw => ?_
        have hww : wipe (wipe σ t.ns) t.ns = wipe σ t.ns := by
          have : ∀ vs us : List Nat, (∀ v ∈ vs, v ∈ us) → wipe (wipe σ vs) us = wipe σ us := by
            intro vs
            induction vs with
            | nil => intro us _; rfl
            | cons v vs ih =>
              intro us hm
              show wipe ((wipe σ vs).set v none) us = _
              rw [wipe_set (hm v List.mem_cons_self)]
              exact ih us fun v hv => hm v (List.mem_cons_of_mem _ hv)
          exact this _ _ fun _ h => h
        refine ⟨hw.trans hww, ?_⟩
        have RR : Rel ⟨X.K, X.w, ad⟩ ρ' F' O' H'' := ⟨R', ap⟩
        refine ⟨ρ', F', O', ε1, RR, S2, ?_⟩
        cases hc : c ε1 O' with
        | stk => rw [hc] at q'; exact q'.elim
        | exc x O2 => rw [hc] at q'; exact q'.elim
        | val b O2 =>
          intro ρ2 F2 H2 T2 R2
          rw [hc] at q'
          cases b with
          | false =>
            simp only [Bool.false_eq_true, if_false] at q' ⊢
            refine ⟨hl, ρ2, F2, O2, acc, vacc, R2.toRel0, T'.trans T2, S'.tr T2 R2, fun hg2 => w.mono RR T2 R2 p' hg2, T2.fr _ _ hDl ⟨hLD, fun _ z => nomatch z⟩, racc.tr T2 R2, ?_, ?_, q'⟩
            · cases e : F2 D with
              | none => rfl
              | some u => rcases T2.gr D hFD (by rw [e]; simp) with z | z
                          · rw [hDl] at z; cases z
                          · exact (hLD z).elim
            · exact fun l => hLD (T2.liv (by rw [hDl]; simp) l)
          | true =>
            simp only [if_true] at q' ⊢
            intro ap2
            refine ⟨ρ2, F2, O2, ε1, R2, S2.tr T2 R2, ?_⟩
            cases he : el ε1 O2 with
            | stk => rw [he] at q'; exact q'.elim
            | exc x O3 => rw [he] at q'; exact q'.elim
            | val z O3 =>
              intro ρ3 F3 H3 v T3 R3 rv ap3
              rw [he] at q'
              simp only at q'
              have hz : acc.length < sizeLine := by
                by_cases h : acc.length < sizeLine
                · exact h
                · rw [if_neg h] at q'; exact q'.elim
              rw [if_pos hz] at q'
              have TT := T2.trans T3
              have hD3 : H3 D = some (.lst vacc) := TT.fr _ _ hDl ⟨hLD, fun _ z => nomatch z⟩
              have hF3 : F3 D = none := by
                cases e : F3 D with
                | none => rfl
                | some u => rcases TT.gr D hFD (by rw [e]; simp) with z | z
                            · rw [hDl] at z; cases z
                            · exact (hLD z).elim
              have hL3 : ¬ Liv ρ3 O3 D := fun l => hLD (TT.liv (by rw [hDl]; simp) l)
              obtain ⟨R4, T4⟩ := R3.toRel0.beside (u := .lst (vacc ++ [v])) (T'.trans TT) hD hF3 hL3 (by rw [hD3]; simp)
              refine ⟨vacc, hD3, by rw [racc.length]; exact hz, hl, ρ3, F3, O3, acc ++ [z], vacc ++ [v], R4, T4, (S'.tr T2 R2).tr T3 R3, fun hg2 => w.mono RR TT R3 p' hg2, upd_same, (racc.tr TT R3).append (.cons rv .nil), hF3, hL3, q'⟩
      · exact q'.elim
    · exact q'.elim
  · left
    rw [List.drop_eq_nil_of_le (by omega)] at q'
    unfold lcGo at q'
    split at q'
    · rename_i hg
      refine ⟨w.stop R' (pp hg) (by omega), fun ap => ?_⟩
      have RR : Rel ⟨X.K, X.w, ad⟩ ρ' F' O' H' := ⟨R', ap⟩
      have up : upd H' D (.lst vacc) = H' := by
        funext b
        by_cases hb : b = D
        · rw [hb, upd_same, hDl]
        · rw [upd_ne hb]
      have q' : EP _ ρ F O H Q _ (mk o (.lst acc) O') := q'
      cases o with
      | true =>
        obtain ⟨R2, T2⟩ := adopt_open (u := .lst vacc) (o := .lst acc) T' RR hD hFD hLD (by rw [hDl]; simp) (by rw [hDl]; simp) ⟨vacc, upd_same, racc⟩
        rw [up] at R2 T2
        exact q' _ _ _ _ T2 R2 (.ref (by rw [List.getElem?_append_right (by rw [RR.len]; exact Nat.le_refl _)]; simp [RR.len]))
      | false =>
        obtain ⟨R2, T2⟩ := adopt_tree (u := .lst vacc) T' RR hD hFD hLD (by rw [hDl]; simp) (by rw [hDl]; simp)
        rw [up] at R2 T2
        exact q' _ _ _ _ T2 R2 (.lst upd_same (racc.mono (fun _ _ e => e) (fun a w e => by rw [upd_ne (ne_of_none e hFD)]; exact e) R2.apF))
    · exact q'.elim
end
end Mi

namespace Mi
open PySem PySem.Spec PyProof.Rows L2 R
section
variable {X : Cx} {W : WX} {ad : String → Addr} {e : Expr} {st : Stmt} {it : DI} {t : CT} {c : DT} {el : DE} {y : Option Yx}
theorem pd_yes : PTs X [] (tT ⟨X.K, X.w, ad⟩ y W dYes) := ⟨fun pins s σ H Q I ⟨ρ, F, O, ε, R, S, q⟩ => pts_nil.run pins s σ H Q I (q _ _ _ .refl R)⟩
theorem pgAp {t : TG} (h : PG X e t) : PG X e (fun v σ H G => _root_.R.Apart X.K H → t v σ H G) := ⟨fun pins s σ H v u Q I r q => h.run pins s σ H v u Q I r (q (inv_ap I))⟩
abbrev tLcD (k : Ct) (y : Option Yx) (W : WX) (K : PySem.W.Frag) (it : DI) (t : CT) (c : DT) (el : DE) : TE := tLcU (tI k y W it) (fun v σ H G => _root_.R.Apart K H → t.g K v σ H G) (tT k y W0 c) (apE K (tE k y W0 el)) t.ns
theorem lc_all {o : Bool} {σ : L2.St} {H : Hp} {Q : VK} (h : tE ⟨X.K, X.w, ad⟩ y W (dLc o it t c el) σ H Q) : tLcD ⟨X.K, X.w, ad⟩ y W X.K it t c el σ H (fun v H' => _root_.R.Apart X.K H' → Q v H') := by
  obtain ⟨ρ, F, O, ε, R, S, q⟩ := h
  refine ⟨ρ, F, O, ε, R, S, ?_⟩
  unfold dLc at q
  cases hi : it ε O with
  | stk => rw [hi] at q; exact q
  | exc x O1 => rw [hi] at q; exact q
  | val ds gd O1 =>
    rw [hi] at q
    intro ρ' F' H' J P T R' w p
    exact lc_go (ε := ε) w R' (S.tr T R') p (EP.tr T q)
theorem pd_lc {o : Bool} (h : PE X e (tLcD ⟨X.K, X.w, ad⟩ y W X.K it t c el)) : PE X e (tE ⟨X.K, X.w, ad⟩ y W (dLc o it t c el)) := peM h fun σ H Q q _ => lc_all q
theorem pd_setLc {o : Bool} {i : Nat} (h : PS X st (tAsg (tLcD ⟨X.K, X.w, ad⟩ y W X.K it t c el) (gName i))) : PS X st (tS ⟨X.K, X.w, ad⟩ y W (dAsg (dLc o it t c el) (gNm i))) := psM h fun D σ H ⟨ρ, F, O, ε, R, S, q⟩ _ =>
  lc_all (o := o) (Q := fun v H' => D.nx (σ.set i (some v)) H') ⟨ρ, F, O, ε, R, S, ep_toS S q fun x O1 ρ1 F1 H1 v T1 R1 r1 q1 => q1 _ _ _ _ .refl R1 ((S.tr T1 R1).set i r1)⟩
end
/-! ### methods of lists, texts, dicts -/
def RMt (K : PySem.W.Frag) (w : World) (r : V → List V → Hp → VK → Prop) (op : Sto → D → List D → ER) : Prop := ∀ (ad : String → Addr) (ρ : List Addr) (F : Hp) (O : Sto) (H : Hp) (a : V) (bs : List V) (x : D) (xs : List D) (Q : VK) (W : XK), Rel ⟨K, w, ad⟩ ρ F O H → Rep ⟨K, w, ad⟩ ρ F a x → Reps ⟨K, w, ad⟩ ρ F bs xs →
  EP ⟨K, w, ad⟩ ρ F O H Q W (op O x xs) → r a bs H (fun v H' => _root_.R.Apart K H' → Q v H')
def isL (x : D) : Bool := match x with
  | .lst _ => true
  | .kls _ => true
  | _ => false
def dML (op : Sto → D → List D → ER) (da : DE) (ds : DA) : DE := fun ε O => (da ε O).bind fun x O1 => if isL (vw O1 x) = true then (ds ε O1).toE fun xs O2 => op O2 x xs else .stk
def dMS (op : Sto → D → List D → ER) (da : DE) (ds : DA) : DE := fun ε O => (da ε O).bind fun x O1 => match x with
  | .str _ => (ds ε O1).toE fun xs O2 => op O2 x xs
  | _ => .stk
section
variable {X : Cx} {W : WX} {ad : String → Addr} {e : Expr} {y : Option Yx} {da db dc : DE} {ds : DA} {r : V → List V → Hp → VK → Prop} {op : Sto → D → List D → ER}
theorem pd_ml (hr : RMt X.K X.w r op) (h : PE X e (tML X.K r (tE ⟨X.K, X.w, ad⟩ y W da) (tA ⟨X.K, X.w, ad⟩ y W ds))) : PE X e (tE ⟨X.K, X.w, ad⟩ y W (dML op da ds)) := peM h fun σ H Q ⟨ρ, F, O, ε, R, S, q⟩ _ =>
  ⟨ρ, F, O, ε, R, S, ep_bind q fun x O1 ρ1 F1 H1 v T1 R1 r1 q1 => by
    by_cases hl : isL (vw O1 x) = true
    · rw [if_pos hl] at q1
      have : ∃ p vs, v = .ref p ∧ lstv X.K H1 p = some vs := by
        unfold isL at hl
        split at hl
        · rename_i ex; obtain ⟨p, vs, e, h1, _⟩ := see_lst R1 r1 ex; exact ⟨p, vs, e, lstv_of h1⟩
        · rename_i ex; obtain ⟨p, vs, e, h1, _⟩ := see_kls R1 r1 ex; exact ⟨p, vs, e, h1⟩
        · cases hl
      obtain ⟨p, vs, rfl, hp⟩ := this
      simp only [hp]
      exact ⟨ρ1, F1, O1, ε, R1, S.tr T1 R1, ap_toE q1 fun xs O2 ρ2 F2 H2 us T2 R2 r2 q2 => hr ad _ _ _ _ _ _ _ _ _ _ R2 (r1.tr T2 R2) r2 q2⟩
    · rw [if_neg hl] at q1; exact q1.elim⟩
theorem pd_ms (hr : RMt X.K X.w r op) (h : PE X e (tMS r (tE ⟨X.K, X.w, ad⟩ y W da) (tA ⟨X.K, X.w, ad⟩ y W ds))) : PE X e (tE ⟨X.K, X.w, ad⟩ y W (dMS op da ds)) := peM h fun σ H Q ⟨ρ, F, O, ε, R, S, q⟩ _ =>
  ⟨ρ, F, O, ε, R, S, ep_bind q fun x O1 ρ1 F1 H1 v T1 R1 r1 q1 => by
    split at q1
    · cases r1
      exact ⟨ρ1, F1, O1, ε, R1, S.tr T1 R1, ap_toE q1 fun xs O2 ρ2 F2 H2 us T2 R2 r2 q2 => hr ad _ _ _ _ _ _ _ _ _ _ R2 (.str _) r2 q2⟩
    · exact q1.elim⟩
/-- no argument -/
theorem pd_ml0 (hr : RMt X.K X.w r op) (h : PE X e (tML X.K r (tE ⟨X.K, X.w, ad⟩ y W da) tNil)) : PE X e (tE ⟨X.K, X.w, ad⟩ y W (dML op da dNil)) := peM h fun σ H Q ⟨ρ, F, O, ε, R, S, q⟩ _ =>
  ⟨ρ, F, O, ε, R, S, ep_bind q fun x O1 ρ1 F1 H1 v T1 R1 r1 q1 => by
    by_cases hl : isL (vw O1 x) = true
    · rw [if_pos hl] at q1
      have : ∃ p vs, v = .ref p ∧ lstv X.K H1 p = some vs := by
        unfold isL at hl
        split at hl
        · rename_i ex; obtain ⟨p, vs, e, h1, _⟩ := see_lst R1 r1 ex; exact ⟨p, vs, e, lstv_of h1⟩
        · rename_i ex; obtain ⟨p, vs, e, h1, _⟩ := see_kls R1 r1 ex; exact ⟨p, vs, e, h1⟩
        · cases hl
      obtain ⟨p, vs, rfl, hp⟩ := this
      simp only [hp]
      exact hr ad _ _ _ _ _ _ _ _ _ _ R1 r1 .nil q1
    · rw [if_neg hl] at q1; exact q1.elim⟩
theorem pd_ms0 (hr : RMt X.K X.w r op) (h : PE X e (tMS r (tE ⟨X.K, X.w, ad⟩ y W da) tNil)) : PE X e (tE ⟨X.K, X.w, ad⟩ y W (dMS op da dNil)) := peM h fun σ H Q ⟨ρ, F, O, ε, R, S, q⟩ _ =>
  ⟨ρ, F, O, ε, R, S, ep_bind q fun x O1 ρ1 F1 H1 v T1 R1 r1 q1 => by
    split at q1
    · cases r1
      exact hr ad _ _ _ _ _ _ _ _ _ _ R1 (.str _) .nil q1
    · exact q1.elim⟩
end
/-- a change of an open list -/
def chgL (O : Sto) (x : D) (f : List D → Option (List D × D)) : ER := match x with
  | .ref n => match O[n]? with
    | some (some (.lst xs)) => match f xs with
      | some (ys, d) => .val d (O.set n (some (.lst ys)))
      | none => .stk
    | _ => .stk
  | _ => .stk
section
variable {K : PySem.W.Frag} {w : World}
theorem chgL_ok {k : Ct} {ρ F O H} {a : V} {x : D} {f : List D → Option (List D × D)} {Q : VK} {W : XK} (R : Rel k ρ F O H) (r : Rep k ρ F a x) (q : EP k ρ F O H Q W (chgL O x f)) :
    ∃ p vs xs ys d, a = .ref p ∧ H p = some (.lst vs) ∧ Reps k ρ F vs xs ∧ f xs = some (ys, d) ∧ ∀ us v, Reps k ρ F us ys → Rep k ρ F v d → Q v (upd H p (.lst us)) := by
  unfold chgL at q
  split at q
  · rename_i n
    split at q
    · rename_i xs ho
      split at q
      · rename_i ys d hf
        obtain ⟨p, rfl, ha, vs, h1, h2⟩ := R.at r ho
        exact ⟨p, vs, xs, ys, d, rfl, h1, h2, hf, fun us v ru rv => put_val R ho ha (o' := .lst ys) ⟨us, upd_same, ru⟩ rv q⟩
      · exact q.elim
    · exact q.elim
  · exact q.elim
def mApp : Sto → D → List D → ER := fun O x xs => match xs with
  | [z] => chgL O x fun l => if l.length < sizeLine then some (l ++ [z], .non) else none
  | _ => .stk
theorem s_app : RMt K w rApp mApp := fun ad ρ F O H a bs x xs Q W R r rs q => by
  unfold mApp at q
  split at q
  · cases rs with
    | cons rz r0 =>
      cases r0
      obtain ⟨p, vs, xs, ys, d, rfl, h1, h2, hf, g⟩ := chgL_ok R r q
      split at hf
      · cases hf
        rw [rApp_lst h1]
        exact ⟨by rw [h2.length]; assumption, fun _ => g _ _ (h2.append (.cons rz .nil)) .non⟩
      · cases hf
  · exact q.elim
def mPop0 : Sto → D → List D → ER := fun O x xs => match xs with
  | [] => chgL O x fun l => match l[l.length - 1]? with
    | some z => some (l.dropLast, z)
    | none => none
  | _ => .stk
theorem s_pop0 : RMt K w rPopU mPop0 := fun ad ρ F O H a bs x xs Q W R r rs q => by
  unfold mPop0 at q
  split at q
  · cases rs
    obtain ⟨p, vs, xs, ys, d, rfl, h1, h2, hf, g⟩ := chgL_ok R r q
    split at hf
    · rename_i z hz
      cases hf
      obtain ⟨v, h3, h4⟩ := h2.get hz
      show rPopU (.ref p) [] H _
      unfold rPopU
      simp only [h1]
      rw [h2.length, h3]
      exact fun _ => g _ _ h2.dropLast h4
    · cases hf
  · exact q.elim
def mPop1 : Sto → D → List D → ER := fun O x xs => match xs with
  | [.int i] => if -(2 ^ 63) ≤ i ∧ i < 2 ^ 63 then chgL O x fun l => match seqIndex? i l.length with
    | some j => match l[j]? with
      | some z => some (l.eraseIdx j, z)
      | none => none
    | none => none else .stk
  | _ => .stk
theorem s_pop1 : RMt K w rPopA mPop1 := fun ad ρ F O H a bs x xs Q W R r rs q => by
  unfold mPop1 at q
  split at q
  · cases rs with
    | cons rz r0 =>
      cases r0
      cases rz
      split at q
      · rename_i hb
        obtain ⟨p, vs, xs, ys, d, rfl, h1, h2, hf, g⟩ := chgL_ok R r q
        split at hf
        · rename_i j hj
          split at hf
          · rename_i z hz
            cases hf
            obtain ⟨v, h3, h4⟩ := h2.get hz
            rename_i i _ _ _
            show rPopA (.ref p) [.int _] H _
            unfold rPopA
            simp only [h1]
            refine ⟨hb.1, hb.2, ?_⟩
            rw [h2.length, hj]
            simp only [h3]
            exact fun _ => g _ _ (h2.erase j) h4
          · cases hf
        · cases hf
      · exact q.elim
  · exact q.elim
def mExt : Sto → D → List D → ER := fun O x xs => match xs with
  | [z] => match vw O z with
    | .lst ys => chgL O x fun l => if l.length + ys.length ≤ sizeLine then some (l ++ ys, .non) else none
    | _ => .stk
  | _ => .stk
theorem s_ext : RMt K w rExtU mExt := fun ad ρ F O H a bs x xs Q W R r rs q => by
  unfold mExt at q
  split at q
  · cases rs with
    | cons rz r0 =>
      cases r0
      split at q
      · rename_i ys ez
        obtain ⟨pz, vz, rfl, hz1, hz2⟩ := see_lst R rz ez
        obtain ⟨p, vs, xs, ys, d, rfl, h1, h2, hf, g⟩ := chgL_ok R r q
        split at hf
        · cases hf
          show rExtU (.ref p) [.ref pz] H _
          unfold rExtU
          simp only [h1, hz1]
          exact ⟨by rw [h2.length, hz2.length]; assumption, fun _ => g _ _ (h2.append hz2) .non⟩
        · cases hf
      · exact q.elim
  · exact q.elim
def mRev : Sto → D → List D → ER := fun O x xs => match xs with
  | [] => chgL O x fun l => some (l.reverse, .non)
  | _ => .stk
theorem s_rev : RMt K w rRevU mRev := fun ad ρ F O H a bs x xs Q W R r rs q => by
  unfold mRev at q
  split at q
  · cases rs
    obtain ⟨p, vs, xs, ys, d, rfl, h1, h2, hf, g⟩ := chgL_ok R r q
    cases hf
    show rRevU (.ref p) [] H _
    unfold rRevU
    simp only [h1]
    exact fun _ => g _ _ h2.reverse .non
  · exact q.elim
def mIns : Sto → D → List D → ER := fun O x xs => match xs with
  | [.int i, z] => if 0 ≤ i ∧ i < 2 ^ 63 then chgL O x fun l => if l.length < sizeLine then some (l.take i.toNat ++ [z] ++ l.drop i.toNat, .non) else none else .stk
  | _ => .stk
theorem s_ins : RMt K w rInsU mIns := fun ad ρ F O H a bs x xs Q W R r rs q => by
  unfold mIns at q
  split at q
  · cases rs with
    | cons ri r0 => cases r0 with
      | cons rz r0 =>
        cases r0
        cases ri
        split at q
        · rename_i hb
          obtain ⟨p, vs, xs, ys, d, rfl, h1, h2, hf, g⟩ := chgL_ok R r q
          split at hf
          · cases hf
            show rInsU (.ref p) [.int _, _] H _
            unfold rInsU
            simp only [h1]
            exact ⟨by rw [h2.length]; assumption, hb.1, hb.2, fun _ => g _ _ (((h2.take _).append (.cons rz .nil)).append (h2.drop _)) .non⟩
          · cases hf
        · exact q.elim
  · exact q.elim
/-- texts -/
def mS0 (f : Str → Option D) : Sto → D → List D → ER := fun O x xs => match x, xs with
  | .str a, [] => match f a with
    | some d => .val d O
    | none => .stk
  | _, _ => .stk
def mS1 (f : Str → Str → Option D) : Sto → D → List D → ER := fun O x xs => match x, xs with
  | .str a, [.str b] => match f a b with
    | some d => .val d O
    | none => .stk
  | _, _ => .stk
theorem s_S0 {r : V → List V → Hp → VK → Prop} {f : Str → Option D} (h : ∀ a d k ρ F H Q, f a = some d → (∀ v, Rep k ρ F v d → Q v H) → r (.str a) [] H Q) : RMt K w r (mS0 f) := fun ad ρ F O H a bs x xs Q W R r' rs q => by
  unfold mS0 at q
  split at q
  · cases rs
    cases r'
    split at q
    · exact h _ _ ⟨K, w, ad⟩ ρ F _ _ ‹_› fun v rv _ => val_ok R rv q
    · exact q.elim
  · exact q.elim
theorem s_S1 {r : V → List V → Hp → VK → Prop} {f : Str → Str → Option D} (h : ∀ a b d k ρ F H Q, f a b = some d → (∀ v, Rep k ρ F v d → Q v H) → r (.str a) [.str b] H Q) : RMt K w r (mS1 f) := fun ad ρ F O H a bs x xs Q W R r' rs q => by
  unfold mS1 at q
  split at q
  · cases rs with
    | cons rz r0 =>
      cases r0
      cases r'
      cases rz
      split at q
      · exact h _ _ _ ⟨K, w, ad⟩ ρ F _ _ ‹_› fun v rv _ => val_ok R rv q
      · exact q.elim
  · exact q.elim
def fStarts : Str → Str → Option D := fun a b => some (.bl (Txt.startswith a b))
theorem s_starts : RMt K w rStarts (mS1 fStarts) := s_S1 fun a b d k ρ F H Q e g => by cases e; exact g _ (.bl _)
def fLow : Str → Option D := fun a => if a.length ≤ 5592405 then some (.str (Txt.lower a)) else none
theorem s_low : RMt K w rLowU (mS0 fLow) := s_S0 fun a d k ρ F H Q e g => by
  unfold fLow at e; split at e
  · cases e; exact ⟨‹_›, g _ (.str _)⟩
  · cases e
def fUpp : Str → Option D := fun a => if a.length ≤ 5592405 then some (.str (Txt.upper a)) else none
theorem s_upp : RMt K w rUppU (mS0 fUpp) := s_S0 fun a d k ρ F H Q e g => by
  unfold fUpp at e; split at e
  · cases e; exact ⟨‹_›, g _ (.str _)⟩
  · cases e
def fDig : Str → Option D := fun a => some (.bl (Txt.isdigit a))
theorem s_dig : RMt K w rDigU (mS0 fDig) := s_S0 fun a d k ρ F H Q e g => by cases e; exact g _ (.bl _)
def fSidx : Str → Str → Option D := fun a b => match Builtin.Str.occurrences a b 0 a.length 1 with
  | i :: _ => some (.int (i : Nat))
  | [] => none
theorem s_sidx : RMt K w rSidx (mS1 fSidx) := s_S1 fun a b d k ρ F H Q e g => by
  rw [rSidx_str]
  unfold fSidx at e
  split at e
  · rename_i e1; cases e; first | exact g _ (.int _) | (rw [e1]; exact g _ (.int _))
  · cases e
/-- all texts -/
def strsD : List D → Option (List Str)
  | [] => some []
  | .str s :: ds => (strsD ds).map (s :: ·)
  | _ :: _ => none
theorem strsD_ok {k : Ct} {ρ F} : ∀ {vs : List V} {ds : List D} {ss : List Str}, Reps k ρ F vs ds → strsD ds = some ss → vs = ss.map V.str
  | _, _, _, .nil, h => by simp [strsD] at h; subst h; rfl
  | _, _, ss, .cons (d := d) r rs, h => by
    cases r <;> simp [strsD] at h
    obtain ⟨t, h1, rfl⟩ := h
    rw [strsD_ok rs h1]; rfl
def mJoin : Sto → D → List D → ER := fun O x xs => match x, xs with
  | .str a, [z] => match (match vw O z with
      | .lst l => strsD l
      | .tup l => strsD l
      | _ => none) with
    | some ys => if (ys.map (·.length)).sum + ys.length * a.length ≤ 16777216 then .val (.str (Txt.join a ys)) O else .stk
    | none => .stk
  | _, _ => .stk
theorem s_join : RMt K w (rJoin K) mJoin := fun ad ρ F O H a bs x xs Q W R r rs q => by
  unfold mJoin at q
  split at q
  · cases rs with
    | cons rz r0 =>
      cases r0
      cases r
      split at q
      · rename_i ys e
        split at q
        · rename_i hz
          split at e
          · rename_i ez
            obtain ⟨pz, vz, rfl, hz1, hz2⟩ := see_lst R rz ez
            have := strsD_ok hz2 e
            subst this
            exact rJoin_lst (lstv_of hz1) hz fun _ => val_ok R (.str _) q
          · rename_i ez
            obtain ⟨pz, vz, rfl, hz1, hz2⟩ := see_tup R rz ez
            have := strsD_ok hz2 e
            subst this
            unfold rJoin
            have hz1 : tupv K H pz = some _ := hz1
            simp only [sqv_tup hz1]
            exact ⟨ys, rfl, hz, fun _ => val_ok R (.str _) q⟩
          · cases e
        · exact q.elim
      · exact q.elim
  · exact q.elim
def mSplit (o : Bool) : Sto → D → List D → ER := fun O x xs => match x, xs with
  | .str a, [.str b] => if (b.length == 0) = false ∧ a.length + 2 ≤ sizeLine then mk o (.lst ((Txt.split a b).map D.str)) O else .stk
  | _, _ => .stk
theorem strs_reps {k : Ct} {ρ F} : ∀ ss : List Str, Reps k ρ F (ss.map V.str) (ss.map D.str)
  | [] => .nil
  | s :: ss => .cons (.str s) (strs_reps ss)
theorem s_split {o : Bool} : RMt K w rSplitU (mSplit o) := fun ad ρ F O H a bs x xs Q W R r rs q => by
  unfold mSplit at q
  split at q
  · cases rs with
    | cons rz r0 =>
      cases r0
      cases r
      cases rz
      split at q
      · rename_i h
        exact ⟨h.1, h.2, fun p hp ap => mk_lst R (strs_reps _) hp ap q⟩
      · exact q.elim
  · exact q.elim
/-- l.index(x) -/
def idxD (x : D) : List D → Option Nat
  | [] => none
  | y :: ys => if feq y x then some 0 else (idxD x ys).map (· + 1)
theorem idxD_ok {x : D} : ∀ {ys : List D} {j : Nat}, idxD x ys = some j → (∃ z, ys[j]? = some z ∧ feq z x = true) ∧ ∀ m z', m < j → ys[m]? = some z' → feq z' x = false
  | [], _, h => by simp [idxD] at h
  | y :: ys, j, h => by
    unfold idxD at h
    split at h
    · cases h
      exact ⟨⟨y, rfl, ‹_›⟩, fun m z' hm => by omega⟩
    · rename_i hf
      cases hi : idxD x ys with
      | none => rw [hi] at h; cases h
      | some i =>
        rw [hi] at h; simp only [Option.map_some, Option.some.injEq] at h; subst h
        obtain ⟨⟨z, h1, h2⟩, h3⟩ := idxD_ok hi
        refine ⟨⟨z, by simpa using h1, h2⟩, fun m z' hm hz => ?_⟩
        cases m with
        | zero => simp at hz; subst hz; simpa using hf
        | succ m => exact h3 m z' (by omega) (by simpa using hz)
def mIdx : Sto → D → List D → ER := fun O x xs => match xs with
  | [z] => match vw O x with
    | .lst ys => if flatD z && ys.all flatD then (match idxD z ys with
      | some j => .val (.int (j : Nat)) O
      | none => .stk) else .stk
    | _ => .stk
  | _ => .stk
theorem s_idx : RMt K w (rIndexU K) mIdx := fun ad ρ F O H a bs x xs Q W R r rs q => by
  unfold mIdx at q
  split at q
  · cases rs with
    | cons rz r0 =>
      cases r0
      split at q
      · rename_i ys ey
        obtain ⟨p, vs, rfl, h1, h2⟩ := see_lst R r ey
        split at q
        · rename_i hf
          rw [Bool.and_eq_true] at hf
          split at q
          · rename_i j hj
            obtain ⟨⟨z', hz, hzz⟩, hno⟩ := idxD_ok hj
            obtain ⟨v, h3, h4⟩ := h2.get hz
            have fl : ∀ m d, ys[m]? = some d → flatD d = true := fun m d e => List.all_eq_true.mp hf.2 d (List.mem_of_getElem? e)
            show rIndexU K (.ref p) [_] H _
            unfold rIndexU
            simp only [lstv_of h1]
            refine ⟨j, v, flat_ok rz hf.1, flats_ok h2 hf.2, h3, by rw [feq_ok h4 rz (fl _ _ hz) hf.1]; exact hzz, fun m z2 hm he => ?_, fun _ => val_ok R (.int _) q⟩
            obtain ⟨d, h5, h6⟩ := h2.getV he
            rw [feq_ok h6 rz (fl _ _ h5) hf.1]
            exact hno m d hm h5
          · exact q.elim
        · exact q.elim
      · exact q.elim
  · exact q.elim
end
/-! ### d.get -/
def isDi (x : D) : Bool := match x with
  | .dic _ => true
  | .dtt _ => true
  | _ => false
def getD (O : Sto) (x z : D) (dfl : D) : ER := match vw O x with
  | .dic kvs => match keyD z with
    | some key => .val ((valD kvs key).getD dfl) O
    | none => .stk
  | .dtt kvs => match z with
    | .tup xs => match keysD xs with
      | some key => .val ((valD kvs key).getD dfl) O
      | none => .stk
    | _ => .stk
  | _ => .stk
def dGet1 (da db : DE) : DE := fun ε O => (da ε O).bind fun x O1 => if isDi (vw O1 x) = true then (db ε O1).bind fun z O2 => getD O2 x z .non else .stk
def dGet2 (da db dc : DE) : DE := fun ε O => (da ε O).bind fun x O1 => if isDi (vw O1 x) = true then (db ε O1).bind fun z O2 => (dc ε O2).bind fun u O3 => getD O3 x z u else .stk
section
variable {X : Cx} {W : WX} {ad : String → Addr} {e : Expr} {y : Option Yx} {da db dc : DE}
theorem isDi_ok {k : Ct} {ρ F O H} {a : V} {x : D} (R : Rel k ρ F O H) (r : Rep k ρ F a x) (h : isDi (vw O x) = true) : ∃ p, a = .ref p ∧ IsD H p := by
  unfold isDi at h
  split at h
  · rename_i e; obtain ⟨p, vs, rfl, h1, _⟩ := see_dic R r e; exact ⟨p, rfl, .inl ⟨_, h1⟩⟩
  · rename_i e; obtain ⟨p, vs, rfl, h1, _⟩ := see_dtt R r e; exact ⟨p, rfl, .inr ⟨_, h1⟩⟩
  · cases h
theorem getD_ok {k : Ct} {ρ F O H} {p : Addr} {b c : V} {x z u : D} {Q : VK} {W : XK} (R : Rel k ρ F O H) (r : Rep k ρ F (.ref p) x) (rz : Rep k ρ F b z) (ru : Rep k ρ F c u) (q : EP k ρ F O H Q W (getD O x z u)) : ∃ o, DGet H p b o ∧ Q (o.getD c) H := by
  unfold getD at q
  split at q
  · rename_i kvs ex
    split at q
    · rename_i key hk
      obtain rfl := keyD_ok rz hk
      obtain ⟨p', vs, e, h1, h2, h3⟩ := see_dic R r ex
      cases e
      refine ⟨valV vs key, .inl ⟨vs, key, h1, rfl, rfl⟩, ?_⟩
      rcases KR.val ⟨h2, h3⟩ key with ⟨e1, e2⟩ | ⟨v, d', e1, e2, r'⟩
      · rw [e1]; rw [e2] at q; exact val_ok R ru q
      · rw [e1]; rw [e2] at q; exact val_ok R r' q
    · exact q.elim
  · rename_i kvs ex
    split at q
    · split at q
      · rename_i key hk
        obtain ⟨pb, rfl, hb⟩ := key_tup R rz hk
        obtain ⟨p', vs, e, h1, h2, h3⟩ := see_dtt R r ex
        cases e
        refine ⟨valV vs key, .inr ⟨vs, key, pb, h1, rfl, hb, rfl⟩, ?_⟩
        rcases KR.val ⟨h2, h3⟩ key with ⟨e1, e2⟩ | ⟨v, d', e1, e2, r'⟩
        · rw [e1]; rw [e2] at q; exact val_ok R ru q
        · rw [e1]; rw [e2] at q; exact val_ok R r' q
      · exact q.elim
    · exact q.elim
  · exact q.elim
theorem pd_get1 (h : PE X e (tDGet1 (tE ⟨X.K, X.w, ad⟩ y W da) (tE ⟨X.K, X.w, ad⟩ y W db))) : PE X e (tE ⟨X.K, X.w, ad⟩ y W (dGet1 da db)) := peImp h fun σ H Q ⟨ρ, F, O, ε, R, S, q⟩ =>
  ⟨ρ, F, O, ε, R, S, ep_bind q fun x O1 ρ1 F1 H1 v T1 R1 r1 q1 => by
    by_cases hl : isDi (vw O1 x) = true
    · rw [if_pos hl] at q1
      obtain ⟨p, rfl, hp⟩ := isDi_ok R1 r1 hl
      exact ⟨p, rfl, hp, ρ1, F1, O1, ε, R1, S.tr T1 R1, ep_bind q1 fun z O2 ρ2 F2 H2 u T2 R2 r2 q2 => getD_ok R2 (r1.tr T2 R2) r2 .non q2⟩
    · rw [if_neg hl] at q1; exact q1.elim⟩
theorem pd_get2 (h : PE X e (tDGet2 (tE ⟨X.K, X.w, ad⟩ y W da) (tE ⟨X.K, X.w, ad⟩ y W db) (tE ⟨X.K, X.w, ad⟩ y W dc))) : PE X e (tE ⟨X.K, X.w, ad⟩ y W (dGet2 da db dc)) := peImp h fun σ H Q ⟨ρ, F, O, ε, R, S, q⟩ =>
  ⟨ρ, F, O, ε, R, S, ep_bind q fun x O1 ρ1 F1 H1 v T1 R1 r1 q1 => by
    by_cases hl : isDi (vw O1 x) = true
    · rw [if_pos hl] at q1
      obtain ⟨p, rfl, hp⟩ := isDi_ok R1 r1 hl
      exact ⟨p, rfl, hp, ρ1, F1, O1, ε, R1, S.tr T1 R1, ep_bind q1 fun z O2 ρ2 F2 H2 u T2 R2 r2 q2 => ⟨ρ2, F2, O2, ε, R2, (S.tr T1 R1).tr T2 R2, ep_bind q2 fun t O3 ρ3 F3 H3 u3 T3 R3 r3 q3 => getD_ok R3 ((r1.tr T2 R2).tr T3 R3) (r2.tr T3 R3) r3 q3⟩⟩
    · rw [if_neg hl] at q1; exact q1.elim⟩
end
end Mi

namespace Mi
open PySem PySem.Spec PyProof.Rows L2 R
/-! ### a box is closed: a tree from now on -/
def dFrz (i : Nat) : DS := fun ε O => match ε[i]? with
  | some (.v (.ref n)) => match O[n]? with
    | some (some (.lst xs)) => .nx (ε.set i (.v (.lst xs))) (O.set n none)
    | some (some (.dic xs)) => .nx (ε.set i (.v (.dic xs))) (O.set n none)
    | some (some (.dtt xs)) => .nx (ε.set i (.v (.dtt xs))) (O.set n none)
    | some (some (.ins c xs)) => .nx (ε.set i (.v (.ins c xs))) (O.set n none)
    | _ => .stk
  | _ => .nx ε O
section
variable {k : Ct} {ρ : List Addr} {F : Hp} {O : Sto} {H : Hp}
/-- an open dict is locked for ever -/
theorem Rel.lockK {n : Nat} {a : Addr} {o : Ob} {u : HO} {κ : Type} {vs : List (κ × V)} {xs : List (κ × D)} (R : Rel k ρ F O H) (hn : O[n]? = some (some o)) (ha : ρ[n]? = some a) (hu : H a = some u) (h1 : vs.map (·.1) = xs.map (·.1)) (h2 : Reps k ρ F (vs.map (·.2)) (xs.map (·.2))) (od : Obj) :
    Rel k ρ (upd F a (.frz od u)) (O.set n none) (upd H a (.frz od u)) ∧ Tr ρ F O H ρ (upd F a (.frz od u)) (O.set n none) (upd H a (.frz od u)) := by
  obtain ⟨fa, ra⟩ := R.ob n a o hn ha
  have hh := ra.here
  have ff : ∀ b w, F b = some w → upd F a (.frz od u) b = some w := fun b w e => by rw [upd_ne (ne_of_none e fa)]; exact e
  have apH := ap_put (u := .frz od u) R.ap hh
  have apF : _root_.R.Apart k.K (upd F a (.frz od u)) := fun b w e => by
    by_cases hb : b = a
    · subst hb; have := R.ap b w e; rw [hu] at this; cases this
    · rw [upd_ne hb]; exact R.apF b w e
  refine ⟨⟨⟨fun b w e => ?_, by simp [R.len], fun m b o2 h1 h2 => ?_, fun m1 m2 b o1 o2 h1 h2 h3 h4 => ?_, (R.tb.putF ra.nt).put ra.nt⟩, apH⟩, ⟨⟨[], by simp, by simp⟩, ff, fun m o2 _ e => ?_, fun b w e nl => ?_, fun b e e' => ?_, fun b e => ?_⟩⟩
  · by_cases hb : b = a
    · subst hb; rw [upd_same] at e ⊢; exact e
    · rw [upd_ne hb] at e ⊢; exact R.fr b w e
  · rcases set_get h1 with ⟨rfl, z⟩ | ⟨ne, z⟩
    · cases z
    · have ne2 : b ≠ a := fun e => ne (R.inj m n a o2 o z hn (e ▸ h2) ha)
      exact ⟨by rw [upd_ne ne2]; exact (R.ob m b o2 z h2).1, ((R.ob m b o2 z h2).2.ne ne2).mono (fun _ _ e => e) ff apF⟩
  · rcases set_get h1 with ⟨rfl, z⟩ | ⟨ne, z⟩
    · cases z
    · rcases set_get h2 with ⟨rfl, z2⟩ | ⟨ne2, z2⟩
      · cases z2
      · exact R.inj m1 m2 b o1 o2 z z2 h3 h4
  · rcases set_get e with ⟨rfl, z⟩ | ⟨ne, z⟩
    · cases z
    · exact ⟨o2, z⟩
  · rw [upd_ne (fun z => nl.1 ⟨n, o, hn, by rw [ha, z]⟩)]; exact e
  · by_cases hb : b = a
    · exact .inr ⟨n, o, hn, by rw [ha, hb]⟩
    · rw [upd_ne hb] at e'; exact absurd e e'
  · by_cases hb : b = a
    · rw [hb, upd_same]; simp
    · rw [upd_ne hb]; exact e
end
section
variable {X : Cx} {W : WX} {ad : String → Addr} {st : Stmt} {y : Option Yx} {d : DS} {i : Nat}
theorem psLk {t : TS} (h : PS X st t) : PS X st (fun D σ H => (∃ p u, H p = some u ∧ Mut (some u) ∧ ∀ od, t D σ (upd H p (.frz od u))) ∨ t D σ H) := ⟨fun pins s σ H D I q => by
  rcases q with ⟨p, u, e, mu, q⟩ | q
  · obtain ⟨od, I2⟩ := I.lock e mu
    exact h.run pins s σ _ D I2 (q od)
  · exact h.run pins s σ H D I q⟩
theorem set_self {σ : L2.St} {i : Nat} {v : V} (h : σ[i]? = some (some v)) : σ.set i (some v) = σ := by
  apply List.ext_getElem?
  intro j
  by_cases hj : i = j
  · subst hj
    rw [h, List.getElem?_set_self (List.getElem?_eq_some_iff.mp h).1]
  · rw [List.getElem?_set_ne hj]
theorem pd_frz (h : PS X st (tS ⟨X.K, X.w, ad⟩ y W d)) : PS X st (tS ⟨X.K, X.w, ad⟩ y W (dSeq (dFrz i) d)) := psImp (psLk h) fun D σ H ⟨ρ, F, O, ε, R, S, q⟩ => by
  unfold dSeq dFrz at q
  split at q
  · rename_i n e
    obtain ⟨v, h1, r⟩ := (S.2 i).1 _ e
    split at q
    · rename_i xs ho
      obtain ⟨a, rfl, ha, vs, b1, b2⟩ := R.at r ho
      obtain ⟨R', T⟩ := R.kill ho ha b1
      refine .inr ⟨ρ, _, _, _, R', ?_, SP.tr T q⟩
      have := (S.tr T R').set i (v := .ref a) (d := .lst xs) (.lst upd_same (b2.tr T R'))
      rwa [set_self h1] at this
    · rename_i xs ho
      obtain ⟨a, rfl, ha, vs, b1, b2, b3⟩ := R.at r ho
      refine .inl ⟨a, _, b1, True.intro, fun od => ?_⟩
      obtain ⟨R1, T1⟩ := R.lockK ho ha b1 b2 b3 od
      refine ⟨ρ, _, _, _, R1, ?_, SP.tr T1 q⟩
      have := (S.tr T1 R1).set i (v := .ref a) (d := .dic xs) (.dic (by unfold lkv; rw [upd_same]) b2 (b3.tr T1 R1))
      rwa [set_self h1] at this
    · rename_i xs ho
      obtain ⟨a, rfl, ha, vs, b1, b2, b3⟩ := R.at r ho
      refine .inl ⟨a, _, b1, True.intro, fun od => ?_⟩
      obtain ⟨R1, T1⟩ := R.lockK ho ha b1 b2 b3 od
      refine ⟨ρ, _, _, _, R1, ?_, SP.tr T1 q⟩
      have := (S.tr T1 R1).set i (v := .ref a) (d := .dtt xs) (.dtt (by unfold ltv; rw [upd_same]) b2 (b3.tr T1 R1))
      rwa [set_self h1] at this
    · rename_i c xs ho
      obtain ⟨a, rfl, ha, dx, vs, b1, b2, b3⟩ := R.at r ho
      obtain ⟨R', T⟩ := R.kill ho ha b1
      refine .inr ⟨ρ, _, _, _, R', ?_, SP.tr T q⟩
      have := (S.tr T R').set i (v := .ref a) (d := .ins c xs) (.ins upd_same b2 (b3.tr T R'))
      rwa [set_self h1] at this
    · exact q.elim
  · exact .inr ⟨ρ, F, O, ε, R, S, q⟩
end
end Mi

namespace Mi
open PySem PySem.Spec PyProof.Rows L2 R
theorem r1 {k : Nat} {A : Around} (r : Room k A) : A.units + 1 < cLine := by have := r.un; omega
theorem r64 {k : Nat} {A : Around} (r : Room k A) : A.units + 64 < cLine := by have := r.un; omega
theorem r65 {k : Nat} {A : Around} (r : Room k A) : A.units + 65 < cLine := by have := r.un; omega
section
variable {K : PySem.W.Frag} {w : World}
def oSub := oI fun i j => .int (i - j)
noncomputable def oFdiv := oIC CD fun i j => .int (i / j)
noncomputable def oMod := oIC (fun _ j => 0 < j) fun i j => .int (i % j)
noncomputable def oShl := oIC CS fun i j => .int (i * 2 ^ j.toNat)
noncomputable def oShr := oIC (fun _ j => 0 ≤ j) fun i j => .int (i / 2 ^ j.toNat)
def oXor := oI fun i j => .int (Builtin.bitXor i j)
def oAndB := oI fun i j => .int (Builtin.bitAnd i j)
def oOrB := oI fun i j => .int (Builtin.bitOr i j)
noncomputable def oPow := oIC CPow fun i j => .int (i ^ j.toNat)
theorem s_sub : ROp K w rSubI oSub := s_I fun _ _ _ _ _ => .int _
theorem s_fdiv : ROp K w rFdiv oFdiv := s_IC fun _ _ _ _ _ => .int _
theorem s_mod : ROp K w rMod oMod := s_IC fun _ _ _ _ _ => .int _
theorem s_shl : ROp K w rShl oShl := s_IC fun _ _ _ _ _ => .int _
theorem s_shr : ROp K w rShr oShr := s_IC fun _ _ _ _ _ => .int _
theorem s_xor : ROp K w rXor oXor := s_I fun _ _ _ _ _ => .int _
theorem s_andB : ROp K w rAndB oAndB := s_I fun _ _ _ _ _ => .int _
theorem s_orB : ROp K w rOrB oOrB := s_I fun _ _ _ _ _ => .int _
theorem s_pow : ROp K w rPow oPow := s_IC fun _ _ _ _ _ => .int _
def oIadd : Sto → D → D → ER := fun O x y => match x, y with
  | .int i, .int j => .val (.int (i + j)) O
  | .str a, .str b => if a.length + b.length ≤ sizeLine then .val (.str (a ++ b)) O else .stk
  | _, _ => .stk
theorem s_iadd : ROp K w rIaddU oIadd := fun ad ρ F O H a b x y Q W R rx ry q => by
  unfold oIadd at q
  split at q
  · cases rx; cases ry; exact fun _ => val_ok R (.int _) q
  · cases rx; cases ry
    split at q
    · exact ⟨‹_›, fun _ => val_ok R (.str _) q⟩
    · exact q.elim
  · exact q.elim
end
theorem kr_kdc {k : Ct} {a : Addr} {vs : List (Str × V)} {ds : List (Str × D)} (h : KdV k.K k.w a vs) (e : vs.map (·.1) = ds.map (·.1)) (r : ∀ ρ F, _root_.R.Apart k.K F → Reps k ρ F (vs.map (·.2)) (ds.map (·.2))) : KRep k (.ref a) (.kdc ds) := fun ρ F ap => .kdc h e (r ρ F ap)
/-- a call without arguments -/
theorem pe_fnW0 {X : Cx} {W : WX} {k : Nat} {x : Str} {ps : List Str} {sp : Sp} {p pos : Pos} (F : FnE X.prog X.w X.K X.mg X.base (L2.CX X.prog X.w) x k ps sp) (hr : Room k X.A) (hg : Gl X x) (tk : Takes X W)
    (hdb : (x == ("__debug__" : Str)) = false := by decide) : PE X (.Call (.Name x p) [] [] pos) (tCallW sp W tNil) := by
  obtain ⟨f, fd, h1, h2, h3, h4⟩ := F.ex
  refine ⟨fun pins s σ H Q I h => ?_⟩
  refine wpAny_Call_Name_kw (ld_glob I hg h1 ?_ hdb)
  exact PySem.W.callWith_K0 I.kIn h2 (run_fnSD (us := []) (dvs := []) (E := fun σ => WE W σ) h4 hr h3 .nil (passAt tk σ) I .nil h)
theorem spLaw_len {K : PySem.W.Frag} : ∀ vs H Q E, spLaw K vs H Q E → vs.length = 1 := fun vs H Q E ⟨a, ns, e, _⟩ => by rw [e]; rfl
theorem ints_reps {k : Ct} {ρ F} : ∀ ns : List Int, Reps k ρ F (ns.map V.int) (ns.map D.int)
  | [] => .nil
  | n :: ns => .cons (.int n) (ints_reps ns)
/-- the law's own def -/
theorem law_ok {k : Ct} {b : DS} {N : List Str} {vs : List V} {H : Hp} {Q : VK} {E : XK} (hm : ∀ ns : List Int, ns.length ≤ 63 → runF b N.length [.kls (ns.map D.int)] = .ok (.bl true)) (h : spLaw k.K vs H Q E) (tb : TabH k (fun _ => none) H) :
    tAp k.K (tS k none W0 b) { nx := fun _ H' => Q .non H', rt := Q } (L2.start N vs) H := by
  intro ap
  obtain ⟨a, ns, rfl, h1, h2, q⟩ := h
  let F : Hp := fun c => if c = a then H a else none
  have hF : InH F H := fun c u e => by
    by_cases hc : c = a
    · subst hc; simpa [F] using e
    · simp [F, hc] at e
  have tb : TabH k F H := fun i hi => by
    obtain ⟨_, ps, e, q⟩ := tb i hi
    refine ⟨?_, ps, e, q⟩
    by_cases z : k.ad ("#tab" ++ toString i) = a
    · rw [z] at e
      unfold lstv at h1
      rw [e] at h1
      cases h1
    · exact if_neg z
  have R : Rel k [] F [] H := ⟨⟨hF, rfl, fun n a o h _ => by simp at h, fun n m a o o' h => by simp at h, tb⟩, ap⟩
  have hl : lstv k.K F a = some (ns.map V.int) := by
    unfold lstv at h1 ⊢
    simpa [F] using h1
  have r : Reps k [] F [.ref a] [.kls (ns.map D.int)] := .cons (.kls hl (ints_reps ns)) .nil
  refine ⟨[], F, [], _, R, start_slots r, ?_⟩
  have m := hm ns h2
  unfold runF at m
  generalize hs : b _ _ = s at m
  cases s with
  | nx ε O' => cases m
  | rt x O' =>
    intro ρ' F' H' v T R' rv
    unfold SR.fin at m
    simp only at m
    split at m
    · cases m; cases rv; exact q H'
    · split at m
      · split at m
        · split at m <;> cases m
        · cases m
      · cases m
  | bk ε O' => cases m
  | ct ε O' => cases m
  | exc x ε O' =>
    unfold SR.fin at m
    simp only at m
    split at m <;> cases m
  | stk => cases m
end Mi

namespace Mi
open PySem PySem.Spec PyProof.Rows L2 R
/-! ### defs on the caller's store; methods; making -/
def SR.ret : SR → ER
  | .nx _ O => .val .non O
  | .rt x O => .val x O
  | .exc x _ O => .exc x O
  | _ => .stk
/-- a def's body on the store O -/
def runS (b : DS) (n : Nat) (args : List D) (O : Sto) : ER := (b (args.map Sl.v ++ List.replicate (n - args.length) .no) O).ret
def spS (k : Ct) (n : Nat) (m : List D → Sto → ER) : Sp := fun vs H Q E => vs.length = n ∧ (_root_.R.Apart k.K H → ∃ ρ F O ds, Rel k ρ F O H ∧ Reps k ρ F vs ds ∧ EP k ρ F O H Q E (m ds O))
/-- of an __init__: nothing is let out -/
def spI (k : Ct) (n : Nat) (m : List D → Sto → ER) : Sp := fun vs H Q _ => vs.length = n ∧ (_root_.R.Apart k.K H → ∃ ρ F O ds, Rel k ρ F O H ∧ Reps k ρ F vs ds ∧ EP k ρ F O H Q (fun _ _ _ => False) (m ds O))
theorem spS_len {k : Ct} {n : Nat} {m : List D → Sto → ER} : ∀ vs H Q E, spS k n m vs H Q E → vs.length = n := fun vs H Q E h => h.1
theorem spI_len {k : Ct} {n : Nat} {m : List D → Sto → ER} : ∀ vs H Q E, spI k n m vs H Q E → vs.length = n := fun vs H Q E h => h.1
section
variable {k : Ct} {ρ : List Addr} {F : Hp} {O : Sto} {H : Hp}
theorem runS_go {b : DS} {N : List Str} {vs : List V} {ds : List D} {Q : VK} {E : XK} (R : Rel k ρ F O H) (r : Reps k ρ F vs ds) (q : EP k ρ F O H Q E (runS b N.length ds O)) : tS k none (fun cls d _ H => E cls d H) b { nx := fun _ H' => Q .non H', rt := Q } (L2.start N vs) H := by
  refine ⟨ρ, F, O, _, R, start_slots r, ?_⟩
  unfold runS at q
  generalize b (ds.map Sl.v ++ List.replicate (N.length - ds.length) .no) O = s at q ⊢
  cases s with
  | nx ε O' => exact fun ρ' F' H' σ' T R' S' => q ρ' F' H' .non T R' .non
  | rt x O' => exact q
  | bk ε O' => exact q.elim
  | ct ε O' => exact q.elim
  | exc x ε O' => exact fun ρ' F' H' cls od σ' T R' S' xr => q ρ' F' H' cls od T R' xr
  | stk => exact q.elim
theorem runS_ok {b : DS} {N : List Str} {n : Nat} {vs : List V} {Q : VK} {E : XK} (h : spS k n (runS b N.length) vs H Q E) : tAp k.K (tS k none (fun cls d _ H => E cls d H) b) { nx := fun _ H' => Q .non H', rt := Q } (L2.start N vs) H := fun ap => by
  obtain ⟨ρ, F, O, ds, R, r, q⟩ := h.2 ap
  exact runS_go R r q
theorem runI_ok {b : DS} {N : List Str} {n : Nat} {vs : List V} {Q : VK} {E : XK} (h : spI k n (runS b N.length) vs H Q E) : tAp k.K (tS k none W0 b) { nx := fun _ H' => Q .non H', rt := Q } (L2.start N vs) H := fun ap => by
  obtain ⟨ρ, F, O, ds, R, r, q⟩ := h.2 ap
  exact runS_go (E := fun _ _ _ => False) R r q
end
def dCallS (m : List D → Sto → ER) (n : Nat) (ds : DA) : DE := fun ε O => (ds ε O).toE fun xs O1 => if xs.length = n then m xs O1 else .stk
def dMtS (c : String) (f : Str) (m : List D → Sto → ER) (n : Nat) (da : DE) (ds : DA) : DE := fun ε O => (da ε O).bind fun x O1 => match vw O1 x with
  | .ins c' fs => if c' = c ∧ fs.lookup f = none then ((ds ε O1).toE fun xs O2 => if (x :: xs).length = n then m (x :: xs) O2 else .stk) else .stk
  | _ => .stk
def dMake (c : String) (m : List D → Sto → ER) (n : Nat) (ds : DA) : DE := fun ε O => (ds ε O).toE fun xs O1 => if xs.length + 1 = n then (match m (.ref O1.length :: xs) (O1 ++ [some (.ins c [])]) with
  | .val .non O2 => .val (.ref O1.length) O2
  | _ => .stk) else .stk
section
variable {X : Cx} {y : Option Yx} {W : WX} {ad : String → Addr} {e : Expr} {da : DE} {ds : DA} {m : List D → Sto → ER} {n : Nat} {c : String} {C : Addr}
theorem spS_of {k : Ct} {ρ F O H} {vs : List V} {xs : List D} {Q : VK} {E : XK} (R : Rel k ρ F O H) (r : Reps k ρ F vs xs) (q : EP k ρ F O H Q E (if xs.length = n then m xs O else .stk)) : spS k n m vs H Q E := by
  split at q
  · rename_i h; exact ⟨by rw [r.length, h], fun _ => ⟨ρ, F, O, xs, R, r, q⟩⟩
  · exact q.elim
theorem pd_callS (h : PE X e (tCallW (spS ⟨X.K, X.w, ad⟩ n m) W (tA ⟨X.K, X.w, ad⟩ y W ds))) : PE X e (tE ⟨X.K, X.w, ad⟩ y W (dCallS m n ds)) := peImp h fun σ H Q ⟨ρ, F, O, ε, R, S, q⟩ =>
  ⟨ρ, F, O, ε, R, S, ap_toE q fun xs O1 ρ1 F1 H1 vs T1 R1 r1 q1 => spS_of R1 r1 q1⟩
theorem pd_mt {f : Str} (hc : ad c = C) (h : PE X e (tMtC C f (spS ⟨X.K, X.w, ad⟩ n m) (EW W) (tE ⟨X.K, X.w, ad⟩ y W da) (tA ⟨X.K, X.w, ad⟩ y W ds))) : PE X e (tE ⟨X.K, X.w, ad⟩ y W (dMtS c f m n da ds)) := peImp h fun σ H Q ⟨ρ, F, O, ε, R, S, q⟩ =>
  ⟨ρ, F, O, ε, R, S, ep_bind q fun x O1 ρ1 F1 H1 v T1 R1 r1 q1 => by
    split at q1
    · rename_i c' fs e
      split at q1
      · rename_i hcc
        obtain ⟨rfl, hl⟩ := hcc
        obtain ⟨a, dx, vs, rfl, h1, h2, h3⟩ := see_ins R1 r1 e
        have h1 : H1 a = some (.ins (ad c') dx vs) := h1
        rw [hc] at h1
        simp only [h1]
        refine ⟨trivial, ?_, ρ1, F1, O1, ε, R1, S.tr T1 R1, ap_toE q1 fun xs O2 ρ2 F2 H2 us T2 R2 r2 q2 => spS_of R2 (.cons (r1.tr T2 R2) r2) q2⟩
        rcases KR.lookup ⟨h2, h3⟩ f with ⟨e1, e2⟩ | ⟨fv, d', e1, e2, r'⟩
        · exact e1
        · rw [hl] at e2; cases e2
      · exact q1.elim
    · exact q1.elim⟩
theorem pd_mt0 {f : Str} (hc : ad c = C) (h : PE X e (tMtC C f (spS ⟨X.K, X.w, ad⟩ n m) (EW W) (tE ⟨X.K, X.w, ad⟩ y W da) tNil)) : PE X e (tE ⟨X.K, X.w, ad⟩ y W (dMtS c f m n da dNil)) := peImp h fun σ H Q ⟨ρ, F, O, ε, R, S, q⟩ =>
  ⟨ρ, F, O, ε, R, S, ep_bind q fun x O1 ρ1 F1 H1 v T1 R1 r1 q1 => by
    split at q1
    · rename_i c' fs e
      split at q1
      · rename_i hcc
        obtain ⟨rfl, hl⟩ := hcc
        obtain ⟨a, dx, vs, rfl, h1, h2, h3⟩ := see_ins R1 r1 e
        have h1 : H1 a = some (.ins (ad c') dx vs) := h1
        rw [hc] at h1
        simp only [h1]
        refine ⟨trivial, ?_, spS_of R1 (.cons r1 .nil) q1⟩
        rcases KR.lookup ⟨h2, h3⟩ f with ⟨e1, e2⟩ | ⟨fv, d', e1, e2, r'⟩
        · exact e1
        · rw [hl] at e2; cases e2
      · exact q1.elim
    · exact q1.elim⟩
theorem make_go {k : Ct} {ρ F O H} {vs : List V} {xs : List D} {Q : VK} {E : XK} (R : Rel k ρ F O H) (r : Reps k ρ F vs xs) (q : EP k ρ F O H Q E (if xs.length + 1 = n then (match m (.ref O.length :: xs) (O ++ [some (.ins c [])]) with
    | .val .non O2 => .val (.ref O.length) O2
    | _ => .stk) else .stk)) : ∀ x dx, H x = none → H dx = none → dx ≠ x → spI k n m (.ref x :: (vs ++ [])) (upd (upd H dx (.own x)) x (.ins (k.ad c) dx [])) (fun v H2 => v = .non ∧ Q (.ref x) H2) E0 := by
  intro x dx hx hd ne
  split at q
  · rename_i hl
    refine ⟨by simp [r.length, hl], fun ap => ?_⟩
    have ap1 : _root_.R.Apart k.K (upd H dx (.own x)) := fun b o e => by
      have := ap b o e
      by_cases hb : b = x
      · subst hb; rw [upd_same] at this; cases this
      · rwa [upd_ne hb] at this
    obtain ⟨R1, T1⟩ := R.toRel0.side (u := .own x) hd
    have R1' : Rel k ρ F O (upd H dx (.own x)) := ⟨R1, ap1⟩
    have hx1 : upd H dx (.own x) x = none := by rw [upd_ne (Ne.symm ne)]; exact hx
    obtain ⟨R2, T2⟩ := R1'.open (u := .ins (k.ad c) dx []) (o := .ins c []) hx1 ap ⟨dx, [], upd_same, rfl, .nil⟩
    have hp : (ρ ++ [x])[O.length]? = some x := by rw [List.getElem?_append_right (by rw [R.len]; exact Nat.le_refl _)]; simp [R.len]
    have T := T1.trans T2
    refine ⟨_, _, _, .ref O.length :: xs, R2, ?_, ?_⟩
    · rw [List.append_nil]; exact .cons (.ref hp) (r.tr T R2)
    · split at q
      · rename_i O2 e2
        rw [e2]
        intro ρ' F' H' v T3 R3 rv
        cases rv
        exact ⟨rfl, q _ _ _ _ (T.trans T3) R3 (.ref (T3.pr _ _ hp))⟩
      · exact q.elim
  · exact q.elim
theorem pd_make (hc : ad c = C) (h : PE X e (tMake C (spI ⟨X.K, X.w, ad⟩ n m) [] E0 (tA ⟨X.K, X.w, ad⟩ y W ds))) : PE X e (tE ⟨X.K, X.w, ad⟩ y W (dMake c m n ds)) := peImp h fun σ H Q ⟨ρ, F, O, ε, R, S, q⟩ =>
  ⟨ρ, F, O, ε, R, S, ap_toE q fun xs O1 ρ1 F1 H1 vs T1 R1 r1 q1 => by subst hc; exact make_go (k := ⟨X.K, X.w, ad⟩) R1 r1 q1⟩
theorem pd_make0 (hc : ad c = C) (h : PE X e (tMake C (spI ⟨X.K, X.w, ad⟩ n m) [] E0 tNil)) : PE X e (tE ⟨X.K, X.w, ad⟩ y W (dMake c m n dNil)) := peImp h fun σ H Q ⟨ρ, F, O, ε, R, S, q⟩ => by
  subst hc
  exact make_go (k := ⟨X.K, X.w, ad⟩) R .nil q
end
end Mi

namespace Mi
open PySem PySem.Spec PyProof.Rows L2 R
section
variable {X : Cx} {y : Option Yx} {W : WX} {ad : String → Addr} {e : Expr} {n : Nat}
theorem pd_call0 {o : Bool} {m : List D → FR} (h : PE X e (tCallW (spF ⟨X.K, X.w, ad⟩ n m) W tNil)) : PE X e (tE ⟨X.K, X.w, ad⟩ y W (dCall o m n dNil)) := peK h fun σ H Q ⟨ρ, F, O, ε, R, S, q⟩ _ => call_go R .nil q
theorem pd_callS0 {m : List D → Sto → ER} (h : PE X e (tCallW (spS ⟨X.K, X.w, ad⟩ n m) W tNil)) : PE X e (tE ⟨X.K, X.w, ad⟩ y W (dCallS m n dNil)) := peImp h fun σ H Q ⟨ρ, F, O, ε, R, S, q⟩ => spS_of R .nil q
end
section
variable {K : PySem.W.Frag} {w : World}
/-- 's' * n -/
def oMulS : Sto → D → D → ER := fun O x y => match x, y with
  | .str a, .int j => if -(2 ^ 63) ≤ j ∧ j < 2 ^ 63 ∧ a.length * j.toNat ≤ sizeLine then .val (.str (_root_.R.repS a j)) O else .stk
  | _, _ => .stk
theorem s_mulS : ROp K w rMulS oMulS := fun ad ρ F O H a b x y Q W R rx ry q => by
  unfold oMulS at q
  split at q
  · cases rx; cases ry
    split at q
    · rename_i h
      exact ⟨h.1, h.2.1, h.2.2, fun _ => val_ok R (.str _) q⟩
    · exact q.elim
  · exact q.elim
def oOrd : Sto → D → ER := fun O x => match x with
  | .str a => if a.length = 1 then .val (.int (a.cps.getD 0 0 : Nat)) O else .stk
  | _ => .stk
theorem s_ord : RCl K w rOrd (oC1 oOrd) := s_c1 fun ad ρ F O H a x Q W R rx q => by
  unfold oOrd at q
  split at q
  · cases rx
    split at q
    · exact ⟨‹_›, fun _ => val_ok R (.int _) q⟩
    · exact q.elim
  · exact q.elim
def oBits : Sto → D → ER := fun O x => match x with
  | .int i => .val (.int (Builtin.Int.intBits i : Nat)) O
  | _ => .stk
theorem s_bits : RUn K w (mU fun i => .int (Builtin.Int.intBits i : Nat)) oBits := fun ad ρ F O H a x Q W R rx q => by
  unfold oBits at q
  split at q
  · cases rx; exact fun _ => val_ok R (.int _) q
  · exact q.elim
/-- int(text, 16) -/
instance : DecidablePred Hx.IsHex := fun c => by unfold Hx.IsHex; infer_instance
def oHex : Sto → D → D → ER := fun O x y => match x, y with
  | .str a, .int 16 => if a.cps.toList ≠ [] ∧ a.cps.toList.length ≤ 640 ∧ (∀ c ∈ a.cps.toList, Hx.IsHex c) then .val (.int ((Hx.hexNum a.cps.toList : Nat) : Int)) O else .stk
  | _, _ => .stk
theorem s_hex : RCl K w rInt2 (oC2 oHex) := s_c2 fun ad ρ F O H a b x y Q W R rx ry q => by
  unfold oHex at q
  split at q
  · rename_i s
    cases rx; cases ry
    split at q
    · rename_i h
      exact ⟨s.cps.toList, by simp [SX.S], h.1, h.2.1, h.2.2, fun _ => val_ok R (.int _) q⟩
    · exact q.elim
  · exact q.elim
end
/-- del d[k] -/
def delD (O : Sto) (x i : D) : Option Sto := match x with
  | .ref n => match O[n]? with
    | some (some (.dic kvs)) => match keyD i with
      | some z => if (valD kvs z).isSome then some (O.set n (some (.dic (dropD kvs z)))) else none
      | none => none
    | _ => none
  | _ => none
def dDel (da db : DE) : DS := fun ε O => (da ε O).toS ε fun x O1 => (db ε O1).toS ε fun i O2 => match delD O2 x i with
  | some O3 => .nx ε O3
  | none => .stk
theorem pd_del {X : Cx} {y : Option Yx} {W : WX} {ad : String → Addr} {st : Stmt} {da db : DE} (h : PS X st (sDDel (tE ⟨X.K, X.w, ad⟩ y W da) (tE ⟨X.K, X.w, ad⟩ y W db))) : PS X st (tS ⟨X.K, X.w, ad⟩ y W (dDel da db)) := psImp h fun D σ H ⟨ρ, F, O, ε, R, S, q⟩ =>
  ⟨ρ, F, O, ε, R, S, ep_toS S q fun x O1 ρ1 F1 H1 v T1 R1 r1 q1 => ⟨ρ1, F1, O1, ε, R1, S.tr T1 R1, ep_toS (S.tr T1 R1) q1 fun i O2 ρ2 F2 H2 w T2 R2 r2 q2 => by
    split at q2
    · rename_i O3 e3
      unfold delD at e3
      split at e3
      · rename_i n
        split at e3
        · rename_i kvs ho
          split at e3
          · rename_i z hz
            split at e3
            · rename_i hs
              cases e3
              obtain rfl := keyD_ok r2 hz
              obtain ⟨a, rfl, ha, vs, h1, h2, h3⟩ := R2.at (r1.tr T2 R2) ho
              have kr : KR _ _ _ vs kvs := ⟨h2, h3⟩
              have kr2 := kr.drop z
              obtain ⟨R', T⟩ := R2.put (u := .dK (dropK vs z)) ho ha (o' := .dic (dropD kvs z)) ⟨_, upd_same, kr2.1, kr2.2⟩
              refine ⟨a, vs, z, rfl, h1, rfl, ?_, q2 _ _ _ _ T R' (((S.tr T1 R1).tr T2 R2).tr T R')⟩
              rcases kr.val z with ⟨e1, e2⟩ | ⟨v, d, e1, e2, _⟩
              · rw [e2] at hs; cases hs
              · rw [e1]; rfl
            · cases e3
          · cases e3
        · cases e3
      · cases e3
    · exact q2.elim⟩⟩
section
variable {X : Cx} {y : Option Yx} {W : WX} {ad : String → Addr} {it : DI} {t : CT} {c : DT} {el : DE}
theorem pd_lcx {o : Bool} {elt tg iter : Expr} {ifs : List Expr} {scope : Scope} {own : List (Str × Nat)} {pos : Pos} (hns : own.map (·.2) = t.ns) (hc : X.calm = true) (hN : X.N.Nodup) (hi : PI X tg iter (tI ⟨X.K, X.w, ad⟩ y W it)) (ok : BlkOk X.N X.env.scope scope own)
    (hg : ∀ (s : Shared) (H : Hp) (C : Addr) (cl : List (Str × Addr)) (fp : List Addr), PG (X.blk s H scope (compEnvC scope cl C X.env) fp) tg (t.g X.K)) (ht : ∀ (s : Shared) (H : Hp) (C : Addr) (cl : List (Str × Addr)) (fp : List Addr), PTs (X.blk s H scope (compEnvC scope cl C X.env) fp) ifs (tT ⟨X.K, X.w, ad⟩ y W0 c))
    (he : ∀ (s : Shared) (H : Hp) (C : Addr) (cl : List (Str × Addr)) (fp : List Addr), PE (X.blk s H scope (compEnvC scope cl C X.env) fp) elt (tE ⟨X.K, X.w, ad⟩ y W0 el)) (hs : ∀ x, foldedSetIterable iter X.env x = pure x := by intro _; rfl) :
    PE X (.ListComp elt [⟨tg, iter, ifs, 0⟩] scope pos) (tE ⟨X.K, X.w, ad⟩ y W (dLc o it t c el)) := by
  refine pd_lc ?_
  have z := pe_lc (pos := pos) (te := apE X.K (tE ⟨X.K, X.w, ad⟩ y W0 el)) (g := fun v σ H G => _root_.R.Apart X.K H → t.g X.K v σ H G) hc hN hi ok (fun s H C cl fp => pgAp (hg s H C cl fp)) ht (fun s H C cl fp => peAp (he s H C cl fp)) hs
  rw [hns] at z
  exact z
theorem pd_setLcx {o : Bool} {i : Nat} {y1 : Str} {py : Pos} {elt tg iter : Expr} {ifs : List Expr} {scope : Scope} {own : List (Str × Nat)} {pos spos : Pos} (hns : own.map (·.2) = t.ns) (hc : X.calm = true) (hN : X.N.Nodup) (hy : X.N[i]? = some y1) (hyl : X.env.scope.names.lookup y1 = some .local)
    (hsw : swapsWith (.ListComp elt [⟨tg, iter, ifs, 0⟩] scope pos) (some (.Name y1 py)) spos.line X.env = pure true) (hi : PI X tg iter (tI ⟨X.K, X.w, ad⟩ y W it)) (ok : BlkOk X.N X.env.scope scope own)
    (hg : ∀ (s : Shared) (H : Hp) (C : Addr) (cl : List (Str × Addr)) (fp : List Addr), PG (X.blk s H scope (compEnvC scope cl C X.env) fp) tg (t.g X.K)) (ht : ∀ (s : Shared) (H : Hp) (C : Addr) (cl : List (Str × Addr)) (fp : List Addr), PTs (X.blk s H scope (compEnvC scope cl C X.env) fp) ifs (tT ⟨X.K, X.w, ad⟩ y W0 c))
    (he : ∀ (s : Shared) (H : Hp) (C : Addr) (cl : List (Str × Addr)) (fp : List Addr), PE (X.blk s H scope (compEnvC scope cl C X.env) fp) elt (tE ⟨X.K, X.w, ad⟩ y W0 el)) (hs : ∀ x, foldedSetIterable iter X.env x = pure x := by intro _; rfl) :
    PS X (.Assign [.Name y1 py] (.ListComp elt [⟨tg, iter, ifs, 0⟩] scope pos) spos) (tS ⟨X.K, X.w, ad⟩ y W (dAsg (dLc o it t c el) (gNm i))) := by
  refine pd_setLc ?_
  have z := ps_setLc (pos := pos) (i := i) (py := py) (te := apE X.K (tE ⟨X.K, X.w, ad⟩ y W0 el)) (g := fun v σ H G => _root_.R.Apart X.K H → t.g X.K v σ H G) hc hN hy hyl hsw hi ok (fun s H C cl fp => pgAp (hg s H C cl fp)) ht (fun s H C cl fp => peAp (he s H C cl fp)) hs
  rw [hns] at z
  exact z
end
end Mi

namespace Mi
open PySem PySem.Spec PyProof.Rows L2 R
section
variable {P : Program} {w : World} {K : PySem.W.Frag} {mg : Str → Option Value} {base : Heap} {CX : CXT} {j n : Nat} {f : Addr} {fd : FuncData} {ps : List Str} {k : Ct}
theorem none_F : FnOk P w K mg base CX j f fd ps (spF k n fun _ => .stk) := fn_none fun vs H Q E ⟨ρ, F, O, ds, _, _, _, _, q⟩ => q
theorem none_S (hk : k.K = K) (hn : n = ps.length) : FnOk P w K mg base CX j f fd ps (spS k n fun _ _ => .stk) := ⟨fun vs H Q E h => by rw [h.1, hn], fun A outer s H args us vs Q E hr he hb hv h => by
  subst hk
  obtain ⟨ρ, F, O, ds, _, _, q⟩ := h.2 fun b o e => (he.bs b o (he.mod.kin b o e)).2
  exact q.elim⟩
end
end Mi

namespace Mi
open PySem PySem.Spec PyProof.Rows L2 R
/-! ### stepping through loops -/
section
variable {c : DT} {b : DS} {ε ε1 ε2 : Env} {O O1 O2 : Sto} {x : D} {z : Ex}
theorem while_t (h1 : c ε O = .val true O1) (h2 : b ε O1 = .nx ε2 O2) : dWhile c b ε O = dWhile c b ε2 O2 := by rw [while_eq, h1]; simp only [h2]
theorem while_c (h1 : c ε O = .val true O1) (h2 : b ε O1 = .ct ε2 O2) : dWhile c b ε O = dWhile c b ε2 O2 := by rw [while_eq, h1]; simp only [h2]
theorem while_b (h1 : c ε O = .val true O1) (h2 : b ε O1 = .bk ε2 O2) : dWhile c b ε O = .nx ε2 O2 := by rw [while_eq, h1]; simp only [h2]
theorem while_r (h1 : c ε O = .val true O1) (h2 : b ε O1 = .rt x O2) : dWhile c b ε O = .rt x O2 := by rw [while_eq, h1]; simp only [h2]
theorem while_x (h1 : c ε O = .val true O1) (h2 : b ε O1 = .exc z ε2 O2) : dWhile c b ε O = .exc z ε2 O2 := by rw [while_eq, h1]; simp only [h2]
theorem while_f (h1 : c ε O = .val false O1) : dWhile c b ε O = .nx ε O1 := by rw [while_eq, h1]
theorem while_cx (h1 : c ε O = .exc z O1) : dWhile c b ε O = .exc z ε O1 := by rw [while_eq, h1]
variable {g : DG} {xs : List D} {gd : Gd}
theorem for_nil (h : gdOk gd O) : forGo gd g b [] ε O = .nx ε O := by unfold forGo; rw [if_pos h]
theorem for_nx (h : gdOk gd O) (h1 : g x ε O = .nx ε1 O1) {ε3 O3} (h2 : b ε1 O1 = .nx ε3 O3) : forGo gd g b (x :: xs) ε O = forGo gd g b xs ε3 O3 := by rw [forGo, if_pos h, h1]; simp only [h2]
theorem for_ct (h : gdOk gd O) (h1 : g x ε O = .nx ε1 O1) {ε3 O3} (h2 : b ε1 O1 = .ct ε3 O3) : forGo gd g b (x :: xs) ε O = forGo gd g b xs ε3 O3 := by rw [forGo, if_pos h, h1]; simp only [h2]
theorem for_bk (h : gdOk gd O) (h1 : g x ε O = .nx ε1 O1) {ε3 O3} (h2 : b ε1 O1 = .bk ε3 O3) : forGo gd g b (x :: xs) ε O = .nx ε3 O3 := by rw [forGo, if_pos h, h1]; simp only [h2]
theorem for_rt (h : gdOk gd O) (h1 : g x ε O = .nx ε1 O1) {y O3} (h2 : b ε1 O1 = .rt y O3) : forGo gd g b (x :: xs) ε O = .rt y O3 := by rw [forGo, if_pos h, h1]; simp only [h2]
theorem for_x (h : gdOk gd O) (h1 : g x ε O = .nx ε1 O1) {ε3 O3} (h2 : b ε1 O1 = .exc z ε3 O3) : forGo gd g b (x :: xs) ε O = .exc z ε3 O3 := by rw [forGo, if_pos h, h1]; simp only [h2]
end
theorem gd0 {O : Sto} : gdOk none O := trivial
theorem for_of {it : DI} {g : DG} {b : DS} {ε : Env} {O O1 : Sto} {ds : List D} {gd : Gd} {r : SR} (h : it ε O = .val ds gd O1) (h2 : forGo gd g b ds ε O1 = r) : dFor it g b ε O = r := by
  unfold dFor
  rw [h]
  exact h2
theorem seq_rt {a b : DS} {ε ε1 : Env} {O O1 : Sto} {r : SR} (h : a ε O = .nx ε1 O1) (h2 : b ε1 O1 = r) : dSeq a b ε O = r := by
  unfold dSeq
  rw [h]
  exact h2
theorem rng_of {ds : DA} {ε : Env} {O : Sto} {n : Nat} (hn : n < 2 ^ 40) (h : ds ε O = .val [.int (n : Nat)] O) : dRng1 ds ε O = .val ((List.range n).map fun (k : Nat) => D.int (0 + k)) none O := by
  unfold dRng1
  rw [h]
  simp only
  rw [if_pos]
  · simp only [Int.toNat_natCast]
  · constructor <;> omega
theorem isK (x : D) (T t : String) (b : Bool) (h : tyD x = some t) (k : kitB t T = some b) (hx : ∀ O, vw O x = x) : ∀ O, oIsi O x (.ty T) = .val (.bl b) O := by
  intro O
  unfold oIsi
  rw [hx]
  simp only [h, k]
theorem seq_r {a b : DS} {ε : Env} {O O1 : Sto} {x : D} (h : a ε O = .rt x O1) : dSeq a b ε O = .rt x O1 := by
  unfold dSeq
  rw [h]
  rfl
theorem if_t {t : DT} {a b : DS} {ε : Env} {O O1 : Sto} {r : SR} (h : t ε O = .val true O1) (h2 : a ε O1 = r) : dIfS t a b ε O = r := by
  unfold dIfS
  rw [h]
  simp only [BR.toS, if_true]
  exact h2
theorem if_f {t : DT} {a b : DS} {ε : Env} {O O1 : Sto} {r : SR} (h : t ε O = .val false O1) (h2 : b ε O1 = r) : dIfS t a b ε O = r := by
  unfold dIfS
  rw [h]
  simp only [BR.toS, Bool.false_eq_true, if_false]
  exact h2
theorem lc_one {i : Nat} {e : DE} {ε : Env} {O : Sto} {f : D → D} : ∀ (xs acc : List D), (∀ x ∈ xs, e (ε.set i (.v x)) O = .val (f x) O) → acc.length + xs.length ≤ sizeLine → lcGo none (.one i) dYes e ε xs acc O = .val (acc ++ xs.map f) O
  | [], acc, h, hl => by unfold lcGo; rw [if_pos gd0]; simp
  | x :: xs, acc, h, hl => by
    unfold lcGo
    rw [if_pos gd0]
    have h1 := h x List.mem_cons_self
    simp only [CT.put, dYes, h1]
    rw [if_pos (by simp at hl; omega), lc_one xs (acc ++ [f x]) (fun y hy => h y (List.mem_cons_of_mem _ hy)) (by simp at hl ⊢; omega)]
    simp
theorem rng_at {ds : DA} {ε : Env} {O O1 : Sto} {n : Nat} (hn : n < 2 ^ 40) (h : ds ε O = .val [.int (n : Nat)] O1) : dRng1 ds ε O = .val ((List.range n).map fun (k : Nat) => D.int (0 + k)) none O1 := by
  unfold dRng1
  rw [h]
  simp only
  rw [if_pos]
  · simp only [Int.toNat_natCast]
  · constructor <;> omega
theorem seq_x {a b : DS} {ε ε1 : Env} {O O1 : Sto} {x : Ex} (h : a ε O = .exc x ε1 O1) : dSeq a b ε O = .exc x ε1 O1 := by
  unfold dSeq
  rw [h]
  rfl
/-! room within a suite -/
theorem r1s {k : Nat} {A : Around} {h : Option Value} (r : Room k A) : (A.mark h).units + 1 < cLine := (show A.units + 1 < cLine from r1 r)
theorem r64s {k : Nat} {A : Around} {h : Option Value} (r : Room k A) : (A.mark h).units + 64 < cLine := (show A.units + 64 < cLine from r64 r)
theorem r65s {k : Nat} {A : Around} {h : Option Value} (r : Room k A) : (A.mark h).units + 65 < cLine := (show A.units + 65 < cLine from r65 r)
end Mi

namespace Mi
open PySem PySem.Spec PyProof.Rows L2 R
/-! ### isinstance with an own class -/
/-- what isinstance asks of an own class -/
structure IsC (K : PySem.W.Frag) (C : Addr) : Prop where
  cl : Cls K C
  ha : PySem.W.findIn K (.ref C) "__class__" = some (some (.builtin "object.__class__"))
  hn : PySem.W.specialIn K (.builtin "object.__class__") "__get__" = some (some (.builtin "getset_descriptor.__get__"))
  htk : PySem.W.takesIn K (.builtin "object.__class__") = some true
  hm : PySem.W.mroIn K C (.type "object") = some true
  kt : PySem.W.kitOne K (.ref C) (.ref C) = some true
def oIsC (c : String) : Sto → D → D → ER := fun O x y => match y with
  | .glo c' => if c' = c then (match vw O x with
    | .ins c2 _ => if c2 = c then .val (.bl true) O else .stk
    | _ => .stk) else .stk
  | _ => .stk
section
variable {X : Cx} {y : Option Yx} {W : WX} {ad : String → Addr} {e : Expr} {ds : DA} {c : String}
theorem s_isC {K : PySem.W.Frag} {w : World} (hc : IsC K (ad c)) {ρ : List Addr} {F : Hp} {O : Sto} {H : Hp} {a : List V} {x : List D} {Q : VK} {W : XK} (R : Rel ⟨K, w, ad⟩ ρ F O H) (rx : Reps ⟨K, w, ad⟩ ρ F a x) (q : EP ⟨K, w, ad⟩ ρ F O H Q W (oC2 (oIsC c) O x)) : rIsi K a H (fun v H' => Apart K H' → Q v H') := by
  unfold oC2 at q
  split at q
  · rename_i x1 x2
    cases rx with
    | cons r1 rs =>
      cases rs with
      | cons r2 rn =>
        cases rn
        unfold oIsC at q
        split at q
        · rename_i c'
          split at q
          · rename_i hcc
            subst hcc
            split at q
            · rename_i c2 fs ex
              split at q
              · rename_i hc2
                subst hc2
                obtain ⟨p, dx, vs, rfl, h1, h2⟩ := see_ins R r1 ex
                cases r2
                exact ⟨_, _, _, _, _, rfl, .own _, .base (.ins h1 hc.cl hc.ha hc.hn hc.htk hc.hm), hc.kt, fun _ => val_ok R (.bl _) q⟩
              · exact q.elim
            · exact q.elim
          · exact q.elim
        · exact q.elim
  · exact q.elim
theorem pd_isC (hc : IsC X.K (ad c)) (h : PE X e (tCB (rIsi X.K) (tA ⟨X.K, X.w, ad⟩ y W ds))) : PE X e (tE ⟨X.K, X.w, ad⟩ y W (dCB (oC2 (oIsC c)) ds)) := peM h fun σ H Q ⟨ρ, F, O, ε, R, S, q⟩ _ =>
  ⟨ρ, F, O, ε, R, S, ap_toE q fun x O1 ρ1 F1 H1 v T1 R1 r1 q1 => s_isC hc R1 r1 q1⟩
end
/-! ### any, all of a list of truth values -/
def blsD : List D → Option (List Bool)
  | [] => some []
  | .bl b :: r => (blsD r).map (b :: ·)
  | _ => none
def oAll : Sto → D → ER := fun O x => match vw O x with
  | .lst xs => match blsD xs with
    | some bs => .val (.bl (bs.all id)) O
    | none => .stk
  | _ => .stk
def oAny : Sto → D → ER := fun O x => match vw O x with
  | .lst xs => match blsD xs with
    | some bs => .val (.bl (bs.any id)) O
    | none => .stk
  | _ => .stk
theorem blsD_ok {k : Ct} {ρ : List Addr} {F : Hp} : ∀ {vs : List V} {xs : List D} {bs : List Bool}, Reps k ρ F vs xs → blsD xs = some bs → vs = bs.map V.bl
  | _, _, bs, .nil, h => by cases h; rfl
  | v :: vs, x :: xs, bs, .cons r rs, h => by
    cases x with
    | bl b =>
      cases r
      have h' : (blsD xs).map (b :: ·) = some bs := h
      cases e : blsD xs with
      | none => rw [e] at h'; cases h'
      | some cs => rw [e] at h'; cases h'; rw [blsD_ok rs e]; rfl
    | _ => cases h
section
variable {K : PySem.W.Frag} {w : World}
theorem s_all : RCl K w (rAll K) (oC1 oAll) := s_c1 fun ad ρ F O H a x Q W R rx q => by
  unfold oAll at q
  split at q
  · rename_i xs ex
    split at q
    · rename_i bs eb
      obtain ⟨p, vs, rfl, h1, h2⟩ := see_lst R rx ex
      have := blsD_ok h2 eb
      subst this
      exact ⟨p, bs, rfl, .inl (.inl h1), fun _ => val_ok R (.bl _) q⟩
    · exact q.elim
  · exact q.elim
theorem s_any : RCl K w (rAny K) (oC1 oAny) := s_c1 fun ad ρ F O H a x Q W R rx q => by
  unfold oAny at q
  split at q
  · rename_i xs ex
    split at q
    · rename_i bs eb
      obtain ⟨p, vs, rfl, h1, h2⟩ := see_lst R rx ex
      have := blsD_ok h2 eb
      subst this
      exact ⟨p, bs, rfl, .inl (.inl h1), fun _ => val_ok R (.bl _) q⟩
    · exact q.elim
  · exact q.elim
end
end Mi

namespace Mi
open PySem PySem.Spec PyProof.Rows L2 R
/-! ### x is True, x is False, for any x -/
def rIsBX (neg : Bool) : R2 := fun x y H Q => ∃ b, y = .bl b ∧ ((∃ a, x = .bl a ∧ Q (.bl (if neg then !decide (a = b) else decide (a = b))) H) ∨ ((x = .non ∨ (∃ i, x = .int i) ∨ (∃ s, x = .str s) ∨ ∃ p, x = .ref p) ∧ Q (.bl neg) H))
section
variable {X : Cx}
theorem u_isBX : OpR X (compareOp .Is) (rIsBX false) := by
  intro pins s σ H x y v u Q I rx ry h
  obtain ⟨b, rfl, h⟩ := h
  cases (show u = Value.bool b from ry)
  rcases h with ⟨a, rfl, q⟩ | ⟨h, q⟩
  · exact op_is_bl pins s σ H (.bl a) (.bl b) v _ Q I rx rfl ⟨a, b, rfl, rfl, q⟩
  · rcases h with rfl | ⟨i, rfl⟩ | ⟨z, rfl⟩ | ⟨p, rfl⟩
    · cases (show v = Value.none from rx)
      exact wpAny_is_other rfl (fun z => by cases z) ⟨.bl false, H, I, rfl, q⟩
    · obtain ⟨t, rfl⟩ := (show ∃ t, v = Value.int i t from rx)
      exact wpAny_is_other rfl (fun z => by cases z) ⟨.bl false, H, I, rfl, q⟩
    · obtain ⟨t, rfl⟩ := (show ∃ t, v = Value.str z t from rx)
      exact wpAny_is_other rfl (fun z => by cases z) ⟨.bl false, H, I, rfl, q⟩
    · cases (show v = Value.ref p from rx)
      exact wpAny_is_other rfl (fun z => by cases z) ⟨.bl false, H, I, rfl, q⟩
theorem u_isNBX : OpR X (compareOp .IsNot) (rIsBX true) := by
  intro pins s σ H x y v u Q I rx ry h
  obtain ⟨b, rfl, h⟩ := h
  cases (show u = Value.bool b from ry)
  rcases h with ⟨a, rfl, q⟩ | ⟨h, q⟩
  · exact op_isnot_bl pins s σ H (.bl a) (.bl b) v _ Q I rx rfl ⟨a, b, rfl, rfl, q⟩
  · rcases h with rfl | ⟨i, rfl⟩ | ⟨z, rfl⟩ | ⟨p, rfl⟩
    · cases (show v = Value.none from rx)
      exact wpAny_isNot_other rfl (fun z => by cases z) ⟨.bl true, H, I, rfl, q⟩
    · obtain ⟨t, rfl⟩ := (show ∃ t, v = Value.int i t from rx)
      exact wpAny_isNot_other rfl (fun z => by cases z) ⟨.bl true, H, I, rfl, q⟩
    · obtain ⟨t, rfl⟩ := (show ∃ t, v = Value.str z t from rx)
      exact wpAny_isNot_other rfl (fun z => by cases z) ⟨.bl true, H, I, rfl, q⟩
    · cases (show v = Value.ref p from rx)
      exact wpAny_isNot_other rfl (fun z => by cases z) ⟨.bl true, H, I, rfl, q⟩
end
def oIsB (neg : Bool) : Sto → D → D → ER := fun O x y => match y with
  | .bl b => match x with
    | .bl a => .val (.bl (if neg then !decide (a = b) else decide (a = b))) O
    | .non => .val (.bl neg) O
    | .int _ => .val (.bl neg) O
    | .str _ => .val (.bl neg) O
    | .lst _ => .val (.bl neg) O
    | .tup _ => .val (.bl neg) O
    | .dic _ => .val (.bl neg) O
    | .ref _ => .val (.bl neg) O
    | _ => .stk
  | _ => .stk
theorem s_isB {K : PySem.W.Frag} {w : World} {neg : Bool} : ROp K w (rIsBX neg) (oIsB neg) := fun ad ρ F O H a b x y Q W R rx ry q => by
  unfold oIsB at q
  split at q
  · cases ry
    split at q
    · cases rx; exact ⟨_, rfl, .inl ⟨_, rfl, fun _ => val_ok R (.bl _) q⟩⟩
    · cases rx; exact ⟨_, rfl, .inr ⟨.inl rfl, fun _ => val_ok R (.bl _) q⟩⟩
    · cases rx; exact ⟨_, rfl, .inr ⟨.inr (.inl ⟨_, rfl⟩), fun _ => val_ok R (.bl _) q⟩⟩
    · cases rx; exact ⟨_, rfl, .inr ⟨.inr (.inr (.inl ⟨_, rfl⟩)), fun _ => val_ok R (.bl _) q⟩⟩
    · cases rx; exact ⟨_, rfl, .inr ⟨.inr (.inr (.inr ⟨_, rfl⟩)), fun _ => val_ok R (.bl _) q⟩⟩
    · cases rx; exact ⟨_, rfl, .inr ⟨.inr (.inr (.inr ⟨_, rfl⟩)), fun _ => val_ok R (.bl _) q⟩⟩
    · cases rx; exact ⟨_, rfl, .inr ⟨.inr (.inr (.inr ⟨_, rfl⟩)), fun _ => val_ok R (.bl _) q⟩⟩
    · cases rx; exact ⟨_, rfl, .inr ⟨.inr (.inr (.inr ⟨_, rfl⟩)), fun _ => val_ok R (.bl _) q⟩⟩
    · exact q.elim
  · exact q.elim
end Mi

/-! G0: all, any of a generator expression whose element may be anything. -/
namespace Gx
open PySem PySem.Spec PyProof.Rows L2 R GenW

theorem over_gl {A : Around} {elt : Expr} {gens : List Comprehension} {scope : Scope} {pos : Pos} {it acc : Value} {env : PySem.Env} : A.over (.compLoop (.GeneratorExp elt gens scope pos) 0 it acc env) [] = A.deeper env := by
  first
    | rfl
    | (obtain ⟨hd, d, fr, gs, u⟩ := A; simp [Around.over, Around.deeper, marksOver, frameCount, unitsOf, envsOf, guardsOf, pushEnvs, pushGuards, Code.envs, Code.env?, Code.isFrame, Code.guards, Code.isGuard, Code.weight, Code.frames, Code.isCreation, Code.isCaller, Code.cUnits])

/-! ### who asks -/
/-- what may happen while it sleeps -/
def Lk (s s' : Shared) : Prop := (∀ b o, s.heap.get? b = some o → s'.heap.get? b = some o) ∧ s'.os = s.os ∧ AllBare s'.gens
def YB (stop : Bool) (a : Addr) (g : Nat) (Done : Bool → Shared → Prop) : Protocol := fun _ _ v s kap =>
  s.heap.NoLimit ∧ s.heap.IsGen a g ∧ AllBare s.gens ∧ ∃ b, v = .bool b ∧ (b = stop → ∀ s', Lk s s' → Done stop s') ∧ (b ≠ stop → ∀ s', Lk s s' → kap (.send .none) s')
abbrev PB (stop : Bool) (Done : Bool → Shared → Prop) : Nat → Shared → Shared → Prop := fun _ _ s => AllBare s.gens ∧ ∀ s', Lk s s' → Done (!stop) s'
abbrev RB (stop : Bool) (Done : Bool → Shared → Prop) : GenEnd := fun n s₀ r s => r = .ok .next ∧ PB stop Done n s₀ s
section
variable {P : Program} {w : World} {A : Around} {E : Value → Shared → Prop} {a : Addr} {g : Nat} {Done : Bool → Shared → Prop} {R : Result → Shared → Prop}
theorem all_loop (hh : A.handled = none) (hd : A.depth < recursionLimit) (hR : ∀ b s', Done b s' → R (.ok (.ret (.bool b))) s') :
    ∀ (m : Nat) (s : Shared), s.heap.IsGen a g → s.heap.NoLimit → AllBare s.gens →
      (∃ gs, s.gens[g]? = some gs ∧ gs.Goes (model P w) A.in1.in1 (RB false Done) (YB false a g Done) m (.send .none) (s.setGen g .running)) →
      codeAny (model P w) A (.builtin "all.loop" ⟨[.ref a], []⟩) R s := by
  intro m
  induction m with
  | zero =>
    intro s hg hl hb ⟨gs, hgs, hgo⟩
    refine codeAny_builtin F.entry_all_loop ?_
    rw [Around.under_plainId F.plain_all_loop _]
    show wpAny _ A.in1 (pyNext (.ref a) >>= _) _ _ s
    refine wpAny_bind (wpAny_pyNext_genexpQ (A := A.in1) (P := PB false Done) hh hl hd hg hgs hgo (fun v s₁ gs' hbare hv => ?_) (fun s₁ hp h' hk => ?_))
    · obtain ⟨hl1, hg1, hb1, b, rfl, h1, h2⟩ := hv
      refine wpAny_bind (wpAny_holding (wpAny_truthy_bool ?_))
      refine wpAny_bind (wpAny_letGo ?_)
      cases b with
      | true => exact (h2 (by decide) s₁ ⟨fun _ _ e => e, rfl, hb1⟩ : False).elim
      | false =>
        simp only [Bool.false_eq_true, if_false]
        refine wpAny_bind (wpAny_rule (wpAny_pure ?_))
        exact hR false _ (h1 rfl _ ⟨fun _ _ e => e, rfl, allBare_setGen hb1 hbare⟩)
    · refine wpAny_bind (wpAny_rule (wpAny_pure ?_))
      exact hR true _ (hp.2 _ ⟨hk, rfl, allBare_setGen hp.1 rfl⟩)
  | succ m ih =>
    intro s hg hl hb ⟨gs, hgs, hgo⟩
    have hgl : g < s.gens.size := (Array.getElem?_eq_some_iff.mp hgs).1
    refine codeAny_builtin F.entry_all_loop ?_
    rw [Around.under_plainId F.plain_all_loop _]
    show wpAny _ A.in1 (pyNext (.ref a) >>= _) _ _ s
    refine wpAny_bind (wpAny_gsz (n := g + 1) hgl (wpAny_pyNext_genexpQ (A := A.in1) (P := PB false Done) hh hl hd hg hgs hgo (fun v s₁ gs' hbare hv => ?_) (fun s₁ hp h' hk => ?_)))
    · intro hsz
      obtain ⟨hl1, hg1, hb1, b, rfl, h1, h2⟩ := hv
      refine wpAny_bind (wpAny_holding (wpAny_truthy_bool ?_))
      refine wpAny_bind (wpAny_letGo ?_)
      cases b with
      | true =>
        simp only [if_true]
        have hsz1 : g < s₁.gens.size := by
          have q : (s₁.setGen g gs').gens.size = s₁.gens.size := setGen_size _ _ _
          have hsz' : g + 1 ≤ (s₁.setGen g gs').gens.size := hsz
          omega
        refine wpAny_pure ⟨plainId_quiet F.plain_all_loop _, ih (s₁.setGen g gs') hg1 hl1 (allBare_setGen hb1 hbare) ⟨gs', setGen_at hsz1, ?_⟩⟩
        exact h2 (by decide) ((s₁.setGen g gs').setGen g .running) ⟨fun _ _ e => e, rfl, allBare_setGen (allBare_setGen hb1 hbare) rfl⟩
      | false =>
        simp only [Bool.false_eq_true, if_false]
        refine wpAny_bind (wpAny_rule (wpAny_pure ?_))
        exact hR false _ (h1 rfl _ ⟨fun _ _ e => e, rfl, allBare_setGen hb1 hbare⟩)
    · intro _
      refine wpAny_bind (wpAny_rule (wpAny_pure ?_))
      exact hR true _ (hp.2 _ ⟨hk, rfl, allBare_setGen hp.1 rfl⟩)
theorem any_loop (hh : A.handled = none) (hd : A.depth < recursionLimit) (hR : ∀ b s', Done b s' → R (.ok (.ret (.bool b))) s') :
    ∀ (m : Nat) (s : Shared), s.heap.IsGen a g → s.heap.NoLimit → AllBare s.gens →
      (∃ gs, s.gens[g]? = some gs ∧ gs.Goes (model P w) A.in1.in1 (RB true Done) (YB true a g Done) m (.send .none) (s.setGen g .running)) →
      codeAny (model P w) A (.builtin "any.loop" ⟨[.ref a], []⟩) R s := by
  intro m
  induction m with
  | zero =>
    intro s hg hl hb ⟨gs, hgs, hgo⟩
    refine codeAny_builtin F.entry_any_loop ?_
    rw [Around.under_plainId F.plain_any_loop _]
    show wpAny _ A.in1 (pyNext (.ref a) >>= _) _ _ s
    refine wpAny_bind (wpAny_pyNext_genexpQ (A := A.in1) (P := PB true Done) hh hl hd hg hgs hgo (fun v s₁ gs' hbare hv => ?_) (fun s₁ hp h' hk => ?_))
    · obtain ⟨hl1, hg1, hb1, b, rfl, h1, h2⟩ := hv
      refine wpAny_bind (wpAny_holding (wpAny_truthy_bool ?_))
      refine wpAny_bind (wpAny_letGo ?_)
      cases b with
      | false => exact (h2 (by decide) s₁ ⟨fun _ _ e => e, rfl, hb1⟩ : False).elim
      | true =>
        simp only [if_true]
        refine wpAny_bind (wpAny_rule (wpAny_pure ?_))
        exact hR true _ (h1 rfl _ ⟨fun _ _ e => e, rfl, allBare_setGen hb1 hbare⟩)
    · refine wpAny_bind (wpAny_rule (wpAny_pure ?_))
      exact hR false _ (hp.2 _ ⟨hk, rfl, allBare_setGen hp.1 rfl⟩)
  | succ m ih =>
    intro s hg hl hb ⟨gs, hgs, hgo⟩
    have hgl : g < s.gens.size := (Array.getElem?_eq_some_iff.mp hgs).1
    refine codeAny_builtin F.entry_any_loop ?_
    rw [Around.under_plainId F.plain_any_loop _]
    show wpAny _ A.in1 (pyNext (.ref a) >>= _) _ _ s
    refine wpAny_bind (wpAny_gsz (n := g + 1) hgl (wpAny_pyNext_genexpQ (A := A.in1) (P := PB true Done) hh hl hd hg hgs hgo (fun v s₁ gs' hbare hv => ?_) (fun s₁ hp h' hk => ?_)))
    · intro hsz
      obtain ⟨hl1, hg1, hb1, b, rfl, h1, h2⟩ := hv
      refine wpAny_bind (wpAny_holding (wpAny_truthy_bool ?_))
      refine wpAny_bind (wpAny_letGo ?_)
      cases b with
      | false =>
        simp only [Bool.false_eq_true, if_false]
        have hsz1 : g < s₁.gens.size := by
          have q : (s₁.setGen g gs').gens.size = s₁.gens.size := setGen_size _ _ _
          have hsz' : g + 1 ≤ (s₁.setGen g gs').gens.size := hsz
          omega
        refine wpAny_pure ⟨plainId_quiet F.plain_any_loop _, ih (s₁.setGen g gs') hg1 hl1 (allBare_setGen hb1 hbare) ⟨gs', setGen_at hsz1, ?_⟩⟩
        exact h2 (by decide) ((s₁.setGen g gs').setGen g .running) ⟨fun _ _ e => e, rfl, allBare_setGen (allBare_setGen hb1 hbare) rfl⟩
      | true =>
        simp only [if_true]
        refine wpAny_bind (wpAny_rule (wpAny_pure ?_))
        exact hR true _ (h1 rfl _ ⟨fun _ _ e => e, rfl, allBare_setGen hb1 hbare⟩)
    · intro _
      refine wpAny_bind (wpAny_rule (wpAny_pure ?_))
      exact hR false _ (hp.2 _ ⟨hk, rfl, allBare_setGen hp.1 rfl⟩)
variable {s : Shared} {c : Code} {m : Nat} {Q : Value → Shared → Prop}
theorem call_allG (hh : A.handled = none) (hd : A.depth < recursionLimit) (hg : s.heap.IsGen a g) (hl : s.heap.NoLimit) (hb : AllBare s.gens) (hgs : s.gens[g]? = some (.fresh c))
    (hseg : ∀ s', Lk s s' → Seg (model P w) A.in1.in1 (RB false Done) (YB false a g Done) m s' c ((model P w).den c) [] s') (hQ : ∀ b s', Done b s' → Q (.bool b) s') :
    wpAny (model P w) A (call (.builtin "all") [.ref a]) Q E s := by
  refine call_function_tree F.kind_all F.plain_all F.entry_all (F.args_all1 _) ?_
  unfold Builtin.«all»
  refine wpAny_bind (m := oneArg "all" _) (wpAny_pure ?_)
  refine wpAny_bind (wpAny_pyIter_gen hg ?_)
  exact wpAny_pure ⟨plainId_quiet F.plain_all_loop _, all_loop hh hd hQ m s hg hl hb ⟨_, hgs, rfl, hseg _ ⟨fun _ _ e => e, rfl, allBare_setGen hb rfl⟩⟩⟩
theorem call_anyG (hh : A.handled = none) (hd : A.depth < recursionLimit) (hg : s.heap.IsGen a g) (hl : s.heap.NoLimit) (hb : AllBare s.gens) (hgs : s.gens[g]? = some (.fresh c))
    (hseg : ∀ s', Lk s s' → Seg (model P w) A.in1.in1 (RB true Done) (YB true a g Done) m s' c ((model P w).den c) [] s') (hQ : ∀ b s', Done b s' → Q (.bool b) s') :
    wpAny (model P w) A (call (.builtin "any") [.ref a]) Q E s := by
  refine call_function_tree F.kind_any F.plain_any F.entry_any (F.args_any1 _) ?_
  unfold Builtin.«any»
  refine wpAny_bind (m := oneArg "any" _) (wpAny_pure ?_)
  refine wpAny_bind (wpAny_pyIter_gen hg ?_)
  exact wpAny_pure ⟨plainId_quiet F.plain_any_loop _, any_loop hh hd hQ m s hg hl hb ⟨_, hgs, rfl, hseg _ ⟨fun _ _ e => e, rfl, allBare_setGen hb rfl⟩⟩⟩
end
end Gx

namespace Gx
open PySem PySem.Spec PyProof.Rows L2 R GenW

/-- the generator's own run: made at s, H; its iterator's objects at fp -/
abbrev gcx (X : Cx) (A : Around) (env : PySem.Env) (s : Shared) (H : Hp) (fp : List Addr) : Cx := { X with A := A, s_0 := s, H_0 := H, env := env, outer := X.stack, stack := env :: X.stack, ex := fp, fn := fun _ => false, calm := true, pn := [], xe := fun _ _ => False }
abbrev genv (X : Cx) (scope : Scope) (C : Addr) (code : Value) : PySem.Env := genEnv scope (cloFrom X.env.cells scope.names []) C code builtinsNs X.env
section
variable {X : Cx} {pins : List (Addr × Obj)} {σ : L2.St} {H : Hp} {s : Shared}
theorem gen_start {scope : Scope} {own : List (Str × Nat)} {fp : List Addr} {A : Around} {C a : Addr} {code : Value} {go : Obj} {H' : Hp} {s' : Shared} {m : Str → Option Value} (I : Inv X pins σ H s) (ok : BlkOk X.N X.env.scope scope own) (hnc : ∀ y ∈ scope.names, y.2 ≠ .cell) (hN : X.N.Nodup)
    (hfp : ∀ b ∈ fp, FpOk X pins H b ∧ b < s.heap.objs.size) (hA : A.handled = none) (hAf : A.frames = some X.stack) (J : Inv X pins σ H' s') (hos : s'.os = s.os) (un : Un (frs X.stack) fp H H' s.heap s'.heap) (hC : s.heap.objs.size ≤ C) (hns : s'.heap.Ns C m) (hCH : H' C = none)
    (ha : s'.heap.get? a = some go) (haH : H' a = none) (haC : a ≠ C) (has : s.heap.objs.size ≤ a) (hgo : ∀ v, go.data ≠ .cell v) :
    Inv (gcx X (A.deeper (genv X scope C code)) (genv X scope C code) s H fp) [(a, go)] (wipe σ (own.map (·.2))) H' s' := by
  have hfree : ∀ y ∈ scope.names, y.2 = .free → ∃ c, X.env.cells.lookup y.1 = some c := fun y hy e => by
    rcases ok.free y hy e with k | k
    · exact I.ok.has _ (.inl k)
    · exact I.ok.has _ (.inr k)
  have cm : ∀ {y c}, (cloFrom X.env.cells scope.names []).lookup y = some c → X.env.cells.lookup y = some c := fun e => NdefX.clo_cm hfree e
  refine ⟨⟨I.ok.mod, ok.kind, I.ok.glob, rfl, hC, fun y z c e1 e2 => I.ok.inj y z c (cm e1) (cm e2), fun y hy => ?_, fun y c z _ => (nomatch z), fun _ => hA, Around.frames_deeper hAf, .inr ⟨rfl, rfl⟩, fun b hb => ⟨fun z => ?_, fun y c e => (hfp b hb).1.2.2.2.2.1 y c (cm e)⟩,
      I.bs, Nat.le_trans I.ok.bsz I.sz, fun b o e hb => ?_, fun b hb z => ?_, I.stack, I.stkFree⟩, hos, J.bare, un, ⟨m, hns, fun i y v e1 e2 e3 => ?_⟩, fun y c e => J.cell y c (cm e), hCH, fun y c e => J.freeC y c (cm e), fun p hp => ?_, J.hok, by rw [wipe_length]; exact I.len⟩
  · rcases hy with hy | hy
    · exact absurd rfl (hnc _ (PySem.mem_of_lookup hy))
    · have hm := PySem.mem_of_lookup hy
      obtain ⟨c, hc⟩ := hfree _ hm rfl
      exact ⟨c, NdefX.clo_has hfree hm hc⟩
  · have h1 := (hfp b hb).2
    have z : b = C := z
    rw [z] at h1
    exact absurd (Nat.lt_of_lt_of_le h1 hC) (Nat.lt_irrefl _)
  · rcases (hfp b hb).1.2.2.2.1 with z | z
    · exact I.ok.noex b o e z
    · exact absurd (Nat.lt_of_lt_of_le (Heap.lt_size e) (Nat.le_trans I.ok.bsz z)) (Nat.lt_irrefl _)
  · rcases List.mem_cons.mp (I.stkSub b z) with z | z
    · exact (hfp b hb).1.2.1 z
    · exact (hfp b hb).1.2.2.1 z
  · obtain ⟨e2, hne⟩ := wipe_some e2
    have no : ∀ k, scope.names.lookup y = some k → ¬ (k = .local ∨ k = .cell) := fun k e hh => by
      rcases ok.own _ (PySem.mem_of_lookup e) hh with e' | e'
      · obtain ⟨p, hp, hpy⟩ := List.mem_map.mp e'
        have e3 := ok.ix p hp
        have : p.1 = y := hpy
        rw [this] at e3
        exact hne (List.mem_map.mpr ⟨p, hp, nodup_ix hN e3 e1⟩)
      · exact e' (List.mem_of_getElem? e1)
    have e3 : Vis scope y := e3
    rcases e3 with e3 | e3 | e3
    · exact absurd (.inl rfl) (no _ e3)
    · exact absurd (.inr rfl) (no _ e3)
    · have hm := PySem.mem_of_lookup e3
      obtain ⟨m0, _, hl⟩ := J.loc
      have ko := ok.free _ hm rfl
      obtain ⟨u, r, l⟩ := hl i y v e1 e2 (by rcases ko with k | k; exact .inr (.inl k); exact .inr (.inr k))
      refine ⟨u, r, ?_⟩
      rcases l with ⟨k1, _⟩ | ⟨_, c, e, z⟩
      · have k1 : X.env.scope.names.lookup y = some .local := k1
        rcases ko with k | k
        · have k : X.env.scope.names.lookup y = some .cell := k
          rw [k1] at k; cases k
        · have k : X.env.scope.names.lookup y = some .free := k
          rw [k1] at k; cases k
      · exact .inr ⟨.inr e3, c, NdefX.clo_has hfree hm e, z⟩
  · have hp : p ∈ [(a, go)] := hp
    rw [List.mem_singleton.mp hp]
    refine ⟨ha, haH, haC, fun z => ?_, hgo⟩
    rcases List.mem_cons.mp (I.stkSub a z) with z | z
    · exact absurd I.lt (by rw [← z]; exact Nat.not_lt.mpr has)
    · exact I.nofs has z

/-! ### its run -/
def GaGo (stop : Bool) (J : It) (g : TG) (te : TE) (vs : List Nat) (σ : L2.St) (H1 : Hp) (Q : VK) : Prop := ∃ W : Nat → Nat → Hp → Prop, (∃ m, W 0 m H1) ∧ ∀ i m H, W i m H →
  (J.stop i H ∧ Q (.bl (!stop)) H) ∨ (J.go i H ∧ ∃ Nx : Hp → Prop, (∀ H', Nx H' → ∃ m', m = m' + 1 ∧ W (i + 1) m' H') ∧ ∀ x H', J.yld i H x H' → g x (wipe σ vs) H' fun σ2 H2 => wipe σ2 vs = wipe σ vs ∧ te σ2 H2 fun y H3 => ∃ b, y = .bl b ∧ (b = stop → Q (.bl stop) H3) ∧ (b ≠ stop → Nx H3))
variable {H0 : Hp} {s0 : Shared}
/-- the asker's context again -/
theorem gen_done {A : Around} {env : PySem.Env} {fp : List Addr} {p2 : List (Addr × Obj)} {σ2 : L2.St} {s1 s' : Shared} {Q : VK} {b : Bool} (I : Inv X pins σ H0 s0) (hfp : ∀ b ∈ fp, FpOk X pins H0 b) (J : Inv (gcx X A env s0 H0 fp) p2 σ2 H s1) (l : Lk s1 s') (q : Q (.bl b) H) : EP X pins σ Q (.bool b) s' := by
  refine ⟨.bl b, H, I.call' (ch := fp) (l.2.1.trans J.os) (J.base.trans (Un.kept l.1)) (J.hok.kept l.1) l.2.2 fun c hc => ?_, rfl, q⟩
  obtain ⟨_, h2, _, h4, h5, h6⟩ := hfp c hc
  exact ⟨h4, h2, h5, h6⟩
theorem gen_lk {A : Around} {env : PySem.Env} {fp : List Addr} {p2 : List (Addr × Obj)} {σ2 : L2.St} {s1 s' : Shared} (J : Inv (gcx X A env s0 H0 fp) p2 σ2 H s1) (l : Lk s1 s') : Inv (gcx X A env s0 H0 fp) p2 σ2 H s' :=
  J.call' (ch := []) l.2.1 (Un.kept l.1) (J.hok.kept l.1) l.2.2 fun _ z => nomatch z
theorem sbw {M : Model} {B : Around} {R : GenEnd} {Y : Protocol} {n : Nat} {s₀ s : Shared} {elt : Expr} {gens : List Comprehension} {scope : Scope} {pos : Pos} {it acc : Value} {env : PySem.Env} {α β : Type} {m : Sem α} {K : α → Sem β} {K' : β → Sem PySem.Fin} {H' : Value → Sem PySem.Fin} {gd lv}
    (h : wpAny M (B.deeper env) m (fun a s' => Seg M B R Y n s₀ (.compLoop (.GeneratorExp elt gens scope pos) 0 it acc env) ((K a).wrap K' H' gd lv) [] s') (fun x s' => Seg M B R Y n s₀ (.compLoop (.GeneratorExp elt gens scope pos) 0 it acc env) (H' x) [] s') s) :
    Seg M B R Y n s₀ (.compLoop (.GeneratorExp elt gens scope pos) 0 it acc env) ((m >>= K).wrap K' H' gd lv) [] s := seg_bind_wrap (by rw [over_gl]; exact h)
theorem sw {M : Model} {B : Around} {R : GenEnd} {Y : Protocol} {n : Nat} {s₀ s : Shared} {elt : Expr} {gens : List Comprehension} {scope : Scope} {pos : Pos} {it acc : Value} {env : PySem.Env} {α : Type} {m : Sem α} {K : α → Sem PySem.Fin} {H' : Value → Sem PySem.Fin} {gd lv}
    (h : wpAny M (B.deeper env) m (fun a s' => Seg M B R Y n s₀ (.compLoop (.GeneratorExp elt gens scope pos) 0 it acc env) (K a) [] s') (fun x s' => Seg M B R Y n s₀ (.compLoop (.GeneratorExp elt gens scope pos) 0 it acc env) (H' x) [] s') s) :
    Seg M B R Y n s₀ (.compLoop (.GeneratorExp elt gens scope pos) 0 it acc env) (m.wrap K H' gd lv) [] s := seg_wrap (by rw [over_gl]; exact h)
theorem seg_loop {stop : Bool} {B : Around} {elt iter tg : Expr} {scope : Scope} {pos : Pos} {C a it : Addr} {g : Nat} {code : Value} {go : Obj} {fp : List Addr} {tn : Nat → Heap → Prop} {J : It} {gt : TG} {te : TE} {vs : List Nat} {Q : VK} {W : Nat → Nat → Hp → Prop}
    (hh : B.handled = none) (hco : scope.isCoroutine = false) (I : Inv X pins σ H0 s0) (hfp : ∀ b ∈ fp, FpOk X pins H0 b) (T : Turn X.prog X.w X.K tg J fp it tn) (hgo : ∀ h : Heap, h.get? a = some go → h.IsGen a g)
    (stat : ∀ {H' : Hp}, (∀ b ∈ fp, H' b = none) → ∀ b ∈ fp, FpOk (gcx X (B.deeper (genv X scope C code)) (genv X scope C code) s0 H0 fp) [(a, go)] H' b)
    (pg : PG (gcx X (B.deeper (genv X scope C code)) (genv X scope C code) s0 H0 fp) tg gt) (pe : PE (gcx X (B.deeper (genv X scope C code)) (genv X scope C code) s0 H0 fp) elt te)
    (turn : ∀ i m H, W i m H → (J.stop i H ∧ Q (.bl (!stop)) H) ∨ (J.go i H ∧ ∃ Nx : Hp → Prop, (∀ H', Nx H' → ∃ m', m = m' + 1 ∧ W (i + 1) m' H') ∧ ∀ x H', J.yld i H x H' → gt x (wipe σ vs) H' fun σ2 H2 => wipe σ2 vs = wipe σ vs ∧ te σ2 H2 fun y H3 => ∃ b, y = .bl b ∧ (b = stop → Q (.bl stop) H3) ∧ (b ≠ stop → Nx H3))) :
    ∀ (m i : Nat) (H : Hp) (s₀ s : Shared), W i m H → Inv (gcx X (B.deeper (genv X scope C code)) (genv X scope C code) s0 H0 fp) [(a, go)] (wipe σ vs) H s → tn i s.heap → (∀ b ∈ fp, H b = none) →
      Seg (model X.prog X.w) B (RB stop fun b s' => EP X pins σ Q (.bool b) s') (YB stop a g fun b s' => EP X pins σ Q (.bool b) s') (m + 1) s₀
        (.compLoop (.GeneratorExp elt [⟨tg, iter, [], 0⟩] scope pos) 0 (.ref it) .none (genv X scope C code))
        ((model X.prog X.w).den (.compLoop (.GeneratorExp elt [⟨tg, iter, [], 0⟩] scope pos) 0 (.ref it) .none (genv X scope C code))) [] s := by
  intro m
  induction m with
  | zero =>
    intro i H s₀ s w I1 st fr
    show Seg _ B _ _ _ s₀ _ ((compTurn (.GeneratorExp elt [⟨tg, iter, [], 0⟩] scope pos) 0 (.ref it) .none (genv X scope C code)).onRaise (leaving (genv X scope C code))) [] s
    rw [compTurn_gen, Sem.onRaise_eq_wrap]
    refine sbw (wpAny_standAt ?_)
    rcases turn i _ H w with ⟨hst, q⟩ | ⟨hgo', Nx, hN, step⟩
    · refine sbw (wpAny_mono (T.done (gcx X (B.deeper (genv X scope C code)) (genv X scope C code) s0 H0 fp) rfl rfl rfl rfl i _ s (wipe σ vs) H (fun _ _ => False) I1 (stat fr) st hst) (fun r s1 h => ?_) fun _ _ (z : False) => False.elim z)
      obtain ⟨hr, I2⟩ := h
      subst hr
      exact seg_end (.ok .next) ⟨rfl, I2.bare, fun s' l => gen_done I hfp I2 l q⟩
    · refine sbw (wpAny_mono (T.item (gcx X (B.deeper (genv X scope C code)) (genv X scope C code) s0 H0 fp) rfl rfl rfl rfl i _ s (wipe σ vs) H (fun _ _ => False) I1 (stat fr) st hgo') (fun r s1 h => ?_) fun _ _ (z : False) => False.elim z)
      obtain ⟨u, hr, h4⟩ := h
      subst hr
      refine sbw (wpAny_mono h4 (fun _ s2 h => ?_) fun _ _ (z : False) => False.elim z)
      obtain ⟨x, H2, I2, rx, hy, st2, fr2⟩ := h
      have I2' := I2.pinned (stat fr2) (T.obj _ _ st2)
      refine sbw (wpAny_mono (pg.run _ s2 (wipe σ vs) H2 x u _ I2' rx (step x H2 hy)) (fun _ s3 h => ?_) fun _ _ (z : False) => False.elim z)
      obtain ⟨σ3, H3, I3, hw, hte⟩ := h
      simp only [List.forIn_nil]
      refine sbw (wpAny_pure ?_)
      simp only [if_true]
      have hy2 : ∀ v, yieldOut (genv X scope C code) v = yieldValue v := fun v => by
        have : (genv X scope C code).scope.isCoroutine = false := hco
        simp only [yieldOut, this, Bool.false_eq_true, if_false]
      simp only [hy2]
      rw [Sem.bind_eq_wrap', Sem.bind_eq_wrap', Sem.wrap_wrap, Sem.wrap_wrap]
      refine sw (wpAny_mono (pe.run _ s3 σ3 H3 _ I3 hte) (fun y s4 h => ?_) fun _ _ (z : False) => False.elim z)
      obtain ⟨v, H4, I4, rv, b, rfl, hst1, hst2⟩ := h
      have ev : y = Value.bool b := rv
      subst ev
      have pin : ∀ c ∈ fp, ∀ o, s2.heap.get? c = some o → s4.heap.get? c = some o ∧ H4 c = none := fun c hc o e => by
        obtain ⟨z1, z2, _⟩ := I4.pin (c, o) (List.mem_append_right _ (List.mem_append_right _ (mem_pinsAt hc e)))
        exact ⟨z1, z2⟩
      have ga : s4.heap.get? a = some go := (I4.pin (a, go) (List.mem_append_right _ (List.mem_append_left _ (List.mem_singleton.mpr rfl)))).1
      refine seg_at (seg_yield rfl rfl rfl ⟨I4.nolimit, hgo _ ga, I4.bare, b, rfl, fun e s' l => gen_done I hfp I4 l (hst1 e), fun ne s' l => ?_⟩)
      obtain ⟨m', hm, _⟩ := hN H4 (hst2 ne)
      exact absurd hm (by omega)
  | succ m ih =>
    intro i H s₀ s w I1 st fr
    show Seg _ B _ _ _ s₀ _ ((compTurn (.GeneratorExp elt [⟨tg, iter, [], 0⟩] scope pos) 0 (.ref it) .none (genv X scope C code)).onRaise (leaving (genv X scope C code))) [] s
    rw [compTurn_gen, Sem.onRaise_eq_wrap]
    refine sbw (wpAny_standAt ?_)
    rcases turn i _ H w with ⟨hst, q⟩ | ⟨hgo', Nx, hN, step⟩
    · refine sbw (wpAny_mono (T.done (gcx X (B.deeper (genv X scope C code)) (genv X scope C code) s0 H0 fp) rfl rfl rfl rfl i _ s (wipe σ vs) H (fun _ _ => False) I1 (stat fr) st hst) (fun r s1 h => ?_) fun _ _ (z : False) => False.elim z)
      obtain ⟨hr, I2⟩ := h
      subst hr
      exact seg_end (.ok .next) ⟨rfl, I2.bare, fun s' l => gen_done I hfp I2 l q⟩
    · refine sbw (wpAny_mono (T.item (gcx X (B.deeper (genv X scope C code)) (genv X scope C code) s0 H0 fp) rfl rfl rfl rfl i _ s (wipe σ vs) H (fun _ _ => False) I1 (stat fr) st hgo') (fun r s1 h => ?_) fun _ _ (z : False) => False.elim z)
      obtain ⟨u, hr, h4⟩ := h
      subst hr
      refine sbw (wpAny_mono h4 (fun _ s2 h => ?_) fun _ _ (z : False) => False.elim z)
      obtain ⟨x, H2, I2, rx, hy, st2, fr2⟩ := h
      have I2' := I2.pinned (stat fr2) (T.obj _ _ st2)
      refine sbw (wpAny_mono (pg.run _ s2 (wipe σ vs) H2 x u _ I2' rx (step x H2 hy)) (fun _ s3 h => ?_) fun _ _ (z : False) => False.elim z)
      obtain ⟨σ3, H3, I3, hw, hte⟩ := h
      simp only [List.forIn_nil]
      refine sbw (wpAny_pure ?_)
      simp only [if_true]
      have hy2 : ∀ v, yieldOut (genv X scope C code) v = yieldValue v := fun v => by
        have : (genv X scope C code).scope.isCoroutine = false := hco
        simp only [yieldOut, this, Bool.false_eq_true, if_false]
      simp only [hy2]
      rw [Sem.bind_eq_wrap', Sem.bind_eq_wrap', Sem.wrap_wrap, Sem.wrap_wrap]
      refine sw (wpAny_mono (pe.run _ s3 σ3 H3 _ I3 hte) (fun y s4 h => ?_) fun _ _ (z : False) => False.elim z)
      obtain ⟨v, H4, I4, rv, b, rfl, hst1, hst2⟩ := h
      have ev : y = Value.bool b := rv
      subst ev
      have pin : ∀ c ∈ fp, ∀ o, s2.heap.get? c = some o → s4.heap.get? c = some o ∧ H4 c = none := fun c hc o e => by
        obtain ⟨z1, z2, _⟩ := I4.pin (c, o) (List.mem_append_right _ (List.mem_append_right _ (mem_pinsAt hc e)))
        exact ⟨z1, z2⟩
      have ga : s4.heap.get? a = some go := (I4.pin (a, go) (List.mem_append_right _ (List.mem_append_left _ (List.mem_singleton.mpr rfl)))).1
      refine seg_at (seg_yield rfl rfl rfl ⟨I4.nolimit, hgo _ ga, I4.bare, b, rfl, fun e s' l => gen_done I hfp I4 l (hst1 e), fun ne s' l => ?_⟩)
      obtain ⟨m', hm, w'⟩ := hN H4 (hst2 ne)
      obtain rfl : m = m' := by omega
      have I5 := gen_lk I4 l
      have hl : (wipe σ vs).length = σ3.length := by rw [← hw, wipe_length]
      refine seg_again rfl (ih (i + 1) H4 s' s' w' (I5.unpinned.weak hl fun j v e => by rw [← hw] at e; exact (wipe_some e).1) ?_ fun c hc => ?_)
      · exact T.keep _ _ _ st2 fun c hc o e => l.1 c o (pin c hc o e).1
      · obtain ⟨o, e, _⟩ := T.obj _ _ st2 c hc
        exact (pin c hc o e).2
end
end Gx

namespace Gx
open PySem PySem.Spec PyProof.Rows L2 R GenW
/-- the table at P is grown by more -/
def tgr (H : Hp) (P : Addr) (ps more : Array Value) : Hp := upd H P (.tbl (ps ++ more))
theorem tgr_ne {H : Hp} {P b : Addr} {ps more : Array Value} (h : b ≠ P) : tgr H P ps more b = H b := upd_ne h
theorem tgr_same {H : Hp} {P : Addr} {ps more : Array Value} : tgr H P ps more P = some (.tbl (ps ++ more)) := upd_same
section
variable {X : Cx} {pins : List (Addr × Obj)} {σ : L2.St} {H : Hp} {s : Shared}
abbrev DoneE (X : Cx) (pins : List (Addr × Obj)) (σ : L2.St) (Q : VK) : Bool → Shared → Prop := fun b s' => EP X pins σ Q (.bool b) s'
def Ready (X : Cx) (k : Nat) (pins : List (Addr × Obj)) (σ : L2.St) (stop : Bool) (Q : VK) (a : Addr) (s5 : Shared) : Prop := ∃ g c m, s5.heap.IsGen a g ∧ s5.heap.NoLimit ∧ AllBare s5.gens ∧ s5.gens[g]? = some (.fresh c) ∧
  ∀ B : Around, Room (k + 1) B → B.frames = some X.stack → ∀ s6, Lk s5 s6 → Seg (model X.prog X.w) B (RB stop (DoneE X pins σ Q)) (YB stop a g (DoneE X pins σ Q)) m s6 c ((model X.prog X.w).den c) [] s6
theorem un_tab {fs fp : List Addr} {P : Addr} {ps more : Array Value} {h h' : Heap} (hP : H P = some (.tbl ps)) (kp : ∀ b o, b ≠ P → h.get? b = some o → h'.get? b = some o) (hm : h'.get? P = some { cls := .none, data := .fields (ps ++ more) }) : Un fs fp H (tgr H P ps more) h h' := by
  have nN : ∀ b, H b = none → b ≠ P := fun b e z => by rw [z, hP] at e; cases e
  have nP : ∀ b u, H b = some u → (∀ q, u ≠ .tbl q) → b ≠ P := fun b u e q z => by
    rw [z, hP] at e
    exact q ps (Option.some.inj e).symm
  refine ⟨fun b o e n _ _ => kp b o (nN b n) e, fun b o e n _ _ => ⟨o.slots, kp b o (nN b n) e⟩, fun b o e n _ => by rw [tgr_ne (nN b n)]; exact n, fun b o e _ => ?_, fun b xs e => by rw [tgr_ne (nP b _ e (fun q z => by cases z))]; exact e, fun b o u e => by rw [tgr_ne (nP b _ e (fun q z => by cases z))]; exact e, fun b qs e => ?_⟩
  · by_cases hb : b = P
    · rw [hb]; exact ⟨_, hm⟩
    · exact ⟨o, kp b o hb e⟩
  · by_cases hb : b = P
    · rw [hb, hP] at e
      cases e
      rw [hb]
      exact ⟨more, tgr_same⟩
    · exact ⟨#[], by rw [tgr_ne hb, e]; simp⟩
theorem eval_gen {k : Nat} {c P : Addr} {elt iter target : Expr} {gpos : Pos} {scope : Scope} {own : List (Str × Nat)} {wi : TI} {gt : TG} {te : TE} {stop : Bool} {Q : VK} {Q' : Value → Shared → Prop}
    (hr : Room k X.A) (TB : GxR.TabB X.base X.mg c P) (hcode : X.env.code = .ref c) (hco : scope.isCoroutine = false) (hdot : scope.names.lookup (".0" : Str) = some NameKind.local) (hnc : ∀ y ∈ scope.names, y.2 ≠ .cell) (hN : X.N.Nodup)
    (hi : PI X target iter wi) (ok : BlkOk X.N X.env.scope scope own)
    (hg : ∀ (B : Around) (C : Addr) (code : Value) (s : Shared) (H : Hp) (fp : List Addr), PG (gcx X (B.deeper (genv X scope C code)) (genv X scope C code) s H fp) target gt)
    (he : ∀ (B : Around) (C : Addr) (code : Value) (s : Shared) (H : Hp) (fp : List Addr), Room k (B.deeper (genv X scope C code)) → PE (gcx X (B.deeper (genv X scope C code)) (genv X scope C code) s H fp) elt te)
    (hs : ∀ v, genFold iter X.env v = pure v) (I : Inv X pins σ H s)
    (h : wi σ H fun J H1 => ∃ ps : Array Value, H1 P = some (.tbl ps) ∧ TriplesOk ps.toList ∧ ∀ more : Array Value, TriplesOk (ps ++ more).toList → GaGo stop J gt te (own.map (·.2)) σ (tgr H1 P ps more) Q)
    (hQ : ∀ a s5, Ready X k pins σ stop Q a s5 → Q' (.ref a) s5) :
    wpAny (model X.prog X.w) X.A (eval (.GeneratorExp elt [⟨target, iter, [], 0⟩] scope gpos) X.env) Q' X.xe s := by
  have hfree : ∀ y ∈ scope.names, y.2 = .free → ∃ c, X.env.cells.lookup y.1 = some c := fun y hy e => by
    rcases ok.free y hy e with k | k
    · exact I.ok.has _ (.inl k)
    · exact I.ok.has _ (.inr k)
  refine wpAny_GeneratorExp_make hco (closure_ok hfree) hnc hdot ok.kind (by have := hr.dp; omega) ?_ hs
  refine thn (hi.run pins s σ H _ I h) fun xv s1 h1 => thn h1 fun itv s2 hp => ?_
  obtain ⟨it, fp, tn, J, H1, rfl, I2, T, st, hfp, ps, hP, ht, q⟩ := hp
  refine ⟨I2.nolimit, ?_⟩
  have hPs : s2.heap.get? P = some { cls := .none, data := .fields ps } := I2.hok P _ hP
  have cd : PySem.W.CodeHd s2.heap c P := TB.code.keeps I2.bk
  have hfp2 : ∀ b ∈ fp, FpOk X pins H1 b ∧ b < s2.heap.objs.size := fun b hb => by
    obtain ⟨o, e, _⟩ := T.obj _ _ st b hb
    exact ⟨hfp b hb, Heap.lt_size e⟩
  have cont : ∀ (code : Value) (h3 : Heap) (tk : Nat) (ps' : Array Value), Heap.ExtBut P s2.heap h3 → s2.heap.objs.size ≤ h3.objs.size → h3.get? P = some { cls := .none, data := .fields ps' } → (∃ more, ps' = ps ++ more) → TriplesOk ps'.toList →
      wpAny (model X.prog X.w) X.A (builtinsFor X.env.globals X.env.builtins) (fun bi s₄ =>
        ∀ h', h'.Ns s₄.heap.objs.size (fun y => if y = ".0" then some (.ref it) else none) → Heap.SameBut s₄.heap.objs.size (s₄.heap.push { cls := .type "frame", data := .dict #[] }) h' →
          Q' (.ref h'.objs.size) { s₄ with
            gens := s₄.gens.push (.fresh (.compStart (.GeneratorExp elt [⟨target, iter, [], 0⟩] scope gpos) 0 (.ref it) .none (genEnv scope (cloFrom X.env.cells scope.names []) s₄.heap.objs.size code bi X.env))),
            toks := s₄.toks + 1 + 1 + 1,
            heap := h'.push { cls := .type "generator", data := .fields #[.int s₄.gens.size 0, .str "<genexpr>" (s₄.toks + 1), .str (X.env.qual ++ "<genexpr>") (s₄.toks + 1 + 1)] } }) X.xe { s2 with heap := h3, toks := tk } := by
    intro code h3 tk ps' hx hsz hP3 hmore ht3
    obtain ⟨more, rfl⟩ := hmore
    obtain ⟨bm, ob, e1, e2, e3, e4, e5, e6, e7, e8⟩ := TB.bm
    refine wpAny_builtinsFor (m := X.mg) (by rw [I2.ok.glob]; exact (I2.mod.glob.keeps I2.bk).extBut hx TB.gP) e1 e2 (hx _ _ e4 (I2.bk _ _ e5)) e6 e7 e8 ?_
    intro h' hn' hs'
    generalize hgo : ({ cls := .type "generator", data := .fields #[.int s2.gens.size 0, .str "<genexpr>" (tk + 1), .str (X.env.qual ++ "<genexpr>") (tk + 1 + 1)] } : Obj) = go
    have hsz' : h'.objs.size = h3.objs.size + 1 := by rw [hs'.1, Heap.size_push]
    have kp : ∀ b o, b ≠ P → s2.heap.get? b = some o → (h'.push go).get? b = some o := fun b o hb e => by
      have e3 := hx b o hb e
      exact Heap.get?_push_of_some _ (hs'.extBut b o (Nat.ne_of_lt (Heap.lt_size e3)) (Heap.get?_push_of_some _ e3))
    have hm5 : (h'.push go).get? P = some { cls := .none, data := .fields (ps ++ more) } := Heap.get?_push_of_some _ (hs'.extBut P _ (Nat.ne_of_lt (Heap.lt_size hP3)) (Heap.get?_push_of_some _ hP3))
    have bare5 : AllBare (s2.gens.push (.fresh (.compStart (.GeneratorExp elt [⟨target, iter, [], 0⟩] scope gpos) 0 (.ref it) .none (genv X scope h3.objs.size code)))) := I2.bare.push rfl
    have J5 : Inv X pins σ (tgr H1 P ps more) { s2 with heap := h'.push go, gens := s2.gens.push (.fresh (.compStart (.GeneratorExp elt [⟨target, iter, [], 0⟩] scope gpos) 0 (.ref it) .none (genv X scope h3.objs.size code))), toks := tk + 1 + 1 + 1 } :=
      GxR.inv_tab (more := more) (h' := h'.push go) (d' := s2.drawn) I2 hP kp hm5 bare5
    have nC : P ≠ h3.objs.size := Nat.ne_of_lt (Heap.lt_size hP3)
    have hlt : ∀ b, s2.heap.objs.size ≤ b → b ≠ P → tgr H1 P ps more b = none := fun b hb ne => by
      rw [tgr_ne ne]; exact I2.hok.fresh hb
    have na : h'.objs.size ≠ P := fun z => by
      have h9 : (h'.objs.size : Nat) < h3.objs.size := by
        have h8 := Heap.lt_size hP3
        rw [← z] at h8; exact h8
      omega
    have goG : ∀ hh : Heap, hh.get? h'.objs.size = some go → hh.IsGen h'.objs.size s2.gens.size := fun hh e => ⟨go, _, _, e, by rw [← hgo], by rw [← hgo], by rw [← hgo]⟩
    have goP : ∀ hh : Heap, (hh.push go).get? hh.objs.size = some go := fun hh => by rw [← hgo]; exact Heap.get?_push_size _ rfl
    obtain ⟨W, ⟨m0, w0⟩, turn⟩ := q more ht3
    refine hQ _ _ ⟨s2.gens.size, _, m0 + 1, goG _ (goP _), J5.nolimit, bare5, Array.getElem?_push_size .., fun B hrB hfB s6 l => ?_⟩
    have J6 : Inv X pins σ (tgr H1 P ps more) s6 := J5.call' (ch := []) l.2.1 (Un.kept l.1) (J5.hok.kept l.1) l.2.2 fun _ z => nomatch z
    have ga6 : s6.heap.get? h'.objs.size = some go := l.1 _ _ (goP _)
    have gd : ∀ v, go.data ≠ .cell v := fun v z => by rw [← hgo] at z; cases z
    have I6 := gen_start (C := h3.objs.size) (code := code) (a := h'.objs.size) (go := go) (A := B) I2 ok hnc hN hfp2 hrB.hd hfB J6 (l.2.1.trans rfl) (un_tab hP (fun b o hb e => l.1 b o (kp b o hb e)) (l.1 _ _ hm5)) hsz
      ((hn'.push _).keeps l.1) (hlt _ hsz (Ne.symm nC)) ga6 (hlt _ (by omega) na) (by rw [hsz']; exact Nat.succ_ne_self _) (by omega) gd
    have frz : ∀ b ∈ fp, tgr H1 P ps more b = none := fun b hb => by
      have e0 := (hfp b hb).1
      rw [tgr_ne fun z => by rw [z, hP] at e0; cases e0]
      exact e0
    have stat : ∀ {H' : Hp}, (∀ b ∈ fp, H' b = none) → ∀ b ∈ fp, FpOk (gcx X (B.deeper (genv X scope h3.objs.size code)) (genv X scope h3.objs.size code) s2 H1 fp) [(h'.objs.size, go)] H' b := fun fr b hb => by
      obtain ⟨_, f1, f2, f3, f4, f5⟩ := hfp b hb
      have hlb := (hfp2 b hb).2
      refine ⟨fr b hb, fun z => ?_, fun z => ?_, .inl hb, fun y c e => f4 y c (NdefX.clo_cm hfree e), fun p hp z => ?_⟩
      · have z : b = h3.objs.size := z
        rw [z] at hlb
        exact absurd (Nat.lt_of_lt_of_le hlb hsz) (Nat.lt_irrefl _)
      · rcases List.mem_cons.mp (I2.stkSub b z) with z | z
        · exact f1 z
        · exact f2 z
      · have hp : p ∈ [(h'.objs.size, go)] := hp
        rw [List.mem_singleton.mp hp] at z
        have z : h'.objs.size = b := z
        rw [← z] at hlb
        have hlb : (h'.objs.size : Nat) < s2.heap.objs.size := hlb
        omega
    have st6 : tn 0 s6.heap := T.keep _ _ _ st fun b hb o e => l.1 _ _ (kp b o (fun z => by
      have e0 := (hfp b hb).1
      rw [z, hP] at e0; cases e0) e)
    have loop := seg_loop (iter := iter) (pos := gpos) (g := s2.gens.size) (s₀ := s6) hrB.hd hco I2 hfp T (fun hh e => goG hh e) stat (hg B _ code s2 H1 fp) (he B _ code s2 H1 fp (Room.deeper hrB _)) turn m0 0 _ s6 w0 I6 st6 frz
    show Seg _ B _ _ _ s6 _ ((compStart (.GeneratorExp elt [⟨target, iter, [], 0⟩] scope gpos) 0 (.ref it) .none (genv X scope h3.objs.size code)).onRaise (leaving (genv X scope h3.objs.size code))) [] s6
    unfold compStart
    rw [Sem.onRaise_eq_wrap]
    show Seg _ B _ _ _ s6 _ ((ask >>= _).wrap _ _ _ _) [] s6
    refine seg_bind_wrap (wpAny_askSetting ?_)
    split
    · exact seg_again rfl loop
    · first
        | exact seg_bind_wrap (wpAny_rule (seg_bind_wrap (wpAny_standAt (seg_bind_wrap (T.self _ 0 s6 _ _ st6 (seg_again rfl loop))))))
        | (refine seg_bind_wrap (wpAny_rule ?_); show Seg _ B _ _ _ s6 _ ((standAt iter.pos >>= _).wrap _ _ _ _) [] s6; exact seg_bind_wrap (wpAny_standAt (seg_bind_wrap (T.self _ 0 s6 _ _ st6 (seg_again rfl loop)))))
  cases hf : codeAmong gpos ps.toList with
  | none =>
    refine wpAny_genexprCodeX hcode (cd.code hPs ht) (cd.tab hPs) hf fun c' h' tk hx hge hlt hco' _ htab' _ => ?_
    obtain ⟨o1, vs, f1, tf, fl, tg, inF, tx, tt, op, _, _, _, _, _, _, _, _, _, htr, _⟩ := hco'
    exact cont _ h' tk _ hx (Nat.le_trans hge (Nat.le_of_lt hlt)) htab'.2 ⟨_, rfl⟩ htr
  | some cv =>
    refine wpAny_genexprCode_hit hcode (cd.code hPs ht) hf ?_
    exact cont cv s2.heap s2.toks ps (Heap.ExtBut.refl _ _) (Nat.le_refl _) hPs ⟨#[], by simp⟩ ht
end
end Gx

namespace Gx
open PySem PySem.Spec PyProof.Rows L2 R GenW
section
variable {X : Cx}
def tGa (stop : Bool) (P : Addr) (wi : TI) (gt : TG) (te : TE) (vs : List Nat) : TE := fun σ H Q => wi σ H fun J H1 => ∃ ps : Array Value, H1 P = some (.tbl ps) ∧ TriplesOk ps.toList ∧ ∀ more : Array Value, TriplesOk (ps ++ more).toList → GaGo stop J gt te vs σ (tgr H1 P ps more) Q
theorem room_in2 {k : Nat} {A : Around} (r : Room (k + 2) A) : Room (k + 1) A.in1.in1 := ⟨r.hd, by have := r.dp; show A.depth + 3 * (k + 1) + 5 < _; omega, by have := r.un; show A.units + 1 + 1 + 16 * (k + 1) + 200 < _; omega⟩
theorem pe_allG {k : Nat} {c P : Addr} {elt iter target : Expr} {p pos gpos : Pos} {scope : Scope} {own : List (Str × Nat)} {wi : TI} {gt : TG} {te : TE}
    (hr : Room (k + 2) X.A) (hgl : Gl X "all") (hm : X.mg "all" = none) (hb : bootBuiltins "all" = some (.builtin "all")) (TB : GxR.TabB X.base X.mg c P) (hcode : X.env.code = .ref c) (hco : scope.isCoroutine = false) (hdot : scope.names.lookup (".0" : Str) = some NameKind.local) (hnc : ∀ y ∈ scope.names, y.2 ≠ .cell) (hN : X.N.Nodup)
    (hi : PI X target iter wi) (ok : BlkOk X.N X.env.scope scope own)
    (hg : ∀ (B : Around) (C : Addr) (code : Value) (s : Shared) (H : Hp) (fp : List Addr), PG (gcx X (B.deeper (genv X scope C code)) (genv X scope C code) s H fp) target gt)
    (he : ∀ (B : Around) (C : Addr) (code : Value) (s : Shared) (H : Hp) (fp : List Addr), Room k (B.deeper (genv X scope C code)) → PE (gcx X (B.deeper (genv X scope C code)) (genv X scope C code) s H fp) elt te)
    (hs : ∀ v, genFold iter X.env v = pure v := by intro _; rfl)
    (hst : starEach [.GeneratorExp elt [⟨target, iter, [], 0⟩] scope gpos] X.env = (false, eval (.GeneratorExp elt [⟨target, iter, [], 0⟩] scope gpos) X.env) :: starEach [] X.env := by rfl) :
    PE X (.Call (.Name "all" p) [.GeneratorExp elt [⟨target, iter, [], 0⟩] scope gpos] [] pos) (tGa false P wi gt te (own.map (·.2))) := by
  refine ⟨fun pins s σ H Q I h => ?_⟩
  have hfr : X.A.frames = some X.stack := I.ok.frames
  refine wpAny_Call_Name_kw (ld_blt I hgl hm hb ?_)
  refine PyProof.Rows.callWith_builtin1 ?_ hst (by rfl)
  rw [hst]
  show wpAny _ _ (spliced ((false, eval (.GeneratorExp elt [⟨target, iter, [], 0⟩] scope gpos) X.env) :: backTo pos (starEach [] X.env))) _ _ s
  refine Calls.spliced_cons (eval_gen (k := k) (stop := false) (Q := Q) (hr.mono (by omega)) TB hcode hco hdot hnc hN hi ok hg he hs I h fun a s5 hG => ?_)
  obtain ⟨g, cc, m, h1, h2, h3, h4, h5⟩ := hG
  refine Calls.spliced_nil ?_
  exact call_allG (Done := DoneE X pins σ Q) hr.hd (by have := hr.dp; omega) h1 h2 h3 h4 (fun s' l => h5 _ (room_in2 hr) hfr s' l) fun b s' hd => hd
theorem pe_anyG {k : Nat} {c P : Addr} {elt iter target : Expr} {p pos gpos : Pos} {scope : Scope} {own : List (Str × Nat)} {wi : TI} {gt : TG} {te : TE}
    (hr : Room (k + 2) X.A) (hgl : Gl X "any") (hm : X.mg "any" = none) (hb : bootBuiltins "any" = some (.builtin "any")) (TB : GxR.TabB X.base X.mg c P) (hcode : X.env.code = .ref c) (hco : scope.isCoroutine = false) (hdot : scope.names.lookup (".0" : Str) = some NameKind.local) (hnc : ∀ y ∈ scope.names, y.2 ≠ .cell) (hN : X.N.Nodup)
    (hi : PI X target iter wi) (ok : BlkOk X.N X.env.scope scope own)
    (hg : ∀ (B : Around) (C : Addr) (code : Value) (s : Shared) (H : Hp) (fp : List Addr), PG (gcx X (B.deeper (genv X scope C code)) (genv X scope C code) s H fp) target gt)
    (he : ∀ (B : Around) (C : Addr) (code : Value) (s : Shared) (H : Hp) (fp : List Addr), Room k (B.deeper (genv X scope C code)) → PE (gcx X (B.deeper (genv X scope C code)) (genv X scope C code) s H fp) elt te)
    (hs : ∀ v, genFold iter X.env v = pure v := by intro _; rfl)
    (hst : starEach [.GeneratorExp elt [⟨target, iter, [], 0⟩] scope gpos] X.env = (false, eval (.GeneratorExp elt [⟨target, iter, [], 0⟩] scope gpos) X.env) :: starEach [] X.env := by rfl) :
    PE X (.Call (.Name "any" p) [.GeneratorExp elt [⟨target, iter, [], 0⟩] scope gpos] [] pos) (tGa true P wi gt te (own.map (·.2))) := by
  refine ⟨fun pins s σ H Q I h => ?_⟩
  have hfr : X.A.frames = some X.stack := I.ok.frames
  refine wpAny_Call_Name_kw (ld_blt I hgl hm hb ?_)
  refine PyProof.Rows.callWith_builtin1 ?_ hst (by rfl)
  rw [hst]
  show wpAny _ _ (spliced ((false, eval (.GeneratorExp elt [⟨target, iter, [], 0⟩] scope gpos) X.env) :: backTo pos (starEach [] X.env))) _ _ s
  refine Calls.spliced_cons (eval_gen (k := k) (stop := true) (Q := Q) (hr.mono (by omega)) TB hcode hco hdot hnc hN hi ok hg he hs I h fun a s5 hG => ?_)
  obtain ⟨g, cc, m, h1, h2, h3, h4, h5⟩ := hG
  refine Calls.spliced_nil ?_
  exact call_anyG (Done := DoneE X pins σ Q) hr.hd (by have := hr.dp; omega) h1 h2 h3 h4 (fun s' l => h5 _ (room_in2 hr) hfr s' l) fun b s' hd => hd
end
end Gx
namespace Mi
open PySem PySem.Spec PyProof.Rows L2 R Gx
/-! ### over trees -/
open Classical in
noncomputable def gaGo (stop : Bool) (gd : Gd) (t : CT) (e : DE) (ε : Env) : List D → Sto → ER
  | [], O => if gdOk gd O then .val (.bl (!stop)) O else .stk
  | x :: xs, O => if gdOk gd O then (match t.put O x ε with
    | some ε1 => (match e ε1 O with
      | .val (.bl b) O2 => if b = stop then .val (.bl stop) O2 else gaGo stop gd t e ε xs O2
      | _ => .stk)
    | none => .stk) else .stk
noncomputable def dGa (stop : Bool) (it : DI) (t : CT) (e : DE) : DE := fun ε O => match it ε O with
  | .val ds gd O1 => gaGo stop gd t e (wipeD ε t.ns) ds O1
  | .exc x O1 => .exc x O1
  | .stk => .stk
section
variable {k : Ct} {ρ : List Addr} {F : Hp} {O : Sto} {H : Hp}
theorem Rel.grow (R : Rel k ρ F O H) {i : Nat} {ps more : Array Value} (hi : i < k.ad "#tabs") (hP : H (k.ad ("#tab" ++ toString i)) = some (.tbl ps)) (ht : TriplesOk (ps ++ more).toList) (ap : _root_.R.Apart k.K (tgr H (k.ad ("#tab" ++ toString i)) ps more)) :
    Rel k ρ F O (tgr H (k.ad ("#tab" ++ toString i)) ps more) ∧ Tr ρ F O H ρ F O (tgr H (k.ad ("#tab" ++ toString i)) ps more) := by
  generalize hPe : k.ad ("#tab" ++ toString i) = P at *
  have fP : F P = none := by
    have := (R.tb i hi).1
    rw [hPe] at this; exact this
  refine ⟨⟨⟨fun a w e => ?_, R.len, fun n a o h1 h2 => ?_, R.inj, fun j hj => ?_⟩, ap⟩, ⟨⟨[], by simp, by simp⟩, fun _ _ e => e, fun n o' _ e => ⟨o', e⟩, fun a o e z => ?_, fun a e e' => absurd e e', fun a e => ?_⟩⟩
  · rw [tgr_ne (fun z => by rw [z, fP] at e; cases e)]; exact R.fr a w e
  · obtain ⟨f, b⟩ := R.ob n a o h1 h2
    exact ⟨f, b.ne fun z => b.nt ps (by rw [z]; exact hP)⟩
  · obtain ⟨f, ps2, e, q⟩ := R.tb j hj
    by_cases hz : k.ad ("#tab" ++ toString j) = P
    · rw [hz]
      exact ⟨fP, _, tgr_same, ht⟩
    · exact ⟨f, ps2, by rw [tgr_ne hz]; exact e, q⟩
  · rw [tgr_ne (fun y => by rw [y, hP] at e; exact z.2 ps (Option.some.inj e).symm)]; exact e
  · by_cases hb : a = P
    · rw [hb, tgr_same]; simp
    · rw [tgr_ne hb]; exact e
end
section
variable {X : Cx} {W : WX} {ad : String → Addr} {e : Expr} {it : DI} {t : CT} {el : DE} {y : Option Yx} {stop : Bool}
theorem ga_go {J : It} {ds : List D} {gd : Gd} {P : List Addr → Hp → Sto → Prop} {ρ F O H σ ε} {Q : VK} (w : Wk ⟨X.K, X.w, ad⟩ J ds gd P) (R : Rel ⟨X.K, X.w, ad⟩ ρ F O H) (S : SloR ⟨X.K, X.w, ad⟩ y ρ F σ ε) (p : P ρ F O)
    (q : EP ⟨X.K, X.w, ad⟩ ρ F O H Q (fun c o H' => W c o σ H') (gaGo stop gd t el (wipeD ε t.ns) ds O)) :
    GaGo stop J (fun v σ H G => _root_.R.Apart X.K H → t.g X.K v σ H G) (apE X.K (tE ⟨X.K, X.w, ad⟩ y W0 el)) t.ns σ H (fun v H' => _root_.R.Apart X.K H' → Q v H') := by
  let I : Nat → Hp → Prop := fun i H' => ∃ ρ' F' O', Rel ⟨X.K, X.w, ad⟩ ρ' F' O' H' ∧ Tr ρ F O H ρ' F' O' H' ∧ SloR ⟨X.K, X.w, ad⟩ y ρ' F' σ ε ∧ (gdOk gd O' → P ρ' F' O') ∧
    EP ⟨X.K, X.w, ad⟩ ρ F O H Q (fun c o H' => W c o σ H') (gaGo stop gd t el (wipeD ε t.ns) (ds.drop i) O')
  refine ⟨fun i m H' => m = ds.length - i ∧ i ≤ ds.length ∧ I i H', ⟨_, rfl, Nat.zero_le _, ρ, F, O, R, .refl, S, fun _ => p, by simpa using q⟩, ?_⟩
  rintro i m H' ⟨rfl, hi, ρ', F', O', R', T', S', pp, q'⟩
  by_cases hl : i < ds.length
  · right
    have hd : ds.drop i = ds[i] :: ds.drop (i + 1) := List.drop_eq_getElem_cons hl
    rw [hd] at q'
    unfold gaGo at q'
    split at q'
    · rename_i hg
      have p' := pp hg
      refine ⟨w.go R'.toRel0 p' hl, fun H' => i + 1 ≤ ds.length ∧ I (i + 1) H', fun H'' h => ⟨ds.length - (i + 1), by omega, rfl, h.1, h.2⟩, fun x H'' hy ap => ?_⟩
      obtain ⟨rfl, r⟩ := w.yld R'.toRel0 p' hy ds[i] (List.getElem?_eq_getElem hl)
      split at q'
      · rename_i ε1 hput
        refine put_go R'.toRel0 (fun _ _ => ap) (wipe_rel S' t.ns) r hput fun σ2 S2 hw => ?_
        have hww : wipe (wipe σ t.ns) t.ns = wipe σ t.ns := by
          have : ∀ vs us : List Nat, (∀ v ∈ vs, v ∈ us) → wipe (wipe σ vs) us = wipe σ us := by
            intro vs
            induction vs with
            | nil => intro us _; rfl
            | cons v vs ih =>
              intro us hm
              show wipe ((wipe σ vs).set v none) us = _
              rw [wipe_set (hm v List.mem_cons_self)]
              exact ih us fun v hv => hm v (List.mem_cons_of_mem _ hv)
          exact this _ _ fun _ h => h
        refine ⟨hw.trans hww, fun ap2 => ?_⟩
        refine ⟨ρ', F', O', ε1, R', S2, ?_⟩
        cases he : el ε1 O' with
        | stk => rw [he] at q'; exact q'.elim
        | exc x O3 => rw [he] at q'; exact q'.elim
        | val z O3 =>
          intro ρ3 F3 H3 v T3 R3 rv ap3
          rw [he] at q'
          cases z with
          | bl b =>
            cases rv
            refine ⟨b, rfl, fun hb _ => ?_, fun hb => ?_⟩
            · have q2 : EP ⟨X.K, X.w, ad⟩ ρ F O H Q (fun c o H' => W c o σ H') (.val (.bl stop) O3) := by
                simp only [hb, if_true] at q'
                exact q'
              exact q2 _ _ _ _ (T'.trans T3) R3 (.bl stop)
            · simp only [hb, if_false] at q'
              exact ⟨hl, ρ3, F3, O3, R3, T'.trans T3, S'.tr T3 R3, fun hg2 => w.mono R' T3 R3 p' hg2, q'⟩
          | _ => exact q'.elim
      · exact q'.elim
    · exact q'.elim
  · left
    rw [List.drop_eq_nil_of_le (by omega)] at q'
    unfold gaGo at q'
    split at q'
    · rename_i hg
      exact ⟨w.stop R'.toRel0 (pp hg) (by omega), fun ap => q' _ _ _ _ T' R' (.bl _)⟩
    · exact q'.elim
theorem pd_ga {P : Addr} (hn : ∃ i : Nat, i < ad "#tabs" ∧ ad ("#tab" ++ toString i) = P) (h : PE X e (tGa stop P (tI ⟨X.K, X.w, ad⟩ y W it) (fun v σ H G => _root_.R.Apart X.K H → t.g X.K v σ H G) (apE X.K (tE ⟨X.K, X.w, ad⟩ y W0 el)) t.ns)) : PE X e (tE ⟨X.K, X.w, ad⟩ y W (dGa stop it t el)) :=
  peM h fun σ H Q ⟨ρ, F, O, ε, R, S, q⟩ ap => by
    refine ⟨ρ, F, O, ε, R, S, ?_⟩
    unfold dGa at q
    cases hi : it ε O with
    | stk => rw [hi] at q; exact q
    | exc x O1 => rw [hi] at q; exact q
    | val ds gd O1 =>
      rw [hi] at q
      intro ρ' F' H' J PP T R' w p
      obtain ⟨i, h1, rfl⟩ := hn
      obtain ⟨f, ps, e, ht⟩ := R'.tb i h1
      refine ⟨ps, e, ht, fun more hm => ?_⟩
      have ap2 : _root_.R.Apart X.K (tgr H' (ad ("#tab" ++ toString i)) ps more) := fun b o eb => by
        have z := R'.ap b o eb
        rw [tgr_ne (fun y => by rw [y] at z; have e : H' (ad ("#tab" ++ toString i)) = some (.tbl ps) := e; rw [e] at z; cases z)]
        exact z
      obtain ⟨R2, T2⟩ := R'.grow h1 e hm ap2
      have q2 : EP ⟨X.K, X.w, ad⟩ ρ F O H Q (fun c o H' => W c o σ H') (gaGo stop gd t el (wipeD ε t.ns) ds O1) := q
      exact ga_go w R2 (S.tr (T.trans T2) R2) p (EP.tr (T.trans T2) q2)
end
end Mi

namespace Mi
open PySem PySem.Spec PyProof.Rows L2 R Gx
section
variable {X : Cx} {W : WX} {ad : String → Addr} {it : DI} {t : CT} {el : DE} {y : Option Yx}
theorem pd_allG {k : Nat} {c P : Addr} {own : List (Str × Nat)} {elt iter target : Expr} {p pos gpos : Pos} {scope : Scope} (hns : own.map (·.2) = t.ns) (hn : ∃ i : Nat, i < ad "#tabs" ∧ ad ("#tab" ++ toString i) = P)
    (hr : Room (k + 2) X.A) (hgl : Gl X "all") (hm : X.mg "all" = none) (hb : bootBuiltins "all" = some (.builtin "all")) (TB : GxR.TabB X.base X.mg c P) (hcode : X.env.code = .ref c) (hco : scope.isCoroutine = false) (hdot : scope.names.lookup (".0" : Str) = some NameKind.local) (hnc : ∀ y ∈ scope.names, y.2 ≠ .cell) (hN : X.N.Nodup)
    (hi : PI X target iter (tI ⟨X.K, X.w, ad⟩ y W it)) (ok : BlkOk X.N X.env.scope scope own)
    (hg : ∀ (B : Around) (C : Addr) (code : Value) (s : Shared) (H : Hp) (fp : List Addr), PG (gcx X (B.deeper (genv X scope C code)) (genv X scope C code) s H fp) target (t.g X.K))
    (he : ∀ (B : Around) (C : Addr) (code : Value) (s : Shared) (H : Hp) (fp : List Addr), Room k (B.deeper (genv X scope C code)) → PE (gcx X (B.deeper (genv X scope C code)) (genv X scope C code) s H fp) elt (tE ⟨X.K, X.w, ad⟩ y W0 el))
    (hs : ∀ v, genFold iter X.env v = pure v := by intro _; rfl)
    (hst : starEach [.GeneratorExp elt [⟨target, iter, [], 0⟩] scope gpos] X.env = (false, eval (.GeneratorExp elt [⟨target, iter, [], 0⟩] scope gpos) X.env) :: starEach [] X.env := by rfl) :
    PE X (.Call (.Name "all" p) [.GeneratorExp elt [⟨target, iter, [], 0⟩] scope gpos] [] pos) (tE ⟨X.K, X.w, ad⟩ y W (dGa false it t el)) := by
  refine pd_ga hn ?_
  have z := pe_allG (p := p) (pos := pos) (gpos := gpos) (te := apE X.K (tE ⟨X.K, X.w, ad⟩ y W0 el)) (gt := fun v σ H G => _root_.R.Apart X.K H → t.g X.K v σ H G) hr hgl hm hb TB hcode hco hdot hnc hN hi ok (fun B C code s H fp => pgAp (hg B C code s H fp)) (fun B C code s H fp r => peAp (he B C code s H fp r)) hs hst
  rw [hns] at z
  exact z
theorem pd_anyG {k : Nat} {c P : Addr} {own : List (Str × Nat)} {elt iter target : Expr} {p pos gpos : Pos} {scope : Scope} (hns : own.map (·.2) = t.ns) (hn : ∃ i : Nat, i < ad "#tabs" ∧ ad ("#tab" ++ toString i) = P)
    (hr : Room (k + 2) X.A) (hgl : Gl X "any") (hm : X.mg "any" = none) (hb : bootBuiltins "any" = some (.builtin "any")) (TB : GxR.TabB X.base X.mg c P) (hcode : X.env.code = .ref c) (hco : scope.isCoroutine = false) (hdot : scope.names.lookup (".0" : Str) = some NameKind.local) (hnc : ∀ y ∈ scope.names, y.2 ≠ .cell) (hN : X.N.Nodup)
    (hi : PI X target iter (tI ⟨X.K, X.w, ad⟩ y W it)) (ok : BlkOk X.N X.env.scope scope own)
    (hg : ∀ (B : Around) (C : Addr) (code : Value) (s : Shared) (H : Hp) (fp : List Addr), PG (gcx X (B.deeper (genv X scope C code)) (genv X scope C code) s H fp) target (t.g X.K))
    (he : ∀ (B : Around) (C : Addr) (code : Value) (s : Shared) (H : Hp) (fp : List Addr), Room k (B.deeper (genv X scope C code)) → PE (gcx X (B.deeper (genv X scope C code)) (genv X scope C code) s H fp) elt (tE ⟨X.K, X.w, ad⟩ y W0 el))
    (hs : ∀ v, genFold iter X.env v = pure v := by intro _; rfl)
    (hst : starEach [.GeneratorExp elt [⟨target, iter, [], 0⟩] scope gpos] X.env = (false, eval (.GeneratorExp elt [⟨target, iter, [], 0⟩] scope gpos) X.env) :: starEach [] X.env := by rfl) :
    PE X (.Call (.Name "any" p) [.GeneratorExp elt [⟨target, iter, [], 0⟩] scope gpos] [] pos) (tE ⟨X.K, X.w, ad⟩ y W (dGa true it t el)) := by
  refine pd_ga hn ?_
  have z := pe_anyG (p := p) (pos := pos) (gpos := gpos) (te := apE X.K (tE ⟨X.K, X.w, ad⟩ y W0 el)) (gt := fun v σ H G => _root_.R.Apart X.K H → t.g X.K v σ H G) hr hgl hm hb TB hcode hco hdot hnc hN hi ok (fun B C code s H fp => pgAp (hg B C code s H fp)) (fun B C code s H fp r => peAp (he B C code s H fp r)) hs hst
  rw [hns] at z
  exact z
end
/-! ### defs with a table; the end -/
structure FunC (K : PySem.W.Frag) (x qual : Str) (st : Stmt) (f : Addr) (fd : FuncData) (cdv : Value) : Prop where
  ex : ∃ (oc : Value) (od : Option Addr) (kV doc pm : Value) (an : Option Addr) (ct : Value) (osl : Array (Option Value)),
    fd = PySem.W.fnOf x qual (defArgs st) (defBody st) (defScope st) .none kV doc pm an cdv ct ∧ K.lookup f = some ⟨oc, od, .func fd, osl⟩ ∧ PySem.W.codeIn K cdv qual = true
  fn : Fun K x qual st f fd
theorem funC_mk {K : PySem.W.Frag} {x qual : Str} {st : Stmt} {f : Addr} {oc : Value} {od an : Option Addr} {osl : Array (Option Value)} {kV doc pm cdv ct : Value} (l : K.lookup f = some ⟨oc, od, .func (PySem.W.fnOf x qual (defArgs st) (defBody st) (defScope st) .none kV doc pm an cdv ct), osl⟩)
    (c : PySem.W.codeIn K cdv qual = true) (k : PySem.W.keepIn K (.ref f) = true) : FunC K x qual st f (PySem.W.fnOf x qual (defArgs st) (defBody st) (defScope st) .none kV doc pm an cdv ct) cdv := ⟨⟨oc, od, kV, doc, pm, an, ct, osl, rfl, l, c⟩, fun_mk l c k⟩
section
variable {P : Program} {w : World} {K : PySem.W.Frag} {mg : Str → Option Value} {base : Heap} {x qual : Str} {st : Stmt} {f : Addr} {fd : FuncData} {cdv : Value} {N ps : List Str} {k : Nat} {sp : Sp}
theorem FunC.okX (F : FunC K x qual st f fd cdv) (S : FnScope N ps (defScope st)) (len : ∀ vs H Q E, sp vs H Q E → vs.length = ps.length)
    (hbody : ∀ (A : Around) (outer : List PySem.Env) (s : Shared) (H : Hp) (vs : List V) (Q : VK) (E : XK), Room k (A.deeper (envOfC qual (defScope st) s.heap.objs.size f cdv)) → sp vs H Q E →
      ∃ t, PSs (cxOf (L2.CX P w) P w K mg base N qual (defScope st) f cdv A outer s H E) (defBody st) t ∧ t { nx := fun _ H' => Q .non H', rt := Q } (start N vs) H) : FnOk P w K mg base (L2.CX P w) (k + 1) f fd ps sp := by
  obtain ⟨oc, od, kV, doc, pm, an, ct, osl, rfl, lk, hcd⟩ := F.ex
  exact fn_of lk hcd S len fun A outer s H vs Q E hr hsp => hbody A outer s H vs Q E hr hsp
theorem FunC.ok (F : FunC K x qual st f fd cdv) (S : FnScope N ps (defScope st)) (len : ∀ vs H Q E, sp vs H Q E → vs.length = ps.length)
    (hbody : ∀ (A : Around) (outer : List PySem.Env) (s : Shared) (H : Hp) (vs : List V) (Q : VK) (E : XK), Room k (A.deeper (envOfC qual (defScope st) s.heap.objs.size f cdv)) → sp vs H Q E →
      ∃ t, PSs (cxOf CX0 P w K mg base N qual (defScope st) f cdv A outer s H E).nox (defBody st) t ∧ t { nx := fun _ H' => Q .non H', rt := Q } (start N vs) H) : FnOk P w K mg base CX0 (k + 1) f fd ps sp := by
  obtain ⟨oc, od, kV, doc, pm, an, ct, osl, rfl, lk, hcd⟩ := F.ex
  refine fn_of lk hcd S len fun A outer s H vs Q E hr hsp => ?_
  obtain ⟨t, h, q⟩ := hbody A outer s H vs Q E hr hsp
  exact ⟨t, h.nox, q⟩
end
theorem tabH_of {k : Ct} {H : Hp} {N : Nat} (hN : k.ad "#tabs" = N) (h : ∀ i, i < N → H (k.ad ("#tab" ++ toString i)) = some (.tbl #[])) : TabH k (fun _ => none) H := fun i hi => ⟨rfl, #[], h i (by rw [← hN]; exact hi), True.intro⟩
abbrev spLT (k : Ct) : Sp := fun vs H Q E => TabH k (fun _ => none) H ∧ spLaw k.K vs H Q E
abbrev spLTS (k : Ct) : Sp := fun vs H Q E => TabH k (fun _ => none) H ∧ spLawS k.K vs H Q E
theorem spLT_len {k : Ct} : ∀ vs H Q E, spLT k vs H Q E → vs.length = 1 := fun vs H Q E h => spLaw_len vs H Q E h.2
theorem lawTS {k : Ct} {P : Program} {w : World} {mg : Str → Option Value} {base : Heap} {CX : CXT} {j : Nat} {f : Addr} {fd : FuncData} {x : Str} (F : FnOk P w k.K mg base CX j f fd [x] (spLT k)) : FnOk P w k.K mg base CX j f fd [x] (spLTS k) :=
  fnApart F (fun vs H Q E ⟨_, a, ns, e, _⟩ => by rw [e]; rfl) fun vs H Q E ap ⟨tb, a, ns, e, h, z, q⟩ => ⟨tb, a, ns, e, lstv_of_sq ap h, z, q⟩
/-- the tables of these defs are empty when the law is called -/
def OwnTabs (K : PySem.W.Frag) (mg : Str → Option Value) (ns : List Str) (h : Heap) : Prop := ∀ n ∈ ns, ∀ (fa c P : Addr) (o : Obj) (fd : FuncData) (e : Value) (dd : Option Addr) (vs : Array Value) (sl : Array (Option Value)), mg n = some (.ref fa) → K.lookup fa = some o → o.data = .func fd → fd.code = .ref c → K.lookup c = some ⟨e, dd, .fields vs, sl⟩ → vs[11]? = some (.ref P) →
  h.get? P = some { cls := .none, data := .fields #[] }
theorem walk_tabs {l : PySem.W.OpenLaw} {n k : Nat} {q : Program} {loose : List Str} {XP : (Str → Option Value) → Heap → Prop} {YP : World → Heap → Prop} {d : DefRec} {K : Params → PySem.W.Frag} {CX : World → CXT} {x : Str} {ns : List Str}
    (hn : l.most = some n) (hn2 : n ≤ sizeLine) (hdf : d.params.defaults = []) (hr : Room k callerA) (hrec : ∀ z ∈ ns, ((recsOf q).any fun e => e.name == z) = true) (hY : ∀ (w : World) (h : Heap), YP w h → (K w.params).In h)
    (F : ∀ (w : World) (mg : Str → Option Value) (fa : Addr) (h : Heap), (K w.params).In h → h.Ns mainGlobals mg → mg d.name = some (.ref fa) → OwnTabs (K w.params) mg ns h → LamX.LawAtS l w (K w.params) (CX w) k n x mg fa h)
    (hCX : ∀ (w : World) (H : Hp) (s : Shared) (e : Value) (s' : Shared), CX w [] H s (fun _ _ _ => False) e s' → False) :
    PySem.W.WalkO q loose XP YP l.row.toRowW d [] (fun f vs => PySem.call f vs) := by
  refine Att.attach_callB hn hdf fun w s₀ s₁ mg mb fa o pm cd doc a vs zs G Y ho hd hcd hmg hobj hints hlen hbits hg => ?_
  have KX := hY w _ Y
  have own : OwnTabs (K w.params) mg ns s₁.heap := fun z hz f1 c P o1 fd1 e dd vs1 sl k0 k1 k2 k3 k4 k5 => by
    obtain ⟨dL, hm, hn1⟩ := List.any_eq_true.mp (hrec z hz)
    have hn2 : dL.name = z := beq_iff_eq.mp hn1
    obtain ⟨a', o', fd', c', P', h1, h2, h3, h4, h5, h6⟩ := G.T.tab dL hm
    rw [hn2, k0] at h1
    cases h1
    rw [KX _ _ k1] at h2
    cases h2
    rw [k2] at h3
    cases h3
    rw [k3] at h4
    cases h4
    obtain ⟨⟨oc, vc, e1, _, e3, e4⟩, hP⟩ := h6
    rw [KX _ _ k4] at e1
    cases e1
    cases e3
    rw [k5] at e4
    cases e4
    exact hP
  obtain ⟨fd, cs, sp, hT, nT, C, hb, hsp, hF⟩ := F w mg fa _ KX G.T.g hmg own
  exact LamX.law_callTs KX G.T.g G.T.b G.T.builtins G.T.nolimit hg hT nT C G.T.bmain hobj hints (Nat.le_trans hlen hn2) hr hF hb (fun H hH hS => hsp H a zs hlen hbits hH hS) fun H e s' => hCX w H s₁ e s'
end Mi

namespace Mi
open PySem PySem.Spec PyProof.Rows L2 R
/-! stepping through all and any of a generator expression -/
theorem ga_nil {stop : Bool} {t : CT} {e : DE} {ε : Env} {O : Sto} : gaGo stop none t e ε [] O = .val (.bl (!stop)) O := by rw [gaGo, if_pos gd0]
theorem ga_cons {stop : Bool} {i : Nat} {e : DE} {ε : Env} {O O2 : Sto} {x : D} {xs : List D} {b : Bool} (h : e (ε.set i (.v x)) O = .val (.bl b) O2) : gaGo stop none (.one i) e ε (x :: xs) O = if b = stop then .val (.bl stop) O2 else gaGo stop none (.one i) e ε xs O2 := by
  rw [gaGo, if_pos gd0]
  simp only [CT.put, h]
/-- each element known -/
theorem all_of {i : Nat} {e : DE} {ε : Env} {O : Sto} {f : D → Bool} : ∀ xs : List D, (∀ x ∈ xs, e (ε.set i (.v x)) O = .val (.bl (f x)) O) → gaGo false none (.one i) e ε xs O = .val (.bl (xs.all f)) O
  | [], _ => ga_nil
  | x :: xs, h => by
    rw [ga_cons (h x List.mem_cons_self), List.all_cons]
    cases f x with
    | true => rw [if_neg (by decide), Bool.true_and]; exact all_of xs fun y hy => h y (List.mem_cons_of_mem _ hy)
    | false => rw [if_pos rfl, Bool.false_and]
theorem any_of {i : Nat} {e : DE} {ε : Env} {O : Sto} {f : D → Bool} : ∀ xs : List D, (∀ x ∈ xs, e (ε.set i (.v x)) O = .val (.bl (f x)) O) → gaGo true none (.one i) e ε xs O = .val (.bl (xs.any f)) O
  | [], _ => ga_nil
  | x :: xs, h => by
    rw [ga_cons (h x List.mem_cons_self), List.any_cons]
    cases f x with
    | true => rw [if_pos rfl, Bool.true_or]
    | false => rw [if_neg (by decide), Bool.false_or]; exact any_of xs fun y hy => h y (List.mem_cons_of_mem _ hy)
theorem ga_of {stop : Bool} {it : DI} {t : CT} {e : DE} {ε : Env} {O O1 : Sto} {ds : List D} {r : ER} (h : it ε O = .val ds none O1) (h2 : gaGo stop none t e (wipeD ε t.ns) ds O1 = r) : dGa stop it t e ε O = r := by
  unfold dGa
  rw [h]
  exact h2
end Mi

set_option maxHeartbeats 8000000
namespace My
open PySem PySem.Spec PyProof.Rows L2 R Mi
/-! ### the text by places -/
def top (i : Nat) : Stmt := PySem.Challenge.pw_formstripes_k04_names.main.body.getD i (.Pass ⟨0, 0, 0, 0⟩)
abbrev s_is_simple_name : Stmt := top 4
abbrev N_is_simple_name : List Str := ["text", "char"]
theorem sc_is_simple_name : FnScope N_is_simple_name ["text"] (defScope s_is_simple_name) := ⟨rfl, rfl, rfl, by decide +kernel, rfl, by decide +kernel, by decide +kernel⟩
abbrev s_is_full_name : Stmt := top 5
abbrev N_is_full_name : List Str := ["text", "part"]
theorem sc_is_full_name : FnScope N_is_full_name ["text"] (defScope s_is_full_name) := ⟨rfl, rfl, rfl, by decide +kernel, rfl, by decide +kernel, by decide +kernel⟩
abbrev s__law_draw : Stmt := top 7
abbrev N__law_draw : List Str := ["cell", "many", "bound", "numbers", "k", "seed", "mixed"]
theorem sc__law_draw : FnScope N__law_draw ["cell", "many", "bound"] (defScope s__law_draw) := ⟨rfl, rfl, rfl, by decide +kernel, rfl, by decide +kernel, by decide +kernel⟩
abbrev s__law_simple : Stmt := top 8
abbrev N__law_simple : List Str := ["text", "letters", "sign"]
theorem sc__law_simple : FnScope N__law_simple ["text"] (defScope s__law_simple) := ⟨rfl, rfl, rfl, by decide +kernel, rfl, by decide +kernel, by decide +kernel⟩
abbrev s__law_full : Stmt := top 9
abbrev N__law_full : List Str := ["text", "part"]
theorem sc__law_full : FnScope N__law_full ["text"] (defScope s__law_full) := ⟨rfl, rfl, rfl, by decide +kernel, rfl, by decide +kernel, by decide +kernel⟩
abbrev s_law : Stmt := top 10
abbrev N_law : List Str := ["script", "cell", "numbers", "size", "signs", "text", "words", "told", "whole", "number"]
theorem sc_law : FnScope N_law ["script"] (defScope s_law) := ⟨rfl, rfl, rfl, by decide +kernel, rfl, by decide +kernel, by decide +kernel⟩
structure GG where
  K : PySem.W.Frag
  ad : String → Addr
abbrev Lx : List String := []
structure Top (P : Program) (w : World) (G : GG) (mg : Str → Option Value) (base : Heap) : Prop where
  triv : True
  n_all : mg "all" = none
  n_bool : mg "bool" = none
  n_int : mg "int" = none
  n_isinstance : mg "isinstance" = none
  n_len : mg "len" = none
  n_range : mg "range" = none
  c_DIGITS : Cst mg "DIGITS" (.str "0123456789")
  c_LETTERS : Cst mg "LETTERS" (.str "ABCDEFGHIJKLMNOPQRSTUVWXYZabcdefghijklmnopqrstuvwxyz_")
  c_LONGEST_NAME : Cst mg "LONGEST_NAME" (.int 40)
  tn_is_simple_name : ∃ i : Nat, i < G.ad "#tabs" ∧ G.ad ("#tab" ++ toString i) = G.ad "#tab0"
  tB_is_simple_name : GxR.TabB base mg (G.ad "#code:is_simple_name") (G.ad "#tab0")
  tn_is_full_name : ∃ i : Nat, i < G.ad "#tabs" ∧ G.ad ("#tab" ++ toString i) = G.ad "#tab1"
  tB_is_full_name : GxR.TabB base mg (G.ad "#code:is_full_name") (G.ad "#tab1")
noncomputable def b_is_simple_name : DS := (dSeq (dIfS (dOr (dT1 (dOp (oEq false) (dVar 0) (dC (.str "")))) (dOr (dT1 (dOp oGt (dCB oLen (dCons (dVar 0) dNil)) (dC (.int 40)))) (dT1 (dOp (oIn true) (dOp oIx (dVar 0) (dC (.int 0))) (dC (.str "ABCDEFGHIJKLMNOPQRSTUVWXYZabcdefghijklmnopqrstuvwxyz_")))))) (dRet (dC (.bl false))) dNext)
    (dRet (dGa false (dIt (dVar 0)) (CT.one 1) (dOrV (dOp (oIn false) (dVar 1) (dC (.str "ABCDEFGHIJKLMNOPQRSTUVWXYZabcdefghijklmnopqrstuvwxyz_"))) (dOp (oIn false) (dVar 1) (dC (.str "0123456789")))))))
noncomputable def m_is_simple_name : List D → FR := runF b_is_simple_name 2
abbrev sp_is_simple_name (G : GG) (w : World) : Sp := spF ⟨G.K, w, G.ad⟩ 1 m_is_simple_name
noncomputable def b_is_full_name : DS := (dSeq (dIfS (dT1 (dOp oGt (dCB oLen (dCons (dVar 0) dNil)) (dC (.int 40)))) (dRet (dC (.bl false))) dNext)
    (dRet (dGa false (dIt (dMS (mSplit false) (dVar 0) (dCons (dC (.str ".")) dNil))) (CT.one 1) (dCall false m_is_simple_name 1 (dCons (dVar 1) dNil)))))
noncomputable def m_is_full_name : List D → FR := runF b_is_full_name 2
abbrev sp_is_full_name (G : GG) (w : World) : Sp := spF ⟨G.K, w, G.ad⟩ 1 m_is_full_name
noncomputable def b__law_draw_1 : DS := (dSeq (dExpr (dML mApp (dVar 3) (dCons (dOp oMod (dCB (oC1 oInt) (dCons (dVar 0) dNil)) (dVar 2)) dNil)))
    (dAsg (dOp oFdiv (dVar 0) (dVar 2)) (gNm 0)))
noncomputable def b__law_draw_2 : DS := (dSeq (dAsg (dOp oMod (dCB (oC1 oInt) (dCons (dOp (oAdd false) (dOp (oAdd false) (dOp (oMul false) (dVar 5) (dC (.int 48271))) (dC (.int 12345))) (dVar 4)) dNil)) (dC (.int 2147483647))) (gNm 5))
    (dSeq (dAsg (dOp oMod (dCB (oC1 oInt) (dCons (dOp (oAdd false) (dOp (oMul false) (dVar 5) (dC (.int 69621))) (dOp (oMul false) (dC (.int 977)) (dVar 4))) dNil)) (dC (.int 2147483629))) (gNm 6))
    (dExpr (dML mApp (dVar 3) (dCons (dOp oMod (dCB (oC1 oInt) (dCons (dOp oFdiv (dVar 6) (dC (.int 3))) dNil)) (dVar 2)) dNil)))))
noncomputable def b__law_draw_3 : DS := (dSeq (dAsg (dOp oMod (dCB (oC1 oInt) (dCons (dVar 0) dNil)) (dC (.int 2147483647))) (gNm 5))
    (dSeq (dFor (dRng1 (dCons (dVar 1) dNil)) (gNm 4) b__law_draw_2)
    (dRet (dVar 3))))
noncomputable def b__law_draw : DS := (dSeq (dAsg (dLst true dNil) (gNm 3))
    (dSeq (dIfS (dT1 (dOp oGe (dVar 0) (dOp oPow (dC (.int 10)) (dC (.int 18))))) (dSeq (dFor (dRng1 (dCons (dVar 1) dNil)) (gNm 4) b__law_draw_1)
    (dRet (dVar 3))) dNext)
    b__law_draw_3))
noncomputable def m__law_draw : List D → FR := runF b__law_draw 7
abbrev sp__law_draw (G : GG) (w : World) : Sp := spF ⟨G.K, w, G.ad⟩ 3 m__law_draw
noncomputable def b__law_simple_1 : DS := (dIfS (dAnd (dT1 (dOp (oIn true) (dVar 2) (dVar 1))) (dT1 (dOp (oIn true) (dVar 2) (dC (.str "0123456789"))))) (dRet (dC (.bl false))) dNext)
noncomputable def b__law_simple_2 : DS := (dSeq (dFor (dIt (dVar 0)) (gNm 2) b__law_simple_1)
    (dRet (dC (.bl true))))
noncomputable def b__law_simple : DS := (dSeq (dAsg (dC (.str "abcdefghijklmnopqrstuvwxyzABCDEFGHIJKLMNOPQRSTUVWXYZ_")) (gNm 1))
    (dSeq (dIfS (dOr (dT1 (dOp oLt (dCB oLen (dCons (dVar 0) dNil)) (dC (.int 1)))) (dOr (dT1 (dOp oGt (dCB oLen (dCons (dVar 0) dNil)) (dC (.int 40)))) (dT1 (dOp (oIn true) (dOp oIx (dVar 0) (dC (.int 0))) (dVar 1))))) (dRet (dC (.bl false))) dNext)
    b__law_simple_2))
noncomputable def m__law_simple : List D → FR := runF b__law_simple 3
abbrev sp__law_simple (G : GG) (w : World) : Sp := spF ⟨G.K, w, G.ad⟩ 1 m__law_simple
noncomputable def b__law_full_1 : DS := (dIfS (dNot (dTr (dCall false m__law_simple 1 (dCons (dVar 1) dNil)))) (dRet (dC (.bl false))) dNext)
noncomputable def b__law_full_2 : DS := (dSeq (dFor (dIt (dMS (mSplit false) (dVar 0) (dCons (dC (.str ".")) dNil))) (gNm 1) b__law_full_1)
    (dRet (dC (.bl true))))
noncomputable def b__law_full : DS := (dSeq (dIfS (dT1 (dOp oGt (dCB oLen (dCons (dVar 0) dNil)) (dC (.int 40)))) (dRet (dC (.bl false))) dNext)
    b__law_full_2)
noncomputable def m__law_full : List D → FR := runF b__law_full 2
abbrev sp__law_full (G : GG) (w : World) : Sp := spF ⟨G.K, w, G.ad⟩ 1 m__law_full
noncomputable def b_law_1 : DS := (dSeq (dAsg (dCall false m_is_simple_name 1 (dCons (dVar 5) dNil)) (gNm 7))
    (dSeq (dAsg (dCall false m_is_full_name 1 (dCons (dVar 5) dNil)) (gNm 8))
    (dSeq (dIfS (dOr (dNot (dTr (dCB (oC2 oIsi) (dCons (dVar 7) (dCons (dC (.ty "bool")) dNil))))) (dNot (dTr (dCB (oC2 oIsi) (dCons (dVar 8) (dCons (dC (.ty "bool")) dNil)))))) (dRet (dC (.bl false))) dNext)
    (dIfS (dOr (dT1 (dOp (oEq true) (dVar 7) (dCall false m__law_simple 1 (dCons (dVar 5) dNil)))) (dT1 (dOp (oEq true) (dVar 8) (dCall false m__law_full 1 (dCons (dVar 5) dNil))))) (dRet (dC (.bl false))) dNext))))
noncomputable def b_law_2 : DS := (dSeq (dAsg (dOp oIx (dLst false (dCons (dC (.str "aZ_b09")) (dCons (dC (.str "aZ_b0.9")) (dCons (dC (.str "ab.")) (dCons (dC (.str "a- ")) (dCons (dC (.str "Qx7~")) dNil)))))) (dOp oMod (dOp oIx (dVar 2) (dC (.int 2))) (dC (.int 5)))) (gNm 4))
    (dSeq (dAsg (dMS mJoin (dC (.str "")) (dCons (dLc false (dIt (dSl false (dVar 2) (dPart (dC (.int 3))) (dPart (dOp (oAdd false) (dC (.int 3)) (dVar 3))))) (CT.one 9) dYes (dOp oIx (dVar 4) (dOp oMod (dVar 9) (dCB oLen (dCons (dVar 4) dNil))))) dNil)) (gNm 5))
    (dSeq (dAsg (dLst false (dCons (dC (.str "null")) (dCons (dC (.str "record")) (dCons (dC (.str "choice")) (dCons (dC (.str "int")) (dCons (dC (.str "map")) (dCons (dC (.str "union")) (dCons (dC (.str "string")) (dCons (dC (.str "x.int")) (dCons (dC (.str "long")) (dCons (dC (.str "fixed")) (dCons (dC (.str "bytes")) dNil)))))))))))) (gNm 6))
    (dSeq (dIfS (dT1 (dOp (oEq false) (dOp oMod (dOp oIx (dVar 2) (dC (.int 1))) (dC (.int 7))) (dC (.int 1)))) (dAsg (dOp oIx (dVar 6) (dOp oMod (dOp oIx (dVar 2) (dC (.int 0))) (dCB oLen (dCons (dVar 6) dNil)))) (gNm 5)) dNext)
    b_law_1))))
noncomputable def b_law_3 : DS := (dSeq (dAsg (dCall false m__law_draw 3 (dCons (dVar 1) (dCons (dC (.int 48)) (dCons (dOp oShl (dC (.int 1)) (dC (.int 20))) dNil)))) (gNm 2))
    (dSeq (dAsg (dOp oMod (dOp oIx (dVar 2) (dC (.int 0))) (dC (.int 6))) (gNm 3))
    (dSeq (dIfS (dT1 (dOp (oEq false) (dOp oMod (dOp oIx (dVar 2) (dC (.int 1))) (dC (.int 5))) (dC (.int 0)))) (dAsg (dOp (oAdd false) (dC (.int 36)) (dOp oMod (dOp oIx (dVar 2) (dC (.int 0))) (dC (.int 9)))) (gNm 3)) dNext)
    b_law_2)))
noncomputable def b_law : DS := (dSeq (dFor (dIt (dOp (oAdd false) (dSl false (dVar 0) dNoPart (dPart (dC (.int 20)))) (dLst false (dCons (dC (.int 0)) dNil)))) (gNm 1) b_law_3)
    (dRet (dAndV (dOp (oIsB false) (dCall false m_is_simple_name 1 (dCons (dC (.str "")) dNil)) (dC (.bl false))) (dOp (oIsB false) (dCall false m_is_full_name 1 (dCons (dC (.str "")) dNil)) (dC (.bl false))))))
noncomputable def m_law : List D → FR := runF b_law 10
end My

namespace My
open PySem PySem.Spec PyProof.Rows L2 R Mi TL
/-! steps -/
theorem qn (n : Nat) : n ≤ 10000000 → n ≤ sizeLine := fun h => sz n h
theorem at_nat {α : Type} {l : List α} {f : Nat} {d : α} (h : l[f]? = some d) : atI l (f : Int) = some d := by
  have hl := (List.getElem?_eq_some_iff.mp h).1
  unfold atI ixN
  simp [hl]
  exact (List.getElem?_eq_some_iff.mp h).2
theorem op_v {op : Sto → D → D → ER} {a b : DE} {ε : Mi.Env} {O O1 O2 : Sto} {x y : D} {r : ER} (h1 : a ε O = .val x O1) (h2 : b ε O1 = .val y O2) (h3 : op O2 x y = r) : dOp op a b ε O = r := by
  unfold dOp
  rw [h1]
  simp only [ER.bind]
  rw [h2]
  exact h3
theorem asg_v {d : DE} {i : Nat} {ε : Mi.Env} {O O1 : Sto} {x : D} (h : d ε O = .val x O1) : dAsg d (gNm i) ε O = .nx (ε.set i (.v x)) O1 := by
  unfold dAsg
  rw [h]
  rfl
theorem ix_l {xs : List D} {k : Int} {y : D} (h : atI xs k = some y) (O : Sto) : oIx O (.lst xs) (.int k) = .val y O := by
  show (match ixD _ (.lst xs) (.int k) with
    | some z => ER.val z O
    | none => ER.stk) = _
  unfold ixD
  simp only [h]
theorem ix_s {t : Str} {k : Int} {c : Nat} (hl : t.length ≤ sizeLine) (h : atI t.cps.toList k = some c) (O : Sto) : oIx O (.str t) (.int k) = .val (.str ⟨#[c]⟩) O := by
  show (match ixD _ (.str t) (.int k) with
    | some z => ER.val z O
    | none => ER.stk) = _
  unfold ixD
  simp only [if_pos hl, h, Option.map_some]
theorem cb1 {op : Sto → List D → ER} {e : DE} {ε : Mi.Env} {O O1 : Sto} {x : D} {r : ER} (h : e ε O = .val x O1) (h2 : op O1 [x] = r) : dCB op (dCons e dNil) ε O = r := by
  unfold dCB dCons
  rw [h]
  exact h2
theorem cb2 {op : Sto → List D → ER} {e f : DE} {ε : Mi.Env} {O O1 O2 : Sto} {x y : D} {r : ER} (h : e ε O = .val x O1) (h1 : f ε O1 = .val y O2) (h2 : op O2 [x, y] = r) : dCB op (dCons e (dCons f dNil)) ε O = r := by
  unfold dCB dCons
  rw [h]
  simp only [ER.toA]
  rw [h1]
  exact h2
theorem call1 {o : Bool} {m : List D → FR} {e : DE} {ε : Mi.Env} {O O1 : Sto} {x : D} {r : ER} (h : e ε O = .val x O1) (hp : D.pure x = true) (h2 : (m [x]).toE o O1 = r) : dCall o m 1 (dCons e dNil) ε O = r := by
  unfold dCall dCons
  rw [h]
  simp only [ER.toA, dNil, AR.toA, AR.toE]
  rw [if_pos ⟨rfl, by rw [D.pureL, hp]; rfl⟩]
  exact h2
theorem ret_v {e : DE} {ε : Mi.Env} {O O1 : Sto} {x : D} (h : e ε O = .val x O1) : dRet e ε O = .rt x O1 := by
  unfold dRet
  rw [h]
  rfl
theorem t1_v {e : DE} {ε : Mi.Env} {O O1 : Sto} {b : Bool} (h : e ε O = .val (.bl b) O1) : dT1 e ε O = .val b O1 := by
  unfold dT1
  rw [h]
theorem or_t {a b : DT} {ε : Mi.Env} {O O1 : Sto} (h : a ε O = .val true O1) : dOr a b ε O = .val true O1 := by
  unfold dOr
  rw [h]
  rfl
theorem or_f {a b : DT} {ε : Mi.Env} {O O1 : Sto} {r : BR} (h : a ε O = .val false O1) (h2 : b ε O1 = r) : dOr a b ε O = r := by
  unfold dOr
  rw [h]
  exact h2
theorem and_f {a b : DT} {ε : Mi.Env} {O O1 : Sto} (h : a ε O = .val false O1) : dAnd a b ε O = .val false O1 := by
  unfold dAnd
  rw [h]
  rfl
theorem and_t {a b : DT} {ε : Mi.Env} {O O1 : Sto} {r : BR} (h : a ε O = .val true O1) (h2 : b ε O1 = r) : dAnd a b ε O = r := by
  unfold dAnd
  rw [h]
  exact h2
theorem len_s {t : Str} (h : t.length ≤ 1000000) (O : Sto) : oLen O [.str t] = .val (.int (t.length : Nat)) O := by
  show (match lenD (.str t) with
    | some n => ER.val (.int n) O
    | none => .stk) = _
  unfold lenD
  simp only [if_pos (qn _ (by omega : t.length ≤ 10000000))]
theorem inn (c : Nat) (z : Str) (O : Sto) : oIn true O (.str ⟨#[c]⟩) (.str z) = .val (.bl (!decide (c ∈ z.cps.toList))) O := by
  show ER.val (.bl (if true then !(inS ⟨#[c]⟩ z) else _)) O = _
  rw [inS_one]
  rfl
theorem iny (c : Nat) (z : Str) (O : Sto) : oIn false O (.str ⟨#[c]⟩) (.str z) = .val (.bl (decide (c ∈ z.cps.toList))) O := by
  show ER.val (.bl (inS ⟨#[c]⟩ z)) O = _
  rw [inS_one]
/-! names -/
abbrev LP : Str := "ABCDEFGHIJKLMNOPQRSTUVWXYZabcdefghijklmnopqrstuvwxyz_"
abbrev LQ : Str := "abcdefghijklmnopqrstuvwxyzABCDEFGHIJKLMNOPQRSTUVWXYZ_"
abbrev DG : Str := "0123456789"
theorem pq : ∀ c ∈ LP.cps.toList, c ∈ LQ.cps.toList := by decide +kernel
theorem qp : ∀ c ∈ LQ.cps.toList, c ∈ LP.cps.toList := by decide +kernel
theorem memLQ (c : Nat) : decide (c ∈ LQ.cps.toList) = decide (c ∈ LP.cps.toList) := by
  by_cases h : c ∈ LP.cps.toList
  · rw [decide_eq_true h, decide_eq_true (pq c h)]
  · rw [decide_eq_false h, decide_eq_false fun z => h (qp c z)]
def sg (c : Nat) : Bool := decide (c ∈ LP.cps.toList) || decide (c ∈ DG.cps.toList)
def sm (l : List Nat) : Bool := match l with
  | [] => false
  | c :: _ => !decide (40 < l.length) && (decide (c ∈ LP.cps.toList) && l.all sg)
theorem sm_cons (c : Nat) (r : List Nat) : sm (c :: r) = (!decide (40 < (c :: r).length) && (decide (c ∈ LP.cps.toList) && (c :: r).all sg)) := rfl
def sgn (c : Nat) : D := .str ⟨#[c]⟩
theorem sg_go {x : Sl} (c : Nat) : dOrV (dOp (oIn false) (dVar 1) (dC (.str LP))) (dOp (oIn false) (dVar 1) (dC (.str DG))) [x, .v (sgn c)] [] = .val (.bl (sg c)) [] := by
  have h1 : dOp (oIn false) (dVar 1) (dC (.str LP)) [x, .v (sgn c)] [] = .val (.bl (decide (c ∈ LP.cps.toList))) [] := op_v rfl rfl (iny c LP [])
  have h2 : dOp (oIn false) (dVar 1) (dC (.str DG)) [x, .v (sgn c)] [] = .val (.bl (decide (c ∈ DG.cps.toList))) [] := op_v rfl rfl (iny c DG [])
  unfold dOrV
  rw [h1]
  simp only [ER.bind, truD, vw]
  unfold sg
  cases h3 : decide (c ∈ LP.cps.toList) with
  | true => rfl
  | false => simp only [h2, Bool.false_or]
theorem ga_signs {x : Sl} : ∀ l : List Nat, gaGo false none (CT.one 1) (dOrV (dOp (oIn false) (dVar 1) (dC (.str LP))) (dOp (oIn false) (dVar 1) (dC (.str DG)))) [x, .no] (l.map sgn) [] = .val (.bl (l.all sg)) []
  | [] => ga_nil
  | c :: l => by
    rw [List.map_cons, ga_cons (sg_go (x := x) c), List.all_cons]
    cases sg c with
    | true => rw [if_neg (by decide), Bool.true_and]; exact ga_signs l
    | false => rw [if_pos rfl, Bool.false_and]
theorem e_ne {t : Str} {c : Nat} {r : List Nat} (h : t.cps.toList = c :: r) : t ≠ "" := fun e => by
  rw [e] at h
  have : ([] : List Nat) = c :: r := h
  cases this
theorem len_tl (t : Str) : t.length = t.cps.toList.length := by simp [Str.length]
theorem e_nil {t : Str} (h : t.cps.toList = []) : t = "" := by
  obtain ⟨a⟩ := t
  have : a = #[] := Array.toList_eq_nil_iff.mp h
  rw [this]
  rfl
theorem it_s (t : Str) (i : Nat) {ε : Mi.Env} (h : ε[i]? = some (.v (.str t))) (O : Sto) : dIt (dVar i) ε O = .val (t.cps.toList.map sgn) none O := by
  unfold dIt dVar
  rw [h]
  rfl
theorem at0 {c : Nat} {r : List Nat} : atI (c :: r) 0 = some c := at_nat (f := 0) rfl
theorem gtI (a b : Int) (O : Sto) : oGt O (.int a) (.int b) = .val (.bl (decide (b < a))) O := rfl
theorem ltI (a b : Int) (O : Sto) : oLt O (.int a) (.int b) = .val (.bl (decide (a < b))) O := rfl
theorem simple_go (t : Str) (hl : t.length ≤ 1000000) : m_is_simple_name [.str t] = .ok (.bl (sm t.cps.toList)) := by
  have hz := qn _ (by omega : t.length ≤ 10000000)
  suffices h : b_is_simple_name [.v (.str t), .no] [] = .rt (.bl (sm t.cps.toList)) [] by
    show (b_is_simple_name [.v (.str t), .no] []).fin = _
    rw [h]
    rfl
  have e1 : dOp (oEq false) (dVar 0) (dC (.str "")) [.v (.str t), .no] [] = .val (.bl (decide (t = ""))) [] := rfl
  have e2 : dOp oGt (dCB oLen (dCons (dVar 0) dNil)) (dC (.int 40)) [.v (.str t), .no] [] = .val (.bl (decide ((40 : Int) < (t.length : Nat)))) [] := op_v (cb1 rfl (len_s hl [])) rfl (gtI _ _ _)
  have rf : dRet (dC (.bl false)) [.v (.str t), .no] [] = .rt (.bl false) [] := rfl
  unfold b_is_simple_name
  cases hc : t.cps.toList with
  | nil =>
    rw [e_nil hc] at e1 ⊢
    exact seq_r (if_t (or_t (t1_v e1)) rf)
  | cons c r =>
    rw [decide_eq_false (e_ne hc)] at e1
    have e3 : dOp (oIn true) (dOp oIx (dVar 0) (dC (.int 0))) (dC (.str LP)) [.v (.str t), .no] [] = .val (.bl (!decide (c ∈ LP.cps.toList))) [] := op_v (op_v rfl rfl (ix_s hz (by rw [hc]; exact at0) [])) rfl (inn c LP [])
    have ln : t.length = (c :: r).length := by rw [len_tl, hc]
    rw [sm_cons]
    rw [ln] at e2
    by_cases h40 : 40 < (c :: r).length
    · rw [decide_eq_true (by omega)] at e2
      rw [decide_eq_true h40]
      exact seq_r (if_t (or_f (t1_v e1) (or_t (t1_v e2))) rf)
    · rw [decide_eq_false (by omega)] at e2
      rw [decide_eq_false h40]
      cases hm : decide (c ∈ LP.cps.toList) with
      | false =>
        rw [hm] at e3
        exact seq_r (if_t (or_f (t1_v e1) (or_f (t1_v e2) (t1_v e3))) rf)
      | true =>
        rw [hm] at e3
        refine seq_rt (if_f (or_f (t1_v e1) (or_f (t1_v e2) (t1_v e3))) rfl) (ret_v (ga_of (it_s t 0 rfl []) ?_))
        have := ga_signs (x := .v (.str t)) (c :: r)
        rw [hc]
        simp only [Bool.not_false, Bool.true_and]
        exact this
theorem lloop {t : Str} : ∀ (l : List Nat) (x : Sl), (l.all sg = true → ∃ x', forGo none (gNm 2) b__law_simple_1 (l.map sgn) [.v (.str t), .v (.str LQ), x] [] = .nx [.v (.str t), .v (.str LQ), x'] []) ∧ (l.all sg = false → forGo none (gNm 2) b__law_simple_1 (l.map sgn) [.v (.str t), .v (.str LQ), x] [] = .rt (.bl false) [])
  | [], x => ⟨fun _ => ⟨x, for_nil gd0⟩, fun h => nomatch h⟩
  | c :: l, x => by
    have h1 : dOp (oIn true) (dVar 2) (dVar 1) [.v (.str t), .v (.str LQ), .v (sgn c)] [] = .val (.bl (!decide (c ∈ LQ.cps.toList))) [] := op_v rfl rfl (inn c LQ [])
    have h2 : dOp (oIn true) (dVar 2) (dC (.str DG)) [.v (.str t), .v (.str LQ), .v (sgn c)] [] = .val (.bl (!decide (c ∈ DG.cps.toList))) [] := op_v rfl rfl (inn c DG [])
    have hb : b__law_simple_1 [.v (.str t), .v (.str LQ), .v (sgn c)] [] = if sg c then .nx [.v (.str t), .v (.str LQ), .v (sgn c)] [] else .rt (.bl false) [] := by
      rw [memLQ] at h1
      unfold b__law_simple_1 sg
      cases h3 : decide (c ∈ LP.cps.toList) with
      | true =>
        rw [h3] at h1
        exact if_f (and_f (t1_v h1)) rfl
      | false =>
        rw [h3] at h1
        cases h4 : decide (c ∈ DG.cps.toList) with
        | true => rw [h4] at h2; exact if_f (and_t (t1_v h1) (t1_v h2)) rfl
        | false => rw [h4] at h2; exact if_t (and_t (t1_v h1) (t1_v h2)) rfl
    obtain ⟨i1, i2⟩ := lloop (t := t) l (.v (sgn c))
    rw [List.map_cons, List.all_cons]
    cases h5 : sg c with
    | true =>
      rw [h5, if_pos rfl] at hb
      rw [Bool.true_and]
      have := for_nx (xs := l.map sgn) (g := gNm 2) (x := sgn c) (ε := [.v (.str t), .v (.str LQ), x]) gd0 rfl hb
      rw [this]
      exact ⟨i1, i2⟩
    | false =>
      rw [h5, if_neg Bool.false_ne_true] at hb
      refine ⟨fun h => (by simp at h), fun _ => for_rt gd0 rfl hb⟩
theorem lsimple_go (t : Str) (hl : t.length ≤ 1000000) : m__law_simple [.str t] = .ok (.bl (sm t.cps.toList)) := by
  have hz := qn _ (by omega : t.length ≤ 10000000)
  suffices h : b__law_simple [.v (.str t), .no, .no] [] = .rt (.bl (sm t.cps.toList)) [] by
    show (b__law_simple [.v (.str t), .no, .no] []).fin = _
    rw [h]
    rfl
  have e0 : dAsg (dC (.str LQ)) (gNm 1) [.v (.str t), .no, .no] [] = .nx [.v (.str t), .v (.str LQ), .no] [] := rfl
  have e1 : dOp oLt (dCB oLen (dCons (dVar 0) dNil)) (dC (.int 1)) [.v (.str t), .v (.str LQ), .no] [] = .val (.bl (decide (((t.length : Nat) : Int) < 1))) [] := op_v (cb1 rfl (len_s hl [])) rfl (ltI _ _ _)
  have e2 : dOp oGt (dCB oLen (dCons (dVar 0) dNil)) (dC (.int 40)) [.v (.str t), .v (.str LQ), .no] [] = .val (.bl (decide ((40 : Int) < (t.length : Nat)))) [] := op_v (cb1 rfl (len_s hl [])) rfl (gtI _ _ _)
  have rf : dRet (dC (.bl false)) [.v (.str t), .v (.str LQ), .no] [] = .rt (.bl false) [] := rfl
  unfold b__law_simple
  refine seq_rt e0 ?_
  cases hc : t.cps.toList with
  | nil =>
    have ln : t.length = 0 := by rw [len_tl, hc]; rfl
    rw [ln] at e1
    exact seq_r (if_t (or_t (t1_v e1)) rf)
  | cons c r =>
    have ln : t.length = (c :: r).length := by rw [len_tl, hc]
    have e3 : dOp (oIn true) (dOp oIx (dVar 0) (dC (.int 0))) (dVar 1) [.v (.str t), .v (.str LQ), .no] [] = .val (.bl (!decide (c ∈ LP.cps.toList))) [] := by
      rw [← memLQ]
      exact op_v (op_v rfl rfl (ix_s hz (by rw [hc]; exact at0) [])) rfl (inn c LQ [])
    rw [ln] at e1 e2
    rw [decide_eq_false (by simp; omega)] at e1
    rw [sm_cons]
    by_cases h40 : 40 < (c :: r).length
    · rw [decide_eq_true (by omega)] at e2
      rw [decide_eq_true h40]
      exact seq_r (if_t (or_f (t1_v e1) (or_t (t1_v e2))) rf)
    · rw [decide_eq_false (by omega)] at e2
      rw [decide_eq_false h40]
      cases hm : decide (c ∈ LP.cps.toList) with
      | false =>
        rw [hm] at e3
        exact seq_r (if_t (or_f (t1_v e1) (or_f (t1_v e2) (t1_v e3))) rf)
      | true =>
        rw [hm] at e3
        refine seq_rt (if_f (or_f (t1_v e1) (or_f (t1_v e2) (t1_v e3))) rfl) ?_
        obtain ⟨i1, i2⟩ := lloop (t := t) (c :: r) .no
        unfold b__law_simple_2
        have hit := it_s t 0 (ε := [.v (.str t), .v (.str LQ), .no]) rfl []
        rw [hc] at hit
        cases ha : (c :: r).all sg with
        | true =>
          obtain ⟨x', h⟩ := i1 ha
          exact seq_rt (for_of hit h) rfl
        | false => exact seq_r (for_of hit (i2 ha))
end My

namespace My
open PySem PySem.Spec PyProof.Rows L2 R Mi TL
theorem app0 {l : List D} {y : D} (h : l.length < sizeLine) : mApp [some (.lst l)] (.ref 0) [y] = .val .non [some (.lst (l ++ [y]))] := by
  unfold mApp chgL
  simp only [List.getElem?_cons_zero, if_pos h, List.set]
def nI (l : List Nat) : List D := l.map fun n => D.int (n : Nat)
theorem nI_app (a b : List Nat) : nI (a ++ b) = nI a ++ nI b := List.map_append
theorem nI_len (a : List Nat) : (nI a).length = a.length := List.length_map _
abbrev B20 : Int := 1048576
theorem md {O : Sto} {i j : Int} (h : 0 < j) : oMod O (.int i) (.int j) = .val (.int (i % j)) O := by
  unfold oMod oIC; simp only; rw [if_pos h]
theorem fd {O : Sto} {i j : Int} (h : 0 < j) (h2 : j < 1073741824) : oFdiv O (.int i) (.int j) = .val (.int (i / j)) O := by
  unfold oFdiv oIC; simp only; rw [if_pos ⟨h, .inl h2⟩]
theorem ml {O : Sto} {i j : Int} (h : CM i j) : oMul false O (.int i) (.int j) = .val (.int (i * j)) O := by
  unfold oMul; simp only [vw]; rw [if_pos h]
theorem apI {l : List D} {y : D} (h : l.length < sizeLine) : mApp [some (.lst l)] (.ref 0) [y] = .val .non [some (.lst (l ++ [y]))] := app0 h
theorem draw1_b {c : Int} {acc : List Nat} {m x y z : Sl} (h : acc.length < 1000) : ∃ v c', b__law_draw_1 [.v (.int c), m, .v (.int B20), .v (.ref 0), x, y, z] [some (.lst (nI acc))] = .nx [.v (.int c'), m, .v (.int B20), .v (.ref 0), x, y, z] [some (.lst (nI (acc ++ [v])))] := by
  refine ⟨(c % B20).toNat, c / B20, ?_⟩
  have hl : (nI acc).length < sizeLine := by have := qn (acc.length + 1) (by omega); rw [nI_len]; omega
  have e1 : ∀ O, oMod O (.int c) (.int B20) = .val (.int (c % B20)) O := fun O => md (by decide)
  have e2 : ∀ O, oFdiv O (.int c) (.int B20) = .val (.int (c / B20)) O := fun O => fd (by decide) (by decide)
  have ha := app0 (y := .int (c % B20)) hl
  have hv : D.int (c % B20) = D.int ((c % B20).toNat : Nat) := by rw [Int.toNat_of_nonneg (Int.emod_nonneg _ (by decide))]
  unfold b__law_draw_1
  simp only [dSeq, SR.seq, dNext, dExpr, dRet, dRetN, dBreak, dCont, dIfS, GR.toS, GR.seq, ER.toG, gNm, gAll, gTp, dAsg, dSetF, setItm, gSb, dAug, ER.bind, ER.toB, ER.toA, ER.toS, AR.toA, AR.toE, BR.toS, BR.toE, BR.toB, dVar, dC, dOp, dUn, dCB, dNil, dCons, mk, Ob.d, vw, dT1, dTr, dNot, dAnd, dOr, dChain, dAndV, dOrV, dIf, dLst, dTup, dNewK, dSl, dNoPart, dPart, PR.toE, oSl, oAdd, oSub, oI, oIadd, oLt, oLe, oGt, oGe, oCmp, oEq, eqD, sceq, oIs, oIn, inD, oLen, dRaise, dCall, FR.toE, dCallS, runF, runS, SR.fin, SR.ret, dXf, dFrz, dIt, itD, dML, dMS, isL, putFD, oNot, truD, oIx, ixD, List.map, List.append, List.replicate, List.length, List.set, List.getElem?_cons_zero, List.getElem?_cons_succ, List.cons_append, List.nil_append, List.length_cons, List.length_nil, Nat.zero_add, Nat.reduceAdd, Nat.reduceSub, Nat.reduceLT, Bool.true_eq_false, Bool.false_eq_true, Bool.not_true, Bool.not_false, if_true, if_false, and_true, true_and, reduceIte, and_self, eq_self, oC1, oInt, e1, e2, ha]
  rw [nI_app, hv]
  rfl
theorem draw1_loop {m y z : Sl} : ∀ (ks : List D) (c : Int) (acc : List Nat) (x : Sl), acc.length + ks.length < 1000 → ∃ l c' x', l.length = ks.length ∧ forGo none (gNm 4) b__law_draw_1 ks [.v (.int c), m, .v (.int B20), .v (.ref 0), x, y, z] [some (.lst (nI acc))] = .nx [.v (.int c'), m, .v (.int B20), .v (.ref 0), x', y, z] [some (.lst (nI (acc ++ l)))]
  | [], c, acc, x, h => ⟨[], c, x, rfl, by rw [for_nil gd0, List.append_nil]⟩
  | k :: ks, c, acc, x, h => by
    obtain ⟨v, c', hb⟩ := draw1_b (c := c) (acc := acc) (m := m) (x := .v k) (y := y) (z := z) (by simp at h; omega)
    obtain ⟨l, c2, x', hl, e⟩ := draw1_loop (m := m) (y := y) (z := z) ks c' (acc ++ [v]) (.v k) (by simp at h ⊢; omega)
    refine ⟨v :: l, c2, x', by simp [hl], ?_⟩
    rw [for_nx gd0 rfl hb, e]
    simp
theorem draw2_b {s k : Int} {acc : List Nat} {c m z : Sl} (h : acc.length < 1000) (hs0 : 0 ≤ s) (hs : s < 2147483647) : ∃ v s' z', 0 ≤ s' ∧ s' < 2147483647 ∧ b__law_draw_2 [c, m, .v (.int B20), .v (.ref 0), .v (.int k), .v (.int s), z] [some (.lst (nI acc))] = .nx [c, m, .v (.int B20), .v (.ref 0), .v (.int k), .v (.int s'), z'] [some (.lst (nI (acc ++ [v])))] := by
  have hl : (nI acc).length < sizeLine := by have := qn (acc.length + 1) (by omega); rw [nI_len]; omega
  have e1 : ∀ O, oMul false O (.int s) (.int 48271) = .val (.int (s * 48271)) O := fun O => ml (cm_l (by omega) (by omega))
  have e2 : ∀ O i, oMod O (.int i) (.int 2147483647) = .val (.int (i % 2147483647)) O := fun O i => md (by decide)
  generalize hs' : (s * 48271 + 12345 + k) % 2147483647 = s'
  have h1 : 0 ≤ s' := by rw [← hs']; exact Int.emod_nonneg _ (by decide)
  have h2 : s' < 2147483647 := by rw [← hs']; exact Int.emod_lt_of_pos _ (by decide)
  have e3 : ∀ O, oMul false O (.int s') (.int 69621) = .val (.int (s' * 69621)) O := fun O => ml (cm_l (by omega) (by omega))
  have e4 : ∀ O, oMul false O (.int 977) (.int k) = .val (.int (977 * k)) O := fun O => ml (cm_l (by decide) (by decide))
  have e5 : ∀ O i, oMod O (.int i) (.int 2147483629) = .val (.int (i % 2147483629)) O := fun O i => md (by decide)
  have e6 : ∀ O i, oFdiv O (.int i) (.int 3) = .val (.int (i / 3)) O := fun O i => fd (by decide) (by decide)
  have e7 : ∀ O i, oMod O (.int i) (.int B20) = .val (.int (i % B20)) O := fun O i => md (by decide)
  refine ⟨(((s' * 69621 + 977 * k) % 2147483629 / 3) % B20).toNat, s', .v (.int ((s' * 69621 + 977 * k) % 2147483629)), h1, h2, ?_⟩
  have ha := app0 (y := .int (((s' * 69621 + 977 * k) % 2147483629 / 3) % B20)) hl
  have hv : D.int (((s' * 69621 + 977 * k) % 2147483629 / 3) % B20) = D.int ((((s' * 69621 + 977 * k) % 2147483629 / 3) % B20).toNat : Nat) := by rw [Int.toNat_of_nonneg (Int.emod_nonneg _ (by decide))]
  unfold b__law_draw_2
  simp only [dSeq, SR.seq, dNext, dExpr, dRet, dRetN, dBreak, dCont, dIfS, GR.toS, GR.seq, ER.toG, gNm, gAll, gTp, dAsg, dSetF, setItm, gSb, dAug, ER.bind, ER.toB, ER.toA, ER.toS, AR.toA, AR.toE, BR.toS, BR.toE, BR.toB, dVar, dC, dOp, dUn, dCB, dNil, dCons, mk, Ob.d, vw, dT1, dTr, dNot, dAnd, dOr, dChain, dAndV, dOrV, dIf, dLst, dTup, dNewK, dSl, dNoPart, dPart, PR.toE, oSl, oAdd, oSub, oI, oIadd, oLt, oLe, oGt, oGe, oCmp, oEq, eqD, sceq, oIs, oIn, inD, oLen, dRaise, dCall, FR.toE, dCallS, runF, runS, SR.fin, SR.ret, dXf, dFrz, dIt, itD, dML, dMS, isL, putFD, oNot, truD, oIx, ixD, List.map, List.append, List.replicate, List.length, List.set, List.getElem?_cons_zero, List.getElem?_cons_succ, List.cons_append, List.nil_append, List.length_cons, List.length_nil, Nat.zero_add, Nat.reduceAdd, Nat.reduceSub, Nat.reduceLT, Bool.true_eq_false, Bool.false_eq_true, Bool.not_true, Bool.not_false, if_true, if_false, and_true, true_and, reduceIte, and_self, eq_self, oC1, oInt, e1, e2, hs', e3, e4, e5, e6, e7, ha]
  rw [nI_app, hv]
  rfl
theorem draw2_loop {c m : Sl} : ∀ (ks : List Int) (s : Int) (acc : List Nat) (x z : Sl), acc.length + ks.length < 1000 → 0 ≤ s → s < 2147483647 → ∃ l s' x' z', l.length = ks.length ∧ forGo none (gNm 4) b__law_draw_2 (ks.map D.int) [c, m, .v (.int B20), .v (.ref 0), x, .v (.int s), z] [some (.lst (nI acc))] = .nx [c, m, .v (.int B20), .v (.ref 0), x', .v (.int s'), z'] [some (.lst (nI (acc ++ l)))]
  | [], s, acc, x, z, h, _, _ => ⟨[], s, x, z, rfl, by rw [List.map_nil, for_nil gd0, List.append_nil]⟩
  | k :: ks, s, acc, x, z, h, h1, h2 => by
    obtain ⟨v, s', z', g1, g2, hb⟩ := draw2_b (s := s) (k := k) (acc := acc) (c := c) (m := m) (z := z) (by simp at h; omega) h1 h2
    obtain ⟨l, s2, x', z2, hl, e⟩ := draw2_loop (c := c) (m := m) ks s' (acc ++ [v]) (.v (.int k)) z' (by simp at h ⊢; omega) g1 g2
    refine ⟨v :: l, s2, x', z2, by simp [hl], ?_⟩
    rw [List.map_cons, for_nx gd0 rfl hb, e]
    simp
theorem rng_go {ε : Mi.Env} {O : Sto} {i m : Nat} (hn : m < 2 ^ 40) (h : ε[i]? = some (.v (.int (m : Nat)))) : dRng1 (dCons (dVar i) dNil) ε O = .val ((List.range m).map fun (k : Nat) => D.int (0 + k)) none O := by
  refine rng_of hn ?_
  simp only [dCons, dVar, h, dNil, ER.toA, AR.toA]
theorem pow18 {O : Sto} : oPow O (.int 10) (.int 18) = .val (.int 1000000000000000000) O := by
  unfold oPow oIC
  simp only
  rw [if_pos]
  · rfl
  · exact ⟨by decide, by decide, by decide⟩
theorem map_int (m : Nat) : ((List.range m).map fun (k : Nat) => D.int (0 + k)) = ((List.range m).map fun (k : Nat) => (0 + (k : Int))).map D.int := by rw [List.map_map]; rfl
theorem draw_go {c : Int} {m : Nat} (hm : m < 500) : ∃ l : List Nat, l.length = m ∧ m__law_draw [.int c, .int (m : Nat), .int B20] = .fr (.lst (nI l)) := by
  have hz := qn 0 (by omega)
  have hp : ∀ l : List Nat, (Ob.lst (nI l)).pure = true := by
    intro l
    show D.pure (.lst (nI l)) = true
    rw [D.pure]
    unfold nI
    induction l with
    | nil => rfl
    | cons n l ih => rw [List.map_cons, D.pureL, ih]; rfl
  have fin : ∀ (l : List Nat) (O : Sto), (SR.rt (.ref 0) (some (.lst (nI l)) :: O)).fin = .fr (.lst (nI l)) := by
    intro l O
    unfold SR.fin
    simp only [D.pure, Bool.false_eq_true, if_false, List.getElem?_cons_zero, hp, Ob.box, Bool.and_self, if_true]
  unfold m__law_draw runF
  by_cases h : (1000000000000000000 : Int) ≤ c
  · obtain ⟨l, c', x', hl, e⟩ := draw1_loop (m := .v (.int (m : Nat))) (y := .no) (z := .no) ((List.range m).map fun (k : Nat) => D.int (0 + k)) c [] .no (by simp; omega)
    refine ⟨l, by simpa using hl, ?_⟩
    have hf := for_of (g := gNm 4) (b := b__law_draw_1) (O := [some (.lst [])]) (rng_go (ε := [.v (.int c), .v (.int (m : Nat)), .v (.int B20), .v (.ref 0), .no, .no, .no]) (i := 1) (m := m) (by omega) rfl) e
    have h1 : dAsg (dLst true dNil) (gNm 3) [.v (.int c), .v (.int (m : Nat)), .v (.int B20), .no, .no, .no, .no] [] = .nx [.v (.int c), .v (.int (m : Nat)), .v (.int B20), .v (.ref 0), .no, .no, .no] [some (.lst [])] := by
      simp only [dSeq, SR.seq, dNext, dExpr, dRet, dRetN, dBreak, dCont, dIfS, GR.toS, GR.seq, ER.toG, gNm, gAll, gTp, dAsg, dSetF, setItm, gSb, dAug, ER.bind, ER.toB, ER.toA, ER.toS, AR.toA, AR.toE, BR.toS, BR.toE, BR.toB, dVar, dC, dOp, dUn, dCB, dNil, dCons, mk, Ob.d, vw, dT1, dTr, dNot, dAnd, dOr, dChain, dAndV, dOrV, dIf, dLst, dTup, dNewK, dSl, dNoPart, dPart, PR.toE, oSl, oAdd, oSub, oI, oIadd, oLt, oLe, oGt, oGe, oCmp, oEq, eqD, sceq, oIs, oIn, inD, oLen, dRaise, dCall, FR.toE, dCallS, runF, runS, SR.fin, SR.ret, dXf, dFrz, dIt, itD, dML, dMS, isL, putFD, oNot, truD, oIx, ixD, List.map, List.append, List.replicate, List.length, List.set, List.getElem?_cons_zero, List.getElem?_cons_succ, List.cons_append, List.nil_append, List.length_cons, List.length_nil, Nat.zero_add, Nat.reduceAdd, Nat.reduceSub, Nat.reduceLT, Bool.true_eq_false, Bool.false_eq_true, Bool.not_true, Bool.not_false, if_true, if_false, and_true, true_and, reduceIte, and_self, eq_self, hz]
    have ht : dT1 (dOp oGe (dVar 0) (dOp oPow (dC (.int 10)) (dC (.int 18)))) [.v (.int c), .v (.int (m : Nat)), .v (.int B20), .v (.ref 0), .no, .no, .no] [some (.lst [])] = .val true [some (.lst [])] := by
      simp only [dSeq, SR.seq, dNext, dExpr, dRet, dRetN, dBreak, dCont, dIfS, GR.toS, GR.seq, ER.toG, gNm, gAll, gTp, dAsg, dSetF, setItm, gSb, dAug, ER.bind, ER.toB, ER.toA, ER.toS, AR.toA, AR.toE, BR.toS, BR.toE, BR.toB, dVar, dC, dOp, dUn, dCB, dNil, dCons, mk, Ob.d, vw, dT1, dTr, dNot, dAnd, dOr, dChain, dAndV, dOrV, dIf, dLst, dTup, dNewK, dSl, dNoPart, dPart, PR.toE, oSl, oAdd, oSub, oI, oIadd, oLt, oLe, oGt, oGe, oCmp, oEq, eqD, sceq, oIs, oIn, inD, oLen, dRaise, dCall, FR.toE, dCallS, runF, runS, SR.fin, SR.ret, dXf, dFrz, dIt, itD, dML, dMS, isL, putFD, oNot, truD, oIx, ixD, List.map, List.append, List.replicate, List.length, List.set, List.getElem?_cons_zero, List.getElem?_cons_succ, List.cons_append, List.nil_append, List.length_cons, List.length_nil, Nat.zero_add, Nat.reduceAdd, Nat.reduceSub, Nat.reduceLT, Bool.true_eq_false, Bool.false_eq_true, Bool.not_true, Bool.not_false, if_true, if_false, and_true, true_and, reduceIte, and_self, eq_self, pow18, h, decide_true]
    have hb : b__law_draw [.v (.int c), .v (.int (m : Nat)), .v (.int B20), .no, .no, .no, .no] [] = .rt (.ref 0) [some (.lst (nI l))] := seq_rt h1 (seq_r (if_t ht (seq_rt hf rfl)))
    exact (congrArg SR.fin hb).trans (fin l [])
  · have hs1 : 0 ≤ c % 2147483647 := Int.emod_nonneg _ (by decide)
    have hs2 : c % 2147483647 < 2147483647 := Int.emod_lt_of_pos _ (by decide)
    obtain ⟨l, s', x', z', hl, e⟩ := draw2_loop (c := .v (.int c)) (m := .v (.int (m : Nat))) ((List.range m).map fun (k : Nat) => (0 + (k : Int))) (c % 2147483647) [] .no .no (by simp; omega) hs1 hs2
    rw [← map_int] at e
    refine ⟨l, by simpa using hl, ?_⟩
    have hf := for_of (g := gNm 4) (b := b__law_draw_2) (O := [some (.lst [])]) (rng_go (ε := [.v (.int c), .v (.int (m : Nat)), .v (.int B20), .v (.ref 0), .no, .v (.int (c % 2147483647)), .no]) (i := 1) (m := m) (by omega) rfl) e
    have e2 : ∀ O, oMod O (.int c) (.int 2147483647) = .val (.int (c % 2147483647)) O := fun O => md (by decide)
    have h1 : dAsg (dLst true dNil) (gNm 3) [.v (.int c), .v (.int (m : Nat)), .v (.int B20), .no, .no, .no, .no] [] = .nx [.v (.int c), .v (.int (m : Nat)), .v (.int B20), .v (.ref 0), .no, .no, .no] [some (.lst [])] := by
      simp only [dSeq, SR.seq, dNext, dExpr, dRet, dRetN, dBreak, dCont, dIfS, GR.toS, GR.seq, ER.toG, gNm, gAll, gTp, dAsg, dSetF, setItm, gSb, dAug, ER.bind, ER.toB, ER.toA, ER.toS, AR.toA, AR.toE, BR.toS, BR.toE, BR.toB, dVar, dC, dOp, dUn, dCB, dNil, dCons, mk, Ob.d, vw, dT1, dTr, dNot, dAnd, dOr, dChain, dAndV, dOrV, dIf, dLst, dTup, dNewK, dSl, dNoPart, dPart, PR.toE, oSl, oAdd, oSub, oI, oIadd, oLt, oLe, oGt, oGe, oCmp, oEq, eqD, sceq, oIs, oIn, inD, oLen, dRaise, dCall, FR.toE, dCallS, runF, runS, SR.fin, SR.ret, dXf, dFrz, dIt, itD, dML, dMS, isL, putFD, oNot, truD, oIx, ixD, List.map, List.append, List.replicate, List.length, List.set, List.getElem?_cons_zero, List.getElem?_cons_succ, List.cons_append, List.nil_append, List.length_cons, List.length_nil, Nat.zero_add, Nat.reduceAdd, Nat.reduceSub, Nat.reduceLT, Bool.true_eq_false, Bool.false_eq_true, Bool.not_true, Bool.not_false, if_true, if_false, and_true, true_and, reduceIte, and_self, eq_self, hz]
    have ht : dT1 (dOp oGe (dVar 0) (dOp oPow (dC (.int 10)) (dC (.int 18)))) [.v (.int c), .v (.int (m : Nat)), .v (.int B20), .v (.ref 0), .no, .no, .no] [some (.lst [])] = .val false [some (.lst [])] := by
      simp only [dSeq, SR.seq, dNext, dExpr, dRet, dRetN, dBreak, dCont, dIfS, GR.toS, GR.seq, ER.toG, gNm, gAll, gTp, dAsg, dSetF, setItm, gSb, dAug, ER.bind, ER.toB, ER.toA, ER.toS, AR.toA, AR.toE, BR.toS, BR.toE, BR.toB, dVar, dC, dOp, dUn, dCB, dNil, dCons, mk, Ob.d, vw, dT1, dTr, dNot, dAnd, dOr, dChain, dAndV, dOrV, dIf, dLst, dTup, dNewK, dSl, dNoPart, dPart, PR.toE, oSl, oAdd, oSub, oI, oIadd, oLt, oLe, oGt, oGe, oCmp, oEq, eqD, sceq, oIs, oIn, inD, oLen, dRaise, dCall, FR.toE, dCallS, runF, runS, SR.fin, SR.ret, dXf, dFrz, dIt, itD, dML, dMS, isL, putFD, oNot, truD, oIx, ixD, List.map, List.append, List.replicate, List.length, List.set, List.getElem?_cons_zero, List.getElem?_cons_succ, List.cons_append, List.nil_append, List.length_cons, List.length_nil, Nat.zero_add, Nat.reduceAdd, Nat.reduceSub, Nat.reduceLT, Bool.true_eq_false, Bool.false_eq_true, Bool.not_true, Bool.not_false, if_true, if_false, and_true, true_and, reduceIte, and_self, eq_self, pow18, h, decide_false]
    have h3 : dAsg (dOp oMod (dCB (oC1 oInt) (dCons (dVar 0) dNil)) (dC (.int 2147483647))) (gNm 5) [.v (.int c), .v (.int (m : Nat)), .v (.int B20), .v (.ref 0), .no, .no, .no] [some (.lst [])] = .nx [.v (.int c), .v (.int (m : Nat)), .v (.int B20), .v (.ref 0), .no, .v (.int (c % 2147483647)), .no] [some (.lst [])] := by
      simp only [dSeq, SR.seq, dNext, dExpr, dRet, dRetN, dBreak, dCont, dIfS, GR.toS, GR.seq, ER.toG, gNm, gAll, gTp, dAsg, dSetF, setItm, gSb, dAug, ER.bind, ER.toB, ER.toA, ER.toS, AR.toA, AR.toE, BR.toS, BR.toE, BR.toB, dVar, dC, dOp, dUn, dCB, dNil, dCons, mk, Ob.d, vw, dT1, dTr, dNot, dAnd, dOr, dChain, dAndV, dOrV, dIf, dLst, dTup, dNewK, dSl, dNoPart, dPart, PR.toE, oSl, oAdd, oSub, oI, oIadd, oLt, oLe, oGt, oGe, oCmp, oEq, eqD, sceq, oIs, oIn, inD, oLen, dRaise, dCall, FR.toE, dCallS, runF, runS, SR.fin, SR.ret, dXf, dFrz, dIt, itD, dML, dMS, isL, putFD, oNot, truD, oIx, ixD, List.map, List.append, List.replicate, List.length, List.set, List.getElem?_cons_zero, List.getElem?_cons_succ, List.cons_append, List.nil_append, List.length_cons, List.length_nil, Nat.zero_add, Nat.reduceAdd, Nat.reduceSub, Nat.reduceLT, Bool.true_eq_false, Bool.false_eq_true, Bool.not_true, Bool.not_false, if_true, if_false, and_true, true_and, reduceIte, and_self, eq_self, oC1, oInt, e2]
    have hb : b__law_draw [.v (.int c), .v (.int (m : Nat)), .v (.int B20), .no, .no, .no, .no] [] = .rt (.ref 0) [some (.lst (nI l))] := seq_rt h1 (seq_rt (if_f ht rfl) (seq_rt h3 (seq_rt hf rfl)))
    exact (congrArg SR.fin hb).trans (fin l [])
theorem shl20 {O : Sto} : oShl O (.int 1) (.int 20) = .val (.int B20) O := by
  unfold oShl oIC
  simp only
  rw [if_pos]
  · rfl
  · exact ⟨by decide, .inl ⟨by decide, by decide⟩⟩
end My

namespace My
open PySem PySem.Spec PyProof.Rows L2 R Mi TL
theorem spl_len (S : List Nat) : ∀ (l : List Nat) (k : Nat) (acc : List Nat), ∀ p ∈ spl S k acc l, p.length ≤ acc.length + l.length
  | [], k, acc, p, h => by
    rw [spl_nil] at h
    rw [List.mem_singleton.mp h]; simp
  | c :: r, 0, acc, p, h => by
    cases hp : pre S (c :: r) with
    | true =>
      rw [spl_hit hp] at h
      rcases List.mem_cons.mp h with z | z
      · rw [z]; omega
      · have := spl_len S r _ [] p z
        simp at this ⊢; omega
    | false =>
      rw [spl_miss hp] at h
      have := spl_len S r _ _ p h
      simp at this ⊢; omega
  | c :: r, k + 1, acc, p, h => by
    have := spl_len S r k acc p h
    simp at this ⊢; omega
abbrev dot : Str := "."
theorem part_len {t p : Str} (h : p ∈ Txt.split t dot) : p.length ≤ t.length := by
  have e := split_spl t dot (by decide +kernel) (kind_ok (by decide +kernel))
  have hm : tl p ∈ (Txt.split t dot).map tl := List.mem_map.mpr ⟨p, h, rfl⟩
  rw [e] at hm
  have := spl_len _ _ _ _ _ hm
  rw [len_tl, len_tl]
  simpa using this
def fm (t : Str) : Bool := !decide (40 < t.length) && (Txt.split t dot).all fun p => sm p.cps.toList
theorem split_v {t : Str} (hl : t.length ≤ 1000000) {ε : Mi.Env} {O : Sto} (h : ε[0]? = some (.v (.str t))) : dIt (dMS (mSplit false) (dVar 0) (dCons (dC (.str ".")) dNil)) ε O = .val ((Txt.split t dot).map D.str) none O := by
  have h1 : dMS (mSplit false) (dVar 0) (dCons (dC (.str ".")) dNil) ε O = .val (.lst ((Txt.split t dot).map D.str)) O := by
    have hz : (dot.length == 0) = false ∧ t.length + 2 ≤ sizeLine := ⟨by decide +kernel, qn _ (by omega)⟩
    unfold dMS dVar dCons
    rw [h]
    show mSplit false O (.str t) [.str dot] = _
    unfold mSplit
    simp only
    rw [if_pos hz]
    rfl
  unfold dIt
  rw [h1]
  rfl
theorem pS (t : Str) : D.pure (.str t) = true := rfl
theorem full_go (t : Str) (hl : t.length ≤ 1000000) : m_is_full_name [.str t] = .ok (.bl (fm t)) := by
  suffices h : b_is_full_name [.v (.str t), .no] [] = .rt (.bl (fm t)) [] by
    show (b_is_full_name [.v (.str t), .no] []).fin = _
    rw [h]
    rfl
  have e2 : dOp oGt (dCB oLen (dCons (dVar 0) dNil)) (dC (.int 40)) [.v (.str t), .no] [] = .val (.bl (decide ((40 : Int) < (t.length : Nat)))) [] := op_v (cb1 rfl (len_s hl [])) rfl (gtI _ _ _)
  unfold b_is_full_name fm
  by_cases h40 : 40 < t.length
  · rw [decide_eq_true (by omega)] at e2
    rw [decide_eq_true h40]
    exact seq_r (if_t (t1_v e2) rfl)
  · rw [decide_eq_false (by omega)] at e2
    rw [decide_eq_false h40]
    refine seq_rt (if_f (t1_v e2) rfl) (ret_v (ga_of (split_v hl rfl) ?_))
    have key : ∀ L : List Str, (∀ p ∈ L, p.length ≤ 1000000) → gaGo false none (CT.one 1) (dCall false m_is_simple_name 1 (dCons (dVar 1) dNil)) [.v (.str t), .no] (L.map D.str) [] = .val (.bl (L.all fun p => sm p.cps.toList)) [] := by
      intro L
      induction L with
      | nil => intro _; exact ga_nil
      | cons p L ih =>
        intro hL
        have he : dCall false m_is_simple_name 1 (dCons (dVar 1) dNil) [.v (.str t), .v (.str p)] [] = .val (.bl (sm p.cps.toList)) [] := call1 rfl rfl (by rw [simple_go p (hL p List.mem_cons_self)]; rfl)
        rw [List.map_cons, ga_cons (i := 1) (ε := [.v (.str t), .no]) (x := .str p) he, List.all_cons]
        cases sm p.cps.toList with
        | true => rw [if_neg (by decide), Bool.true_and]; exact ih fun q hq => hL q (List.mem_cons_of_mem _ hq)
        | false => rw [if_pos rfl, Bool.false_and]
    simp only [Bool.not_false, Bool.true_and]
    exact key _ fun p hp => by have := part_len hp; omega
theorem floop {t : Str} : ∀ (L : List Str) (x : Sl), (∀ p ∈ L, p.length ≤ 1000000) → ((L.all fun p => sm p.cps.toList) = true → ∃ x', forGo none (gNm 1) b__law_full_1 (L.map D.str) [.v (.str t), x] [] = .nx [.v (.str t), x'] []) ∧ ((L.all fun p => sm p.cps.toList) = false → forGo none (gNm 1) b__law_full_1 (L.map D.str) [.v (.str t), x] [] = .rt (.bl false) [])
  | [], x, _ => ⟨fun _ => ⟨x, for_nil gd0⟩, fun h => nomatch h⟩
  | p :: L, x, hL => by
    have he : dCall false m__law_simple 1 (dCons (dVar 1) dNil) [.v (.str t), .v (.str p)] [] = .val (.bl (sm p.cps.toList)) [] := call1 rfl rfl (by rw [lsimple_go p (hL p List.mem_cons_self)]; rfl)
    have ht : dNot (dTr (dCall false m__law_simple 1 (dCons (dVar 1) dNil))) [.v (.str t), .v (.str p)] [] = .val (!(sm p.cps.toList)) [] := by
      unfold dNot dTr
      rw [he]
      rfl
    obtain ⟨i1, i2⟩ := floop (t := t) L (.v (.str p)) fun q hq => hL q (List.mem_cons_of_mem _ hq)
    rw [List.map_cons, List.all_cons]
    cases h5 : sm p.cps.toList with
    | true =>
      rw [h5] at ht
      have hb : b__law_full_1 [.v (.str t), .v (.str p)] [] = .nx [.v (.str t), .v (.str p)] [] := by unfold b__law_full_1; exact if_f ht rfl
      rw [Bool.true_and, for_nx (g := gNm 1) (x := .str p) (ε := [.v (.str t), x]) gd0 rfl hb]
      exact ⟨i1, i2⟩
    | false =>
      rw [h5] at ht
      have hb : b__law_full_1 [.v (.str t), .v (.str p)] [] = .rt (.bl false) [] := by unfold b__law_full_1; exact if_t ht rfl
      exact ⟨fun h => (by simp at h), fun _ => for_rt gd0 rfl hb⟩
theorem lfull_go (t : Str) (hl : t.length ≤ 1000000) : m__law_full [.str t] = .ok (.bl (fm t)) := by
  suffices h : b__law_full [.v (.str t), .no] [] = .rt (.bl (fm t)) [] by
    show (b__law_full [.v (.str t), .no] []).fin = _
    rw [h]
    rfl
  have e2 : dOp oGt (dCB oLen (dCons (dVar 0) dNil)) (dC (.int 40)) [.v (.str t), .no] [] = .val (.bl (decide ((40 : Int) < (t.length : Nat)))) [] := op_v (cb1 rfl (len_s hl [])) rfl (gtI _ _ _)
  unfold b__law_full fm
  by_cases h40 : 40 < t.length
  · rw [decide_eq_true (by omega)] at e2
    rw [decide_eq_true h40]
    exact seq_r (if_t (t1_v e2) rfl)
  · rw [decide_eq_false (by omega)] at e2
    rw [decide_eq_false h40]
    refine seq_rt (if_f (t1_v e2) rfl) ?_
    obtain ⟨i1, i2⟩ := floop (t := t) (Txt.split t dot) .no fun p hp => by have := part_len hp; omega
    unfold b__law_full_2
    simp only [Bool.not_false, Bool.true_and]
    cases ha : ((Txt.split t dot).all fun p => sm p.cps.toList) with
    | true =>
      obtain ⟨x', h⟩ := i1 ha
      exact seq_rt (for_of (split_v hl rfl) h) rfl
    | false => exact seq_r (for_of (split_v hl rfl) (i2 ha))
end My

namespace My
open PySem PySem.Spec PyProof.Rows L2 R Mi TL
theorem call3 {o : Bool} {m : List D → FR} {e f g : DE} {ε : Mi.Env} {O : Sto} {x y z : D} {r : ER} (h : e ε O = .val x O) (h1 : f ε O = .val y O) (h2 : g ε O = .val z O) (hp : D.pureL [x, y, z] = true) (h3 : (m [x, y, z]).toE o O = r) : dCall o m 3 (dCons e (dCons f (dCons g dNil))) ε O = r := by
  unfold dCall dCons
  rw [h]
  simp only [ER.toA]
  rw [h1]
  simp only [ER.toA]
  rw [h2]
  simp only [ER.toA, dNil, AR.toA, AR.toE]
  rw [if_pos ⟨rfl, hp⟩]
  exact h3
theorem isB (b : Bool) (O : Sto) : oC2 oIsi O [.bl b, .ty "bool"] = .val (.bl true) O := isK (.bl b) "bool" "bool" true rfl (by decide) (fun _ => rfl) O
theorem neB (b : Bool) (O : Sto) : oEq true O (.bl b) (.bl b) = .val (.bl false) O := by cases b <;> rfl
theorem tr_v {e : DE} {ε : Mi.Env} {O O1 : Sto} {b : Bool} (h : e ε O = .val (.bl b) O1) : dTr e ε O = .val b O1 := by
  unfold dTr
  rw [h]
  rfl
theorem not_v {e : DT} {ε : Mi.Env} {O O1 : Sto} {b : Bool} (h : e ε O = .val b O1) : dNot e ε O = .val (!b) O1 := by
  unfold dNot
  rw [h]
  rfl
theorem ms1 {op : Sto → D → List D → ER} {e f : DE} {ε : Mi.Env} {O O1 O2 : Sto} {t : Str} {y : D} {r : ER} (h : e ε O = .val (.str t) O1) (h1 : f ε O1 = .val y O2) (h2 : op O2 (.str t) [y] = r) : dMS op e (dCons f dNil) ε O = r := by
  unfold dMS
  rw [h]
  simp only [ER.bind]
  have e2 : dCons f dNil ε O1 = .val [y] O2 := by unfold dCons; rw [h1]; rfl
  rw [e2]
  exact h2
/-- the answers about one text -/
theorem law1_b {w c n s g x7 x8 x9 : Sl} {ws : Sl} {t : Str} (hl : t.length ≤ 1000000) : ∃ y7 y8, b_law_1 [w, c, n, s, g, .v (.str t), ws, x7, x8, x9] [] = .nx [w, c, n, s, g, .v (.str t), ws, y7, y8, x9] [] := by
  refine ⟨.v (.bl (sm t.cps.toList)), .v (.bl (fm t)), ?_⟩
  unfold b_law_1
  have a1 : dCall false m_is_simple_name 1 (dCons (dVar 5) dNil) [w, c, n, s, g, .v (.str t), ws, x7, x8, x9] [] = .val (.bl (sm t.cps.toList)) [] := call1 rfl rfl (by rw [simple_go t hl]; rfl)
  have a2 : dCall false m_is_full_name 1 (dCons (dVar 5) dNil) [w, c, n, s, g, .v (.str t), ws, .v (.bl (sm t.cps.toList)), x8, x9] [] = .val (.bl (fm t)) [] := call1 rfl rfl (by rw [full_go t hl]; rfl)
  have a3 : dCall false m__law_simple 1 (dCons (dVar 5) dNil) [w, c, n, s, g, .v (.str t), ws, .v (.bl (sm t.cps.toList)), .v (.bl (fm t)), x9] [] = .val (.bl (sm t.cps.toList)) [] := call1 rfl rfl (by rw [lsimple_go t hl]; rfl)
  have a4 : dCall false m__law_full 1 (dCons (dVar 5) dNil) [w, c, n, s, g, .v (.str t), ws, .v (.bl (sm t.cps.toList)), .v (.bl (fm t)), x9] [] = .val (.bl (fm t)) [] := call1 rfl rfl (by rw [lfull_go t hl]; rfl)
  refine seq_rt (asg_v a1) (seq_rt (asg_v a2) ?_)
  simp only [List.set]
  refine seq_rt (if_f (or_f (not_v (tr_v (cb2 rfl rfl (isB _ [])))) (not_v (tr_v (cb2 rfl rfl (isB _ []))))) rfl) ?_
  exact if_f (or_f (t1_v (op_v rfl a3 (neB _ []))) (t1_v (op_v rfl a4 (neB _ [])))) rfl
def big (L : List Str) : Bool := L.all fun t => decide (1 ≤ t.length) && decide (t.length ≤ 1000)
theorem pick {L : List Str} {m : Nat} (h : big L = true) (hm : m < L.length) : ∃ t : Str, atI (L.map D.str) (m : Int) = some (.str t) ∧ 1 ≤ t.length ∧ t.length ≤ 1000 := by
  have hx := List.all_eq_true.mp h (L[m]) (List.getElem_mem hm)
  rw [Bool.and_eq_true] at hx
  refine ⟨L[m], ?_, of_decide_eq_true hx.1, of_decide_eq_true hx.2⟩
  refine at_nat ?_
  rw [List.getElem?_map, List.getElem?_eq_getElem hm]
  rfl
noncomputable def lits : List Str → DA
  | [] => dNil
  | t :: L => dCons (dC (.str t)) (lits L)
theorem lits_go {ε : Mi.Env} {O : Sto} : ∀ L : List Str, lits L ε O = .val (L.map D.str) O
  | [] => rfl
  | t :: L => by
    show ((lits L ε O).toA fun xs O2 => AR.val (.str t :: xs) O2) = _
    rw [lits_go L]
    rfl
theorem lst_lits {ε : Mi.Env} {L : List Str} (h : L.length ≤ 1000) (O : Sto) : dLst false (lits L) ε O = .val (.lst (L.map D.str)) O := by
  have z := qn L.length (by omega)
  unfold dLst
  rw [lits_go]
  simp only [AR.toE, List.length_map, if_pos z]
  try rfl
theorem nI_at {d : List Nat} {i : Nat} (h : i < d.length) : ∃ v : Nat, atI (nI d) (i : Int) = some (.int (v : Nat)) := ⟨d[i], at_nat (by unfold nI; rw [List.getElem?_map, List.getElem?_eq_getElem h]; rfl)⟩
theorem cut_nI {d : List Nat} {lo hi : Option Int} : ∃ e : List Nat, e.length ≤ d.length ∧ Mi.cutD (nI d) lo hi = nI e := by
  unfold Mi.cutD nI
  rw [← List.map_drop, ← List.map_take]
  exact ⟨_, by rw [List.length_take, List.length_drop]; omega, rfl⟩
theorem modN (v : Nat) (j : Nat) (hj : 0 < j) (O : Sto) : oMod O (.int (v : Nat)) (.int (j : Nat)) = .val (.int ((v % j : Nat) : Int)) O := by
  rw [md (by omega), Int.natCast_emod]
theorem eqI (a b : Nat) (O : Sto) : ∃ z : Bool, oEq false O (.int (a : Nat)) (.int (b : Nat)) = .val (.bl z) O := ⟨_, rfl⟩
theorem strs_map : ∀ L : List Str, strsD (L.map D.str) = some L
  | [] => rfl
  | s :: L => by
    show (strsD (L.map D.str)).map (s :: ·) = _
    rw [strs_map L]
    rfl
/-- the drawn text -/
theorem text_go {w c x5 x6 x7 x8 x9 : Sl} {d : List Nat} {s : Int} {g : Str} (hd : d.length = 48) (h1 : 1 ≤ g.length) (h2 : g.length ≤ 1000) : ∃ t : Str, t.length ≤ 1000 ∧
    dMS mJoin (dC (.str "")) (dCons (dLc false (dIt (dSl false (dVar 2) (dPart (dC (.int 3))) (dPart (dOp (oAdd false) (dC (.int 3)) (dVar 3))))) (CT.one 9) dYes (dOp oIx (dVar 4) (dOp oMod (dVar 9) (dCB oLen (dCons (dVar 4) dNil))))) dNil) [w, c, .v (.lst (nI d)), .v (.int s), .v (.str g), x5, x6, x7, x8, x9] [] = .val (.str t) [] := by
  obtain ⟨e, he, hc⟩ := cut_nI (d := d) (lo := some 3) (hi := some (3 + s))
  have hz := qn _ (by omega : g.length ≤ 10000000)
  have hs : dIt (dSl false (dVar 2) (dPart (dC (.int 3))) (dPart (dOp (oAdd false) (dC (.int 3)) (dVar 3)))) [w, c, .v (.lst (nI d)), .v (.int s), .v (.str g), x5, x6, x7, x8, x9] [] = .val (nI e) none [] := by
    have q : dSl false (dVar 2) (dPart (dC (.int 3))) (dPart (dOp (oAdd false) (dC (.int 3)) (dVar 3))) [w, c, .v (.lst (nI d)), .v (.int s), .v (.str g), x5, x6, x7, x8, x9] [] = .val (.lst (Mi.cutD (nI d) (some 3) (some (3 + s)))) [] := rfl
    unfold dIt
    rw [q, hc]
    rfl
  let f : D → D := fun x => match x with
    | .int n => .str ⟨#[g.cps.toList.getD (n.toNat % g.length) 0]⟩
    | _ => .non
  have hf : ∀ x ∈ nI e, dOp oIx (dVar 4) (dOp oMod (dVar 9) (dCB oLen (dCons (dVar 4) dNil))) ([w, c, .v (.lst (nI d)), .v (.int s), .v (.str g), x5, x6, x7, x8, .no].set 9 (.v x)) [] = .val (f x) [] := by
    intro x hx
    obtain ⟨v, _, rfl⟩ := List.mem_map.mp hx
    have hlt : v % g.length < g.cps.toList.length := by rw [← len_tl]; exact Nat.mod_lt _ (by omega)
    refine op_v rfl (op_v rfl (cb1 rfl (len_s (by omega) [])) (modN v g.length (by omega) [])) ?_
    refine (ix_s hz (c := g.cps.toList.getD (v % g.length) 0) (at_nat ?_) []).trans ?_
    · rw [List.getD_eq_getElem?_getD, List.getElem?_eq_getElem hlt]; rfl
    · show _ = ER.val (.str ⟨#[g.cps.toList.getD ((v : Int).toNat % g.length) 0]⟩) []
      rw [Int.toNat_natCast]
  have hlc := lc_one (i := 9) (ε := [w, c, .v (.lst (nI d)), .v (.int s), .v (.str g), x5, x6, x7, x8, .no]) (O := []) (f := f) (nI e) [] hf (by rw [nI_len]; exact qn _ (by simp; omega))
  have hm : (nI e).map f = (e.map fun v => (⟨#[g.cps.toList.getD (v % g.length) 0]⟩ : Str)).map D.str := by
    unfold nI
    rw [List.map_map, List.map_map]
    refine List.map_congr_left fun v _ => ?_
    show D.str ⟨#[g.cps.toList.getD ((v : Int).toNat % g.length) 0]⟩ = _
    rw [Int.toNat_natCast]
    rfl
  rw [List.nil_append, hm] at hlc
  generalize hL : (e.map fun v => (⟨#[g.cps.toList.getD (v % g.length) 0]⟩ : Str)) = L at hlc
  have hll : L.length ≤ 48 := by rw [← hL, List.length_map]; omega
  have hsum : (L.map (·.length)).sum = L.length := by
    rw [← hL]
    clear hlc hm hL hf hs hc he
    induction e with
    | nil => rfl
    | cons v e ih => rw [List.map_cons, List.map_cons, List.sum_cons, List.length_cons, ih]; show 1 + _ = _; omega
  have hlcv : dLc false (dIt (dSl false (dVar 2) (dPart (dC (.int 3))) (dPart (dOp (oAdd false) (dC (.int 3)) (dVar 3))))) (CT.one 9) dYes (dOp oIx (dVar 4) (dOp oMod (dVar 9) (dCB oLen (dCons (dVar 4) dNil)))) [w, c, .v (.lst (nI d)), .v (.int s), .v (.str g), x5, x6, x7, x8, x9] [] = .val (.lst (L.map D.str)) [] := by
    unfold dLc
    rw [hs]
    show ((lcGo none (.one 9) dYes _ [w, c, .v (.lst (nI d)), .v (.int s), .v (.str g), x5, x6, x7, x8, .no] (nI e) [] []).toE fun xs O2 => mk false (.lst xs) O2) = _
    rw [hlc]
    rfl
  refine ⟨Txt.join "" L, ?_, ?_⟩
  · have h := StrLaws.join_length_le "" L
    have e0 : (Str.length "") = 0 := rfl
    rw [hsum, e0, Nat.mul_zero] at h
    have h : (Txt.join "" L).length ≤ L.length + 0 := by rw [TL.join_eq]; exact h
    omega
  · refine ms1 rfl hlcv ?_
    unfold mJoin
    show (match strsD (L.map D.str) with
      | some ys => _
      | none => _) = _
    rw [strs_map]
    have e0 : (Str.length "") = 0 := rfl
    simp only
    rw [if_pos (by rw [hsum, e0]; omega)]
abbrev SG : List Str := ["aZ_b09", "aZ_b0.9", "ab.", "a- ", "Qx7~"]
abbrev WD : List Str := ["null", "record", "choice", "int", "map", "union", "string", "x.int", "long", "fixed", "bytes"]
theorem law3_b {w : Sl} {c : Int} {x2 x3 x4 x5 x6 x7 x8 x9 : Sl} : ∃ y2 y3 y4 y5 y6 y7 y8, b_law_3 [w, .v (.int c), x2, x3, x4, x5, x6, x7, x8, x9] [] = .nx [w, .v (.int c), y2, y3, y4, y5, y6, y7, y8, x9] [] := by
  obtain ⟨d, hd, hdr⟩ := draw_go (c := c) (m := 48) (by omega)
  have hdr : m__law_draw [.int c, .int 48, .int B20] = .fr (.lst (nI d)) := hdr
  have a1 : dCall false m__law_draw 3 (dCons (dVar 1) (dCons (dC (.int 48)) (dCons (dOp oShl (dC (.int 1)) (dC (.int 20))) dNil))) [w, .v (.int c), x2, x3, x4, x5, x6, x7, x8, x9] [] = .val (.lst (nI d)) [] :=
    call3 rfl rfl (op_v rfl rfl shl20) rfl (by rw [hdr]; rfl)
  obtain ⟨v0, hv0⟩ := nI_at (d := d) (i := 0) (by omega)
  obtain ⟨v1, hv1⟩ := nI_at (d := d) (i := 1) (by omega)
  obtain ⟨v2, hv2⟩ := nI_at (d := d) (i := 2) (by omega)
  have hv0 : atI (nI d) 0 = some (.int (v0 : Nat)) := hv0
  have hv1 : atI (nI d) 1 = some (.int (v1 : Nat)) := hv1
  have hv2 : atI (nI d) 2 = some (.int (v2 : Nat)) := hv2
  have i0 : ∀ {y3 y4 y5 y6 y7 y8}, dOp oIx (dVar 2) (dC (.int 0)) [w, .v (.int c), .v (.lst (nI d)), y3, y4, y5, y6, y7, y8, x9] [] = .val (.int (v0 : Nat)) [] := op_v rfl rfl (ix_l hv0 [])
  have i1 : ∀ {y3 y4 y5 y6 y7 y8}, dOp oIx (dVar 2) (dC (.int 1)) [w, .v (.int c), .v (.lst (nI d)), y3, y4, y5, y6, y7, y8, x9] [] = .val (.int (v1 : Nat)) [] := op_v rfl rfl (ix_l hv1 [])
  have i2 : ∀ {y3 y4 y5 y6 y7 y8}, dOp oIx (dVar 2) (dC (.int 2)) [w, .v (.int c), .v (.lst (nI d)), y3, y4, y5, y6, y7, y8, x9] [] = .val (.int (v2 : Nat)) [] := op_v rfl rfl (ix_l hv2 [])
  have md0 : ∀ (v j : Nat) (hj : 0 < j), oMod ([] : Sto) (.int (v : Nat)) (.int (j : Nat)) = .val (.int ((v % j : Nat) : Int)) [] := fun v j hj => modN v j hj []
  -- behind the size
  have rest : ∀ s : Int, ∃ y3 y4 y5 y6 y7 y8, b_law_2 [w, .v (.int c), .v (.lst (nI d)), .v (.int s), x4, x5, x6, x7, x8, x9] [] = .nx [w, .v (.int c), .v (.lst (nI d)), y3, y4, y5, y6, y7, y8, x9] [] := by
    intro s
    obtain ⟨g, hg, g1, g2⟩ := pick (L := SG) (m := v2 % 5) (by decide +kernel) (Nat.mod_lt _ (by decide))
    have b1 : dOp oIx (dLst false (lits SG)) (dOp oMod (dOp oIx (dVar 2) (dC (.int 2))) (dC (.int 5))) [w, .v (.int c), .v (.lst (nI d)), .v (.int s), x4, x5, x6, x7, x8, x9] [] = .val (.str g) [] :=
      op_v (lst_lits (by decide) []) (op_v i2 rfl (md0 v2 5 (by decide))) (ix_l hg [])
    obtain ⟨t, ht, b2⟩ := text_go (w := w) (c := .v (.int c)) (x5 := x5) (x6 := x6) (x7 := x7) (x8 := x8) (x9 := x9) (s := s) (g := g) hd g1 g2
    have b3 : dLst false (lits WD) [w, .v (.int c), .v (.lst (nI d)), .v (.int s), .v (.str g), .v (.str t), x6, x7, x8, x9] [] = .val (.lst (WD.map D.str)) [] := lst_lits (by decide) []
    obtain ⟨z, hz⟩ := eqI (v1 % 7) 1 []
    have b4 : dT1 (dOp (oEq false) (dOp oMod (dOp oIx (dVar 2) (dC (.int 1))) (dC (.int 7))) (dC (.int 1))) [w, .v (.int c), .v (.lst (nI d)), .v (.int s), .v (.str g), .v (.str t), .v (.lst (WD.map D.str)), x7, x8, x9] [] = .val z [] := t1_v (op_v (op_v i1 rfl (md0 v1 7 (by decide))) rfl hz)
    have key : ∀ t2 : Str, t2.length ≤ 1000 → ∃ y7 y8, b_law_1 [w, .v (.int c), .v (.lst (nI d)), .v (.int s), .v (.str g), .v (.str t2), .v (.lst (WD.map D.str)), x7, x8, x9] [] = .nx [w, .v (.int c), .v (.lst (nI d)), .v (.int s), .v (.str g), .v (.str t2), .v (.lst (WD.map D.str)), y7, y8, x9] [] := fun t2 h => law1_b (by omega)
    cases z with
    | false =>
      obtain ⟨y7, y8, hk⟩ := key t ht
      refine ⟨_, _, _, _, _, _, seq_rt (asg_v b1) (seq_rt (asg_v b2) (seq_rt (asg_v b3) (seq_rt (if_f b4 rfl) hk)))⟩
    | true =>
      obtain ⟨u, hu, u1, u2⟩ := pick (L := WD) (m := v0 % 11) (by decide +kernel) (Nat.mod_lt _ (by decide))
      have b5 : dOp oIx (dVar 6) (dOp oMod (dOp oIx (dVar 2) (dC (.int 0))) (dCB oLen (dCons (dVar 6) dNil))) [w, .v (.int c), .v (.lst (nI d)), .v (.int s), .v (.str g), .v (.str t), .v (.lst (WD.map D.str)), x7, x8, x9] [] = .val (.str u) [] :=
        op_v rfl (op_v i0 (cb1 rfl rfl) (md0 v0 11 (by decide))) (ix_l hu [])
      obtain ⟨y7, y8, hk⟩ := key u u2
      refine ⟨_, _, _, _, _, _, seq_rt (asg_v b1) (seq_rt (asg_v b2) (seq_rt (asg_v b3) (seq_rt (if_t b4 (asg_v b5)) hk)))⟩
  unfold b_law_3
  have c1 : ∀ {y3}, dAsg (dOp oMod (dOp oIx (dVar 2) (dC (.int 0))) (dC (.int 6))) (gNm 3) [w, .v (.int c), .v (.lst (nI d)), y3, x4, x5, x6, x7, x8, x9] [] = .nx [w, .v (.int c), .v (.lst (nI d)), .v (.int ((v0 % 6 : Nat) : Int)), x4, x5, x6, x7, x8, x9] [] := asg_v (op_v i0 rfl (md0 v0 6 (by decide)))
  obtain ⟨z, hz⟩ := eqI (v1 % 5) 0 []
  have c2 : dT1 (dOp (oEq false) (dOp oMod (dOp oIx (dVar 2) (dC (.int 1))) (dC (.int 5))) (dC (.int 0))) [w, .v (.int c), .v (.lst (nI d)), .v (.int ((v0 % 6 : Nat) : Int)), x4, x5, x6, x7, x8, x9] [] = .val z [] := t1_v (op_v (op_v i1 rfl (md0 v1 5 (by decide))) rfl hz)
  cases z with
  | false =>
    obtain ⟨y3, y4, y5, y6, y7, y8, h⟩ := rest ((v0 % 6 : Nat) : Int)
    exact ⟨_, y3, y4, y5, y6, y7, y8, seq_rt (asg_v a1) (seq_rt c1 (seq_rt (if_f c2 rfl) h))⟩
  | true =>
    obtain ⟨y3, y4, y5, y6, y7, y8, h⟩ := rest (36 + ((v0 % 9 : Nat) : Int))
    have c3 : dAsg (dOp (oAdd false) (dC (.int 36)) (dOp oMod (dOp oIx (dVar 2) (dC (.int 0))) (dC (.int 9)))) (gNm 3) [w, .v (.int c), .v (.lst (nI d)), .v (.int ((v0 % 6 : Nat) : Int)), x4, x5, x6, x7, x8, x9] [] = .nx [w, .v (.int c), .v (.lst (nI d)), .v (.int (36 + ((v0 % 9 : Nat) : Int))), x4, x5, x6, x7, x8, x9] [] := asg_v (op_v rfl (op_v i0 rfl (md0 v0 9 (by decide))) rfl)
    exact ⟨_, y3, y4, y5, y6, y7, y8, seq_rt (asg_v a1) (seq_rt c1 (seq_rt (if_t c2 c3) h))⟩
theorem law_loop {w : Sl} : ∀ (cs : List Int) (x1 x2 x3 x4 x5 x6 x7 x8 x9 : Sl), ∃ y1 y2 y3 y4 y5 y6 y7 y8 y9, forGo none (gNm 1) b_law_3 (cs.map D.int) [w, x1, x2, x3, x4, x5, x6, x7, x8, x9] [] = .nx [w, y1, y2, y3, y4, y5, y6, y7, y8, y9] []
  | [], _, _, _, _, _, _, _, _, _ => ⟨_, _, _, _, _, _, _, _, _, for_nil gd0⟩
  | c :: cs, x1, x2, x3, x4, x5, x6, x7, x8, x9 => by
    obtain ⟨y2, y3, y4, y5, y6, y7, y8, hb⟩ := law3_b (w := w) (c := c) (x2 := x2) (x3 := x3) (x4 := x4) (x5 := x5) (x6 := x6) (x7 := x7) (x8 := x8) (x9 := x9)
    obtain ⟨z1, z2, z3, z4, z5, z6, z7, z8, z9, h⟩ := law_loop (w := w) cs (.v (.int c)) y2 y3 y4 y5 y6 y7 y8 x9
    exact ⟨z1, z2, z3, z4, z5, z6, z7, z8, z9, by rw [List.map_cons, for_nx gd0 rfl hb, h]⟩
theorem law_true : ∀ ns : List Int, ns.length ≤ 63 → m_law [.kls (ns.map D.int)] = .ok (.bl true) := by
  intro ns hn
  suffices h : b_law [.v (.kls (ns.map D.int)), .no, .no, .no, .no, .no, .no, .no, .no, .no] [] = .rt (.bl true) [] by
    show (b_law [.v (.kls (ns.map D.int)), .no, .no, .no, .no, .no, .no, .no, .no, .no] []).fin = _
    rw [h]
    rfl
  have hcut : ∃ cs : List Int, Mi.cutD (ns.map D.int) none (some 20) = cs.map D.int ∧ cs.length ≤ 63 := by
    unfold Mi.cutD
    rw [← List.map_drop, ← List.map_take]
    exact ⟨_, rfl, by rw [List.length_take, List.length_drop]; omega⟩
  obtain ⟨cs, hc, hcl⟩ := hcut
  have hit : dIt (dOp (oAdd false) (dSl false (dVar 0) dNoPart (dPart (dC (.int 20)))) (dLst false (dCons (dC (.int 0)) dNil))) [.v (.kls (ns.map D.int)), .no, .no, .no, .no, .no, .no, .no, .no, .no] [] = .val ((cs ++ [0]).map D.int) none [] := by
    have q : dSl false (dVar 0) dNoPart (dPart (dC (.int 20))) [.v (.kls (ns.map D.int)), .no, .no, .no, .no, .no, .no, .no, .no, .no] [] = .val (.lst (cs.map D.int)) [] := by
      show ER.val (.lst (Mi.cutD (ns.map D.int) none (some 20))) [] = _
      rw [hc]
    have q1 : dLst false (dCons (dC (.int 0)) dNil) [.v (.kls (ns.map D.int)), .no, .no, .no, .no, .no, .no, .no, .no, .no] [] = .val (.lst [.int 0]) [] := by
      have z := qn 1 (by omega)
      unfold dLst
      show (if 1 ≤ sizeLine then mk false (.lst [.int 0]) [] else ER.stk) = _
      rw [if_pos z]
      rfl
    have z := qn ((cs.map D.int).length + [D.int 0].length) (by simp; omega)
    have q2 : dOp (oAdd false) (dSl false (dVar 0) dNoPart (dPart (dC (.int 20)))) (dLst false (dCons (dC (.int 0)) dNil)) [.v (.kls (ns.map D.int)), .no, .no, .no, .no, .no, .no, .no, .no, .no] [] = .val (.lst ((cs ++ [0]).map D.int)) [] := by
      refine op_v q q1 ?_
      unfold oAdd
      simp only [vw]
      rw [if_pos z, List.map_append]
      rfl
    unfold dIt
    rw [q2]
    rfl
  obtain ⟨y1, y2, y3, y4, y5, y6, y7, y8, y9, h⟩ := law_loop (w := .v (.kls (ns.map D.int))) (cs ++ [0]) .no .no .no .no .no .no .no .no .no
  unfold b_law
  refine seq_rt (for_of hit h) (ret_v ?_)
  have e1 : ∀ ε : Mi.Env, dCall false m_is_simple_name 1 (dCons (dC (.str "")) dNil) ε [] = .val (.bl false) [] := fun ε => call1 rfl rfl (by rw [simple_go "" (by decide)]; rfl)
  have e2 : ∀ ε : Mi.Env, dCall false m_is_full_name 1 (dCons (dC (.str "")) dNil) ε [] = .val (.bl false) [] := fun ε => call1 rfl rfl (by rw [full_go "" (by decide)]; rfl)
  unfold dAndV
  rw [op_v (e1 _) rfl (rfl : oIsB false [] (.bl false) (.bl false) = .val (.bl true) [])]
  simp only [ER.bind, truD, vw]
  exact op_v (e2 _) rfl rfl
end My

namespace My
open PySem PySem.Spec PyProof.Rows L2 R Mi
theorem dv_is_simple_name {P : Program} {w : World} {G : GG} {mg : Str → Option Value} {base : Heap} {f : Addr} {A : Around} {outer : List PySem.Env} {s : Shared} {H : Hp} {E : XK} (T : Top P w G mg base) (hr : Room 2 (A.deeper (envOfC "is_simple_name" (defScope s_is_simple_name) s.heap.objs.size f (.ref (G.ad "#code:is_simple_name"))))) :
    PSs (cxOf (L2.CX P w) P w G.K mg base N_is_simple_name "is_simple_name" (defScope s_is_simple_name) f (.ref (G.ad "#code:is_simple_name")) A outer s H E) (defBody s_is_simple_name) (tS ⟨G.K, w, G.ad⟩ none (fun cls d _ H => E cls d H) b_is_simple_name) :=
  (pd_scons (pd_ifS (ps_if (PW.pt (pd_or (pw_or (pd_tcmp s_eq (pt_cmpR (op_ap (u_eqA (r64 hr))) (pd_var (pv 0)) (pd_c pe_str kr_str) rfl)) (pd_or (pw_or (pd_tcmp s_gt (pt_cmpR (op_ap u_gt) (pd_cb s_len (pe_callB c_lenB rfl T.n_len bt_len (pd_cons (pd_var (pv 0)) pd_nil))) (pd_c (pe_cst T.c_LONGEST_NAME rfl) kr_int) rfl)) (pw_or1 (pd_tcmp s_in (pt_cmpR (op_ap (u_ninA (r65 hr))) (pd_op s_ix (pe_ix (u_ixA (r1 hr)) (pd_var (pv 0)) (pd_c pe_int kr_int) (fun _ _ => rfl))) (pd_c (pe_cst T.c_LETTERS rfl) kr_str) rfl)))))))) (pd_sone (pd_ret (ps_ret (pd_c pe_bl kr_bl)))) pd_snil))
    (pd_sone (pd_ret (ps_ret (pd_allG (k := 0) (own := [("char", 1)]) rfl T.tn_is_simple_name (hr.mono (by decide)) rfl T.n_all bt_all T.tB_is_simple_name rfl rfl rfl (by decide +kernel) sc_is_simple_name.nd (pd_it (pi_any (pd_var (pv 0)))) (blkOk_by (N := N_is_simple_name) (sc := defScope s_is_simple_name) (by decide +kernel)) (fun _ _ _ _ _ _ => pg_name (i := 1) sc_is_simple_name.nd rfl (Or.inl rfl)) (fun _ _ _ _ _ _ hr => (pd_orV (pe_orT (pd_op s_in (pe_cmpR (u_inA (r65 hr)) (pd_var (pv 1)) (pd_c (pe_cst T.c_LETTERS rfl) kr_str) rfl)) (pe_one (pd_op s_in (pe_cmpR (u_inA (r65 hr)) (pd_var (pv 1)) (pd_c (pe_cst T.c_DIGITS rfl) kr_str) rfl)))))))))))
theorem dv_is_full_name {P : Program} {w : World} {G : GG} {mg : Str → Option Value} {base : Heap} {f : Addr} {A : Around} {outer : List PySem.Env} {s : Shared} {H : Hp} {E : XK} (T : Top P w G mg base) (F_is_simple_name : FnE P w G.K mg base (L2.CX P w) "is_simple_name" 3 ["text"] (sp_is_simple_name G w)) (hr : Room 5 (A.deeper (envOfC "is_full_name" (defScope s_is_full_name) s.heap.objs.size f (.ref (G.ad "#code:is_full_name"))))) :
    PSs (cxOf (L2.CX P w) P w G.K mg base N_is_full_name "is_full_name" (defScope s_is_full_name) f (.ref (G.ad "#code:is_full_name")) A outer s H E) (defBody s_is_full_name) (tS ⟨G.K, w, G.ad⟩ none (fun cls d _ H => E cls d H) b_is_full_name) :=
  (pd_scons (pd_ifS (ps_if (pd_tcmp s_gt (pt_cmpR (op_ap u_gt) (pd_cb s_len (pe_callB c_lenB rfl T.n_len bt_len (pd_cons (pd_var (pv 0)) pd_nil))) (pd_c (pe_cst T.c_LONGEST_NAME rfl) kr_int) rfl)) (pd_sone (pd_ret (ps_ret (pd_c pe_bl kr_bl)))) pd_snil))
    (pd_sone (pd_ret (ps_ret (pd_allG (k := 3) (own := [("part", 1)]) rfl T.tn_is_full_name (hr.mono (by decide)) rfl T.n_all bt_all T.tB_is_full_name rfl rfl rfl (by decide +kernel) sc_is_full_name.nd (pd_it (pi_any (pd_ms s_split (pe_ssplit (pd_var (pv 0)) (pd_cons (pd_c pe_str kr_str) pd_nil))))) (blkOk_by (N := N_is_full_name) (sc := defScope s_is_full_name) (by decide +kernel)) (fun _ _ _ _ _ _ => pg_name (i := 1) sc_is_full_name.nd rfl (Or.inl rfl)) (fun _ _ _ _ _ _ hr => (pd_call (pe_fnW F_is_simple_name (hr.mono (by decide)) rfl takes0 (pd_cons (pd_var (pv 1)) pd_nil)))))))))
theorem dv__law_draw {P : Program} {w : World} {G : GG} {mg : Str → Option Value} {base : Heap} {f : Addr} {cdv : Value} {A : Around} {outer : List PySem.Env} {s : Shared} {H : Hp} {E : XK} (T : Top P w G mg base) (hr : Room 0 (A.deeper (envOfC "_law_draw" (defScope s__law_draw) s.heap.objs.size f cdv))) :
    PSs (cxOf (L2.CX P w) P w G.K mg base N__law_draw "_law_draw" (defScope s__law_draw) f cdv A outer s H E) (defBody s__law_draw) (tS ⟨G.K, w, G.ad⟩ none (fun cls d _ H => E cls d H) b__law_draw) :=
  (pd_scons (pd_set (ps_set (i := 3) sc__law_draw.nd rfl (Or.inl rfl) (pd_lst (pe_lst pd_nil))))
    (pd_scons (pd_ifS (ps_if (pd_tcmp s_ge (pt_cmpR (op_ap u_ge) (pd_var (pv 0)) (pd_op s_pow (pe_op u_pow (pd_c pe_int kr_int) (pd_c pe_int kr_int))) rfl)) (pd_scons (pd_for (ps_for (passes_of rfl) rfl (pd_rng1 (pi_range1 rfl T.n_range (pd_cons (pd_var (pv 1)) pd_nil))) (pd_gnm (pg_name (i := 4) sc__law_draw.nd rfl (Or.inl rfl))) (pd_scons (pd_expr (ps_expr (pd_ml s_app (pe_append (pd_var (pv 3)) (pd_cons (pd_op s_mod (pe_op u_mod (pd_cb s_int (pe_callTy c_int rfl T.n_int bt_int (pd_cons (pd_var (pv 0)) pd_nil))) (pd_var (pv 2)))) pd_nil)))))
    (pd_sone (pd_set (ps_set (i := 0) sc__law_draw.nd rfl (Or.inl rfl) (pd_op s_fdiv (pe_op u_fdiv (pd_var (pv 0)) (pd_var (pv 2))))))))))
    (pd_sone (pd_ret (ps_ret (pd_var (pv 3)))))) pd_snil))
    (pd_scons (pd_set (ps_set (i := 5) sc__law_draw.nd rfl (Or.inl rfl) (pd_op s_mod (pe_op u_mod (pd_cb s_int (pe_callTy c_int rfl T.n_int bt_int (pd_cons (pd_var (pv 0)) pd_nil))) (pd_c pe_int kr_int)))))
    (pd_scons (pd_for (ps_for (passes_of rfl) rfl (pd_rng1 (pi_range1 rfl T.n_range (pd_cons (pd_var (pv 1)) pd_nil))) (pd_gnm (pg_name (i := 4) sc__law_draw.nd rfl (Or.inl rfl))) (pd_scons (pd_set (ps_set (i := 5) sc__law_draw.nd rfl (Or.inl rfl) (pd_op s_mod (pe_op u_mod (pd_cb s_int (pe_callTy c_int rfl T.n_int bt_int (pd_cons (pd_op s_add (pe_op u_addA (pd_op s_add (pe_op u_addA (pd_op s_mul (pe_op u_mul (pd_var (pv 5)) (pd_c pe_int kr_int))) (pd_c pe_int kr_int))) (pd_var (pv 4)))) pd_nil))) (pd_c pe_int kr_int)))))
    (pd_scons (pd_set (ps_set (i := 6) sc__law_draw.nd rfl (Or.inl rfl) (pd_op s_mod (pe_op u_mod (pd_cb s_int (pe_callTy c_int rfl T.n_int bt_int (pd_cons (pd_op s_add (pe_op u_addA (pd_op s_mul (pe_op u_mul (pd_var (pv 5)) (pd_c pe_int kr_int))) (pd_op s_mul (pe_op u_mul (pd_c pe_int kr_int) (pd_var (pv 4)))))) pd_nil))) (pd_c pe_int kr_int)))))
    (pd_sone (pd_expr (ps_expr (pd_ml s_app (pe_append (pd_var (pv 3)) (pd_cons (pd_op s_mod (pe_op u_mod (pd_cb s_int (pe_callTy c_int rfl T.n_int bt_int (pd_cons (pd_op s_fdiv (pe_op u_fdiv (pd_var (pv 6)) (pd_c pe_int kr_int))) pd_nil))) (pd_var (pv 2)))) pd_nil))))))))))
    (pd_sone (pd_ret (ps_ret (pd_var (pv 3)))))))))
theorem dv__law_simple {P : Program} {w : World} {G : GG} {mg : Str → Option Value} {base : Heap} {f : Addr} {cdv : Value} {A : Around} {outer : List PySem.Env} {s : Shared} {H : Hp} {E : XK} (T : Top P w G mg base) (hr : Room 0 (A.deeper (envOfC "_law_simple" (defScope s__law_simple) s.heap.objs.size f cdv))) :
    PSs (cxOf (L2.CX P w) P w G.K mg base N__law_simple "_law_simple" (defScope s__law_simple) f cdv A outer s H E) (defBody s__law_simple) (tS ⟨G.K, w, G.ad⟩ none (fun cls d _ H => E cls d H) b__law_simple) :=
  (pd_scons (pd_set (ps_set (i := 1) sc__law_simple.nd rfl (Or.inl rfl) (pd_c pe_str kr_str)))
    (pd_scons (pd_ifS (ps_if (PW.pt (pd_or (pw_or (pd_tcmp s_lt (pt_cmpR (op_ap u_lt) (pd_cb s_len (pe_callB c_lenB rfl T.n_len bt_len (pd_cons (pd_var (pv 0)) pd_nil))) (pd_c pe_int kr_int) rfl)) (pd_or (pw_or (pd_tcmp s_gt (pt_cmpR (op_ap u_gt) (pd_cb s_len (pe_callB c_lenB rfl T.n_len bt_len (pd_cons (pd_var (pv 0)) pd_nil))) (pd_c pe_int kr_int) rfl)) (pw_or1 (pd_tcmp s_in (pt_cmpR (op_ap (u_ninA (r65 hr))) (pd_op s_ix (pe_ix (u_ixA (r1 hr)) (pd_var (pv 0)) (pd_c pe_int kr_int) (fun _ _ => rfl))) (pd_var (pv 1)) rfl)))))))) (pd_sone (pd_ret (ps_ret (pd_c pe_bl kr_bl)))) pd_snil))
    (pd_scons (pd_for (ps_for (passes_of rfl) rfl (pd_it (pi_any (pd_var (pv 0)))) (pd_gnm (pg_name (i := 2) sc__law_simple.nd rfl (Or.inl rfl))) (pd_sone (pd_ifS (ps_if (PW.pt (pd_and (pw_and (pd_tcmp s_in (pt_cmpR (op_ap (u_ninA (r65 hr))) (pd_var (pv 2)) (pd_var (pv 1)) rfl)) (pw_and1 (pd_tcmp s_in (pt_cmpR (op_ap (u_ninA (r65 hr))) (pd_var (pv 2)) (pd_c pe_str kr_str) rfl)))))) (pd_sone (pd_ret (ps_ret (pd_c pe_bl kr_bl)))) pd_snil)))))
    (pd_sone (pd_ret (ps_ret (pd_c pe_bl kr_bl)))))))
theorem dv__law_full {P : Program} {w : World} {G : GG} {mg : Str → Option Value} {base : Heap} {f : Addr} {cdv : Value} {A : Around} {outer : List PySem.Env} {s : Shared} {H : Hp} {E : XK} (T : Top P w G mg base) (F__law_simple : FnE P w G.K mg base (L2.CX P w) "_law_simple" 1 ["text"] (sp__law_simple G w)) (hr : Room 1 (A.deeper (envOfC "_law_full" (defScope s__law_full) s.heap.objs.size f cdv))) :
    PSs (cxOf (L2.CX P w) P w G.K mg base N__law_full "_law_full" (defScope s__law_full) f cdv A outer s H E) (defBody s__law_full) (tS ⟨G.K, w, G.ad⟩ none (fun cls d _ H => E cls d H) b__law_full) :=
  (pd_scons (pd_ifS (ps_if (pd_tcmp s_gt (pt_cmpR (op_ap u_gt) (pd_cb s_len (pe_callB c_lenB rfl T.n_len bt_len (pd_cons (pd_var (pv 0)) pd_nil))) (pd_c pe_int kr_int) rfl)) (pd_sone (pd_ret (ps_ret (pd_c pe_bl kr_bl)))) pd_snil))
    (pd_scons (pd_for (ps_for (passes_of rfl) rfl (pd_it (pi_any (pd_ms s_split (pe_ssplit (pd_var (pv 0)) (pd_cons (pd_c pe_str kr_str) pd_nil))))) (pd_gnm (pg_name (i := 1) sc__law_full.nd rfl (Or.inl rfl))) (pd_sone (pd_ifS (ps_if (pd_not (pt_not (pd_tr (pt_tr (pd_call (pe_fnW F__law_simple (hr.mono (by decide)) rfl (takes_of rfl rfl rfl rfl) (pd_cons (pd_var (pv 1)) pd_nil))))))) (pd_sone (pd_ret (ps_ret (pd_c pe_bl kr_bl)))) pd_snil)))))
    (pd_sone (pd_ret (ps_ret (pd_c pe_bl kr_bl))))))
theorem dv_law {P : Program} {w : World} {G : GG} {mg : Str → Option Value} {base : Heap} {f : Addr} {cdv : Value} {A : Around} {outer : List PySem.Env} {s : Shared} {H : Hp} {E : XK} (T : Top P w G mg base) (F__law_draw : FnE P w G.K mg base (L2.CX P w) "_law_draw" 1 ["cell", "many", "bound"] (sp__law_draw G w)) (F__law_full : FnE P w G.K mg base (L2.CX P w) "_law_full" 2 ["text"] (sp__law_full G w)) (F__law_simple : FnE P w G.K mg base (L2.CX P w) "_law_simple" 1 ["text"] (sp__law_simple G w)) (F_is_full_name : FnE P w G.K mg base (L2.CX P w) "is_full_name" 6 ["text"] (sp_is_full_name G w)) (F_is_simple_name : FnE P w G.K mg base (L2.CX P w) "is_simple_name" 3 ["text"] (sp_is_simple_name G w)) (hr : Room 6 (A.deeper (envOfC "law" (defScope s_law) s.heap.objs.size f cdv))) :
    PSs (cxOf CX0 P w G.K mg base N_law "law" (defScope s_law) f cdv A outer s H E).nox (defBody s_law) (tAp G.K (tS ⟨G.K, w, G.ad⟩ none W0 b_law)) :=
  (pssAp (pd_scons (pd_for (ps_for PassesOwn.never rfl (pd_it (pi_any (pd_op s_add (pe_op u_addA (pd_sl (pd_var (pv 0)) pd_po0 (pd_po1 (pd_c pe_int kr_int))) (pd_lst (pe_lst (pd_cons (pd_c pe_int kr_int) pd_nil))))))) (pd_gnm (pg_name (i := 1) sc_law.nd rfl (Or.inl rfl))) (pd_scons (pd_set (ps_set (i := 2) sc_law.nd rfl (Or.inl rfl) (pd_call (pe_fnW F__law_draw (hr.mono (by decide)) rfl takes0 (pd_cons (pd_var (pv 1)) (pd_cons (pd_c pe_int kr_int) (pd_cons (pd_op s_shl (pe_op u_shl (pd_c pe_int kr_int) (pd_c pe_int kr_int))) pd_nil)))))))
    (pd_scons (pd_set (ps_set (i := 3) sc_law.nd rfl (Or.inl rfl) (pd_op s_mod (pe_op u_mod (pd_op s_ix (pe_ix (u_ixA (r1 hr)) (pd_var (pv 2)) (pd_c pe_int kr_int) (fun _ _ => rfl))) (pd_c pe_int kr_int)))))
    (pd_scons (pd_ifS (ps_if (pd_tcmp s_eq (pt_cmpR (op_ap (u_eqA (r64 hr))) (pd_op s_mod (pe_op u_mod (pd_op s_ix (pe_ix (u_ixA (r1 hr)) (pd_var (pv 2)) (pd_c pe_int kr_int) (fun _ _ => rfl))) (pd_c pe_int kr_int))) (pd_c pe_int kr_int) rfl)) (pd_sone (pd_set (ps_set (i := 3) sc_law.nd rfl (Or.inl rfl) (pd_op s_add (pe_op u_addA (pd_c pe_int kr_int) (pd_op s_mod (pe_op u_mod (pd_op s_ix (pe_ix (u_ixA (r1 hr)) (pd_var (pv 2)) (pd_c pe_int kr_int) (fun _ _ => rfl))) (pd_c pe_int kr_int)))))))) pd_snil))
    (pd_scons (pd_set (ps_set (i := 4) sc_law.nd rfl (Or.inr rfl) (pd_op s_ix (pe_ix (u_ixA (r1 hr)) (pd_lst (pe_lst (pd_cons (pd_c pe_str kr_str) (pd_cons (pd_c pe_str kr_str) (pd_cons (pd_c pe_str kr_str) (pd_cons (pd_c pe_str kr_str) (pd_cons (pd_c pe_str kr_str) pd_nil))))))) (pd_op s_mod (pe_op u_mod (pd_op s_ix (pe_ix (u_ixA (r1 hr)) (pd_var (pv 2)) (pd_c pe_int kr_int) (fun _ _ => rfl))) (pd_c pe_int kr_int))) (fun _ _ => rfl)))))
    (pd_scons (pd_set (ps_set (i := 5) sc_law.nd rfl (Or.inl rfl) (pd_ms s_join (pe_sjoin (pd_c pe_str kr_str) (pd_cons (pd_lcx (own := [("number", 9)]) rfl rfl sc_law.nd (pd_it (pi_any (pd_sl (pd_var (pv 2)) (pd_po1 (pd_c pe_int kr_int)) (pd_po1 (pd_op s_add (pe_op u_addA (pd_c pe_int kr_int) (pd_var (pv 3)))))))) (blkOk_by (N := N_law) (sc := defScope s_law) (by decide +kernel)) (fun _ _ _ _ _ => pg_name (i := 9) sc_law.nd rfl (Or.inl rfl)) (fun _ _ _ _ _ => pd_yes) (fun _ _ _ _ _ => (pd_op s_ix (pe_ix (u_ixA (r1 hr)) (pd_var (pv 4)) (pd_op s_mod (pe_op u_mod (pd_var (pv 9)) (pd_cb s_len (pe_callB c_lenB rfl T.n_len bt_len (pd_cons (pd_var (pv 4)) pd_nil))))) (fun _ _ => rfl))))) pd_nil)))))
    (pd_scons (pd_set (ps_set (i := 6) sc_law.nd rfl (Or.inl rfl) (pd_lst (pe_lst (pd_cons (pd_c pe_str kr_str) (pd_cons (pd_c pe_str kr_str) (pd_cons (pd_c pe_str kr_str) (pd_cons (pd_c pe_str kr_str) (pd_cons (pd_c pe_str kr_str) (pd_cons (pd_c pe_str kr_str) (pd_cons (pd_c pe_str kr_str) (pd_cons (pd_c pe_str kr_str) (pd_cons (pd_c pe_str kr_str) (pd_cons (pd_c pe_str kr_str) (pd_cons (pd_c pe_str kr_str) pd_nil)))))))))))))))
    (pd_scons (pd_ifS (ps_if (pd_tcmp s_eq (pt_cmpR (op_ap (u_eqA (r64 hr))) (pd_op s_mod (pe_op u_mod (pd_op s_ix (pe_ix (u_ixA (r1 hr)) (pd_var (pv 2)) (pd_c pe_int kr_int) (fun _ _ => rfl))) (pd_c pe_int kr_int))) (pd_c pe_int kr_int) rfl)) (pd_sone (pd_set (ps_set (i := 5) sc_law.nd rfl (Or.inl rfl) (pd_op s_ix (pe_ix (u_ixA (r1 hr)) (pd_var (pv 6)) (pd_op s_mod (pe_op u_mod (pd_op s_ix (pe_ix (u_ixA (r1 hr)) (pd_var (pv 2)) (pd_c pe_int kr_int) (fun _ _ => rfl))) (pd_cb s_len (pe_callB c_lenB rfl T.n_len bt_len (pd_cons (pd_var (pv 6)) pd_nil))))) (fun _ _ => rfl)))))) pd_snil))
    (pd_scons (pd_set (ps_set (i := 7) sc_law.nd rfl (Or.inl rfl) (pd_call (pe_fnW F_is_simple_name (hr.mono (by decide)) rfl takes0 (pd_cons (pd_var (pv 5)) pd_nil)))))
    (pd_scons (pd_set (ps_set (i := 8) sc_law.nd rfl (Or.inl rfl) (pd_call (pe_fnW F_is_full_name (hr.mono (by decide)) rfl takes0 (pd_cons (pd_var (pv 5)) pd_nil)))))
    (pd_scons (pd_ifS (ps_if (PW.pt (pd_or (pw_or (pd_not (pt_not (pd_tr (pt_tr (pd_cb s_isi (pe_callB call_isi rfl T.n_isinstance bt_isinstance (pd_cons (pd_var (pv 7)) (pd_cons (pd_c (pe_bltn (v := .ty "bool") rfl T.n_bool bt_bool rfl) kr_ty) pd_nil)))))))) (pw_or1 (pd_not (pt_not (pd_tr (pt_tr (pd_cb s_isi (pe_callB call_isi rfl T.n_isinstance bt_isinstance (pd_cons (pd_var (pv 8)) (pd_cons (pd_c (pe_bltn (v := .ty "bool") rfl T.n_bool bt_bool rfl) kr_ty) pd_nil)))))))))))) (pd_sone (pd_ret (ps_ret (pd_c pe_bl kr_bl)))) pd_snil))
    (pd_sone (pd_ifS (ps_if (PW.pt (pd_or (pw_or (pd_tcmp s_ne (pt_cmpR (op_ap (u_neA (r64 hr))) (pd_var (pv 7)) (pd_call (pe_fnW F__law_simple (hr.mono (by decide)) rfl takes0 (pd_cons (pd_var (pv 5)) pd_nil))) rfl)) (pw_or1 (pd_tcmp s_ne (pt_cmpR (op_ap (u_neA (r64 hr))) (pd_var (pv 8)) (pd_call (pe_fnW F__law_full (hr.mono (by decide)) rfl takes0 (pd_cons (pd_var (pv 5)) pd_nil))) rfl)))))) (pd_sone (pd_ret (ps_ret (pd_c pe_bl kr_bl)))) pd_snil)))))))))))))))
    (pd_sone (pd_ret (ps_ret (pd_andV (pe_andT (pd_op s_isB (pe_cmpR u_isBX (pd_call (pe_fnW F_is_simple_name (hr.mono (by decide)) rfl takes0 (pd_cons (pd_c pe_str kr_str) pd_nil))) (pd_c pe_bl kr_bl) rfl)) (pe_one (pd_op s_isB (pe_cmpR u_isBX (pd_call (pe_fnW F_is_full_name (hr.mono (by decide)) rfl takes0 (pd_cons (pd_c pe_str kr_str) pd_nil))) (pd_c pe_bl kr_bl) rfl))))))))))
end My

namespace My
open PySem PySem.Spec PyProof.Rows L2 R Mi
theorem ok_is_simple_name {P : Program} {w : World} {G : GG} {mg : Str → Option Value} {base : Heap} {f : Addr} {fd : FuncData} (T : Top P w G mg base) (F : FunC G.K "is_simple_name" "is_simple_name" s_is_simple_name f fd (.ref (G.ad "#code:is_simple_name"))) : FnOk P w G.K mg base (L2.CX P w) 3 f fd ["text"] (sp_is_simple_name G w) :=
  F.okX sc_is_simple_name spF_len fun A outer s H vs Q E hr h => ⟨_, dv_is_simple_name T hr, run_ok (k := ⟨G.K, w, G.ad⟩) (N := N_is_simple_name) (b := b_is_simple_name) (E := E) h⟩
theorem ok_is_full_name {P : Program} {w : World} {G : GG} {mg : Str → Option Value} {base : Heap} {f : Addr} {fd : FuncData} (T : Top P w G mg base) (F_is_simple_name : FnE P w G.K mg base (L2.CX P w) "is_simple_name" 3 ["text"] (sp_is_simple_name G w)) (F : FunC G.K "is_full_name" "is_full_name" s_is_full_name f fd (.ref (G.ad "#code:is_full_name"))) : FnOk P w G.K mg base (L2.CX P w) 6 f fd ["text"] (sp_is_full_name G w) :=
  F.okX sc_is_full_name spF_len fun A outer s H vs Q E hr h => ⟨_, dv_is_full_name T F_is_simple_name hr, run_ok (k := ⟨G.K, w, G.ad⟩) (N := N_is_full_name) (b := b_is_full_name) (E := E) h⟩
theorem ok__law_draw {P : Program} {w : World} {G : GG} {mg : Str → Option Value} {base : Heap} {f : Addr} {fd : FuncData} (T : Top P w G mg base) (F : Fun G.K "_law_draw" "_law_draw" s__law_draw f fd) : FnOk P w G.K mg base (L2.CX P w) 1 f fd ["cell", "many", "bound"] (sp__law_draw G w) :=
  F.okX sc__law_draw spF_len fun cdv A outer s H vs Q E hr h => ⟨_, dv__law_draw T hr, run_ok (k := ⟨G.K, w, G.ad⟩) (N := N__law_draw) (b := b__law_draw) (E := E) h⟩
theorem ok__law_simple {P : Program} {w : World} {G : GG} {mg : Str → Option Value} {base : Heap} {f : Addr} {fd : FuncData} (T : Top P w G mg base) (F : Fun G.K "_law_simple" "_law_simple" s__law_simple f fd) : FnOk P w G.K mg base (L2.CX P w) 1 f fd ["text"] (sp__law_simple G w) :=
  F.okX sc__law_simple spF_len fun cdv A outer s H vs Q E hr h => ⟨_, dv__law_simple T hr, run_ok (k := ⟨G.K, w, G.ad⟩) (N := N__law_simple) (b := b__law_simple) (E := E) h⟩
theorem ok__law_full {P : Program} {w : World} {G : GG} {mg : Str → Option Value} {base : Heap} {f : Addr} {fd : FuncData} (T : Top P w G mg base) (F__law_simple : FnE P w G.K mg base (L2.CX P w) "_law_simple" 1 ["text"] (sp__law_simple G w)) (F : Fun G.K "_law_full" "_law_full" s__law_full f fd) : FnOk P w G.K mg base (L2.CX P w) 2 f fd ["text"] (sp__law_full G w) :=
  F.okX sc__law_full spF_len fun cdv A outer s H vs Q E hr h => ⟨_, dv__law_full T F__law_simple hr, run_ok (k := ⟨G.K, w, G.ad⟩) (N := N__law_full) (b := b__law_full) (E := E) h⟩
theorem ok_law {P : Program} {w : World} {G : GG} {mg : Str → Option Value} {base : Heap} {f : Addr} {fd : FuncData} (T : Top P w G mg base) (F__law_draw : FnE P w G.K mg base (L2.CX P w) "_law_draw" 1 ["cell", "many", "bound"] (sp__law_draw G w)) (F__law_full : FnE P w G.K mg base (L2.CX P w) "_law_full" 2 ["text"] (sp__law_full G w)) (F__law_simple : FnE P w G.K mg base (L2.CX P w) "_law_simple" 1 ["text"] (sp__law_simple G w)) (F_is_full_name : FnE P w G.K mg base (L2.CX P w) "is_full_name" 6 ["text"] (sp_is_full_name G w)) (F_is_simple_name : FnE P w G.K mg base (L2.CX P w) "is_simple_name" 3 ["text"] (sp_is_simple_name G w)) (F : Fun G.K "law" "law" s_law f fd) : FnOk P w G.K mg base CX0 7 f fd ["script"] (spLT ⟨G.K, w, G.ad⟩) :=
  F.ok sc_law spLT_len fun cdv A outer s H vs Q E hr h => ⟨_, dv_law T F__law_draw F__law_full F__law_simple F_is_full_name F_is_simple_name hr, law_ok (k := ⟨G.K, w, G.ad⟩) (N := N_law) law_true h.2 h.1⟩
theorem all_mk {P : Program} {w : World} {K : PySem.W.Frag} {h : Heap} {mg : Str → Option Value} {fa f1 f2 f3 f4 f5 f6 : Addr} (X : K.In h) (G : h.Ns mainGlobals mg) (hfa : mg "law" = some (.ref fa)) (own : OwnTabs K mg ["is_simple_name", "is_full_name"] h)
    {c_gen_is_simple_name P_gen_is_simple_name : Addr} {ce_is_simple_name : Value} {cdd_is_simple_name : Option Addr} {cvs_is_simple_name : Array Value} {csl_is_simple_name : Array (Option Value)} (lx_c_is_simple_name : K.lookup c_gen_is_simple_name = some ⟨ce_is_simple_name, cdd_is_simple_name, .fields cvs_is_simple_name, csl_is_simple_name⟩) (lx_h_is_simple_name : cvs_is_simple_name[11]? = some (.ref P_gen_is_simple_name)) (lx_d_is_simple_name : PySem.W.codeHdIn K c_gen_is_simple_name P_gen_is_simple_name = true) (lx_n_is_simple_name : K.lookup P_gen_is_simple_name = none)
    {c_gen_is_full_name P_gen_is_full_name : Addr} {ce_is_full_name : Value} {cdd_is_full_name : Option Addr} {cvs_is_full_name : Array Value} {csl_is_full_name : Array (Option Value)} (lx_c_is_full_name : K.lookup c_gen_is_full_name = some ⟨ce_is_full_name, cdd_is_full_name, .fields cvs_is_full_name, csl_is_full_name⟩) (lx_h_is_full_name : cvs_is_full_name[11]? = some (.ref P_gen_is_full_name)) (lx_d_is_full_name : PySem.W.codeHdIn K c_gen_is_full_name P_gen_is_full_name = true) (lx_n_is_full_name : K.lookup P_gen_is_full_name = none)
    {od1 an1 : Option Addr} {sl1 : Array (Option Value)} {oc1 kV1 dc1 pm1 ct1 : Value} (a1 : PySem.W.nsIn K mainGlobals "is_simple_name" = some (some (.ref f1))) (l1 : K.lookup f1 = some ⟨oc1, od1, .func (PySem.W.fnOf "is_simple_name" "is_simple_name" (defArgs s_is_simple_name) (defBody s_is_simple_name) (defScope s_is_simple_name) .none kV1 dc1 pm1 an1 (.ref c_gen_is_simple_name) ct1), sl1⟩) (c1 : PySem.W.codeIn K (.ref c_gen_is_simple_name) "is_simple_name" = true) (k1 : PySem.W.keepIn K (.ref f1) = true)
    {od2 an2 : Option Addr} {sl2 : Array (Option Value)} {oc2 kV2 dc2 pm2 ct2 : Value} (a2 : PySem.W.nsIn K mainGlobals "is_full_name" = some (some (.ref f2))) (l2 : K.lookup f2 = some ⟨oc2, od2, .func (PySem.W.fnOf "is_full_name" "is_full_name" (defArgs s_is_full_name) (defBody s_is_full_name) (defScope s_is_full_name) .none kV2 dc2 pm2 an2 (.ref c_gen_is_full_name) ct2), sl2⟩) (c2 : PySem.W.codeIn K (.ref c_gen_is_full_name) "is_full_name" = true) (k2 : PySem.W.keepIn K (.ref f2) = true)
    {od3 an3 : Option Addr} {sl3 : Array (Option Value)} {oc3 kV3 dc3 pm3 cd3 ct3 : Value} (a3 : PySem.W.nsIn K mainGlobals "_law_draw" = some (some (.ref f3))) (l3 : K.lookup f3 = some ⟨oc3, od3, .func (PySem.W.fnOf "_law_draw" "_law_draw" (defArgs s__law_draw) (defBody s__law_draw) (defScope s__law_draw) .none kV3 dc3 pm3 an3 cd3 ct3), sl3⟩) (c3 : PySem.W.codeIn K cd3 "_law_draw" = true) (k3 : PySem.W.keepIn K (.ref f3) = true)
    {od4 an4 : Option Addr} {sl4 : Array (Option Value)} {oc4 kV4 dc4 pm4 cd4 ct4 : Value} (a4 : PySem.W.nsIn K mainGlobals "_law_simple" = some (some (.ref f4))) (l4 : K.lookup f4 = some ⟨oc4, od4, .func (PySem.W.fnOf "_law_simple" "_law_simple" (defArgs s__law_simple) (defBody s__law_simple) (defScope s__law_simple) .none kV4 dc4 pm4 an4 cd4 ct4), sl4⟩) (c4 : PySem.W.codeIn K cd4 "_law_simple" = true) (k4 : PySem.W.keepIn K (.ref f4) = true)
    {od5 an5 : Option Addr} {sl5 : Array (Option Value)} {oc5 kV5 dc5 pm5 cd5 ct5 : Value} (a5 : PySem.W.nsIn K mainGlobals "_law_full" = some (some (.ref f5))) (l5 : K.lookup f5 = some ⟨oc5, od5, .func (PySem.W.fnOf "_law_full" "_law_full" (defArgs s__law_full) (defBody s__law_full) (defScope s__law_full) .none kV5 dc5 pm5 an5 cd5 ct5), sl5⟩) (c5 : PySem.W.codeIn K cd5 "_law_full" = true) (k5 : PySem.W.keepIn K (.ref f5) = true)
    {od6 an6 : Option Addr} {sl6 : Array (Option Value)} {oc6 kV6 dc6 pm6 cd6 ct6 : Value} (a6 : PySem.W.nsIn K mainGlobals "law" = some (some (.ref f6))) (l6 : K.lookup f6 = some ⟨oc6, od6, .func (PySem.W.fnOf "law" "law" (defArgs s_law) (defBody s_law) (defScope s_law) .none kV6 dc6 pm6 an6 cd6 ct6), sl6⟩) (c6 : PySem.W.codeIn K cd6 "law" = true) (k6 : PySem.W.keepIn K (.ref f6) = true)
    (b_all : PySem.W.nsIn K mainGlobals "all" = some none)
    (b_bool : PySem.W.nsIn K mainGlobals "bool" = some none)
    (b_int : PySem.W.nsIn K mainGlobals "int" = some none)
    (b_isinstance : PySem.W.nsIn K mainGlobals "isinstance" = some none)
    (b_len : PySem.W.nsIn K mainGlobals "len" = some none)
    (b_range : PySem.W.nsIn K mainGlobals "range" = some none)
    {k_DIGITS : Tok} (g_DIGITS : PySem.W.nsIn K mainGlobals "DIGITS" = some (some (.str "0123456789" k_DIGITS)))
    {k_LETTERS : Tok} (g_LETTERS : PySem.W.nsIn K mainGlobals "LETTERS" = some (some (.str "ABCDEFGHIJKLMNOPQRSTUVWXYZabcdefghijklmnopqrstuvwxyz_" k_LETTERS)))
    {k_LONGEST_NAME : Tok} (g_LONGEST_NAME : PySem.W.nsIn K mainGlobals "LONGEST_NAME" = some (some (.int 40 k_LONGEST_NAME))) :
    ∃ (fd : FuncData) (cs : List (Addr × Addr)) (sp : Sp), (∀ p ∈ cs, h.get? p.2 = some { cls := .none, data := .fields #[] }) ∧ (∀ p ∈ cs, K.lookup p.2 = none) ∧ (∀ p ∈ cs, PySem.W.CodeHd h p.1 p.2) ∧ (∀ (s : Shared) (v : Value), BindsTo s fd ⟨[v], []⟩ [("script", v)]) ∧
      (∀ (H : Hp) (a : Addr) (ns : List Int), ns.length ≤ 63 → (∀ z ∈ ns, Builtin.Int.intBits z ≤ 1048576) → (∀ p ∈ cs, H p.2 = some (.tbl #[])) → SqL K H a (ns.map V.int) → sp [.ref a] H (fun v _ => v = .bl true) fun _ _ _ => False) ∧
      ∀ base : Heap, K.In base → base.Ns mainGlobals mg → (∀ p ∈ cs, LamX.TabB base mg p.1 p.2) → FnOk P w K mg base CX0 7 fa fd ["script"] sp := by
  obtain ⟨ad, hA0, hA1, hA2, hA3, hNT⟩ : ∃ ad : String → Addr, ad "#code:is_simple_name" = c_gen_is_simple_name ∧ ad "#tab0" = P_gen_is_simple_name ∧ ad "#code:is_full_name" = c_gen_is_full_name ∧ ad "#tab1" = P_gen_is_full_name ∧ ad "#tabs" = 2 := ⟨fun s => if s = "#code:is_simple_name" then c_gen_is_simple_name else if s = "#tab0" then P_gen_is_simple_name else if s = "#code:is_full_name" then c_gen_is_full_name else if s = "#tab1" then P_gen_is_full_name else if s = "#tabs" then 2 else 0, by simp, by simp, by simp, by simp, by simp⟩
  subst hA0 hA1 hA2 hA3
  have e := hfa.symm.trans (PySem.W.mg_of X G a6)
  cases e
  have F1 := funC_mk (st := s_is_simple_name) l1 c1 k1
  have F2 := funC_mk (st := s_is_full_name) l2 c2 k2
  have F3 := fun_mk (st := s__law_draw) l3 c3 k3
  have F4 := fun_mk (st := s__law_simple) l4 c4 k4
  have F5 := fun_mk (st := s__law_full) l5 c5 k5
  have F6 := fun_mk (st := s_law) l6 c6 k6
  have hT : ∀ p ∈ ([((ad "#code:is_simple_name" : Addr), (ad "#tab0" : Addr)), ((ad "#code:is_full_name" : Addr), (ad "#tab1" : Addr))] : List (Addr × Addr)), h.get? p.2 = some { cls := .none, data := .fields #[] } := fun p hp => by
    simp only [List.mem_cons, List.not_mem_nil, or_false] at hp
    rcases hp with rfl | rfl
    · exact own "is_simple_name" (by simp) f1 _ _ _ _ _ _ _ _ (PySem.W.mg_of X G a1) l1 rfl rfl lx_c_is_simple_name lx_h_is_simple_name
    · exact own "is_full_name" (by simp) f2 _ _ _ _ _ _ _ _ (PySem.W.mg_of X G a2) l2 rfl rfl lx_c_is_full_name lx_h_is_full_name
  have nT : ∀ p ∈ ([((ad "#code:is_simple_name" : Addr), (ad "#tab0" : Addr)), ((ad "#code:is_full_name" : Addr), (ad "#tab1" : Addr))] : List (Addr × Addr)), K.lookup p.2 = none := fun p hp => by
    simp only [List.mem_cons, List.not_mem_nil, or_false] at hp
    rcases hp with rfl | rfl
    · exact lx_n_is_simple_name
    · exact lx_n_is_full_name
  have hC : ∀ p ∈ ([((ad "#code:is_simple_name" : Addr), (ad "#tab0" : Addr)), ((ad "#code:is_full_name" : Addr), (ad "#tab1" : Addr))] : List (Addr × Addr)), PySem.W.CodeHd h p.1 p.2 := fun p hp => by
    simp only [List.mem_cons, List.not_mem_nil, or_false] at hp
    rcases hp with rfl | rfl
    · exact PySem.W.codeHd_of_K X lx_d_is_simple_name
    · exact PySem.W.codeHd_of_K X lx_d_is_full_name
  have hTab : ∀ H : Hp, (∀ p ∈ ([((ad "#code:is_simple_name" : Addr), (ad "#tab0" : Addr)), ((ad "#code:is_full_name" : Addr), (ad "#tab1" : Addr))] : List (Addr × Addr)), H p.2 = some (.tbl #[])) → TabH ⟨K, w, ad⟩ (fun _ => none) H := fun H hH => tabH_of (k := ⟨K, w, ad⟩) hNT fun i hi => by
    rcases i with _ | _ | _
    · exact (congrArg H (congrArg ad (by decide +kernel : "#tab" ++ toString 0 = "#tab0"))).trans (hH (ad "#code:is_simple_name", ad "#tab0") (by simp))
    · exact (congrArg H (congrArg ad (by decide +kernel : "#tab" ++ toString 1 = "#tab1"))).trans (hH (ad "#code:is_full_name", ad "#tab1") (by simp))
    · omega
  refine ⟨_, [((ad "#code:is_simple_name" : Addr), (ad "#tab0" : Addr)), ((ad "#code:is_full_name" : Addr), (ad "#tab1" : Addr))], spLTS ⟨K, w, ad⟩, hT, nT, hC, fun s v => .of_eq (fd := PySem.W.fnOf "law" "law" (defArgs s_law) (defBody s_law) (defScope s_law) .none kV6 dc6 pm6 an6 cd6 ct6) rfl, fun H a ns hl _ hH hS => ⟨hTab H hH, a, ns, rfl, hS, hl, fun _ => rfl⟩, fun base KB GB TBs => ?_⟩
  have T : Top P w ⟨K, ad⟩ mg base := ⟨True.intro, PySem.W.mg_none_of X G b_all, PySem.W.mg_none_of X G b_bool, PySem.W.mg_none_of X G b_int, PySem.W.mg_none_of X G b_isinstance, PySem.W.mg_none_of X G b_len, PySem.W.mg_none_of X G b_range, ⟨_, PySem.W.mg_of X G g_DIGITS, ⟨_, rfl⟩⟩, ⟨_, PySem.W.mg_of X G g_LETTERS, ⟨_, rfl⟩⟩, ⟨_, PySem.W.mg_of X G g_LONGEST_NAME, ⟨_, rfl⟩⟩, ⟨0, (by show 0 < ad "#tabs"; rw [hNT]; decide), congrArg ad (by decide +kernel)⟩, (let x := TBs (ad "#code:is_simple_name", ad "#tab0") (by simp); ⟨x.code, x.bm, x.gP⟩), ⟨1, (by show 1 < ad "#tabs"; rw [hNT]; decide), congrArg ad (by decide +kernel)⟩, (let x := TBs (ad "#code:is_full_name", ad "#tab1") (by simp); ⟨x.code, x.bm, x.gP⟩)⟩
  have E_is_simple_name : FnE P w K mg base (L2.CX P w) "is_simple_name" 3 ["text"] (sp_is_simple_name ⟨K, ad⟩ w) := ⟨_, _, PySem.W.mg_of X G a1, k1, F1.fn.binds (ps := ["text"]) fun _ _ _ _ _ _ us hl => match us, hl with | [_], _ => rfl, ok_is_simple_name (G := ⟨K, ad⟩) T F1⟩
  have E_is_full_name : FnE P w K mg base (L2.CX P w) "is_full_name" 6 ["text"] (sp_is_full_name ⟨K, ad⟩ w) := ⟨_, _, PySem.W.mg_of X G a2, k2, F2.fn.binds (ps := ["text"]) fun _ _ _ _ _ _ us hl => match us, hl with | [_], _ => rfl, ok_is_full_name (G := ⟨K, ad⟩) T E_is_simple_name F2⟩
  have E__law_draw : FnE P w K mg base (L2.CX P w) "_law_draw" 1 ["cell", "many", "bound"] (sp__law_draw ⟨K, ad⟩ w) := ⟨_, _, PySem.W.mg_of X G a3, k3, F3.binds (ps := ["cell", "many", "bound"]) fun _ _ _ _ _ _ us hl => match us, hl with | [_, _, _], _ => rfl, ok__law_draw (G := ⟨K, ad⟩) T F3⟩
  have E__law_simple : FnE P w K mg base (L2.CX P w) "_law_simple" 1 ["text"] (sp__law_simple ⟨K, ad⟩ w) := ⟨_, _, PySem.W.mg_of X G a4, k4, F4.binds (ps := ["text"]) fun _ _ _ _ _ _ us hl => match us, hl with | [_], _ => rfl, ok__law_simple (G := ⟨K, ad⟩) T F4⟩
  have E__law_full : FnE P w K mg base (L2.CX P w) "_law_full" 2 ["text"] (sp__law_full ⟨K, ad⟩ w) := ⟨_, _, PySem.W.mg_of X G a5, k5, F5.binds (ps := ["text"]) fun _ _ _ _ _ _ us hl => match us, hl with | [_], _ => rfl, ok__law_full (G := ⟨K, ad⟩) T E__law_simple F5⟩
  exact lawTS (k := ⟨K, w, ad⟩) (ok_law (G := ⟨K, ad⟩) T E__law_draw E__law_full E__law_simple E_is_full_name E_is_simple_name F6)
theorem walk {l : PySem.W.OpenLaw} {q : Program} {loose : List Str} {XP : (Str → Option Value) → Heap → Prop} {YP : World → Heap → Prop} {d : DefRec} {K : Params → PySem.W.Frag} (hn : l.most = some 63) (hdf : d.params.defaults = []) (hrec : ∀ z ∈ (["is_simple_name", "is_full_name"] : List Str), ((recsOf q).any fun e => e.name == z) = true)
    (hY : ∀ (w : World) (h : Heap), YP w h → (K w.params).In h)
    (F : ∀ (w : World) (mg : Str → Option Value) (fa : Addr) (h : Heap), (K w.params).In h → h.Ns mainGlobals mg → mg d.name = some (.ref fa) → OwnTabs (K w.params) mg ["is_simple_name", "is_full_name"] h → LamX.LawAtS l w (K w.params) CX0 7 63 "script" mg fa h) :
    PySem.W.WalkO q loose XP YP l.row.toRowW d [] (fun f vs => PySem.call f vs) :=
  walk_tabs (n := 63) (k := 7) (x := "script") (CX := fun _ => CX0) hn (by decide) hdf ⟨rfl, by decide, by decide⟩ hrec hY F fun _ _ _ _ _ z => z
end My
open PySem PySem.W PyProof.Rows in
set_option maxRecDepth 100000 in
set_option maxHeartbeats 0 in
theorem PySem.Challenge.cw_formstripes_k04_names_holds : PySem.Challenge.rw_formstripes_k04_names.Holds := by
  w_on; o_law; k_head; (case hw => w_witness2)
  k_fill
  refine My.walk (l := PySem.Challenge.rw_formstripes_k04_names) rfl rfl (by decide +kernel) (fun w h Y => PySem.W.kIn_of Y) ?F
  case F =>
    intro w mg fa h KX G hmg own
    refine' My.all_mk KX G hmg own ?lx_c_is_simple_name ?lx_h_is_simple_name ?lx_d_is_simple_name ?lx_n_is_simple_name ?lx_c_is_full_name ?lx_h_is_full_name ?lx_d_is_full_name ?lx_n_is_full_name ?a1 ?l1 ?c1 ?k1 ?a2 ?l2 ?c2 ?k2 ?a3 ?l3 ?c3 ?k3 ?a4 ?l4 ?c4 ?k4 ?a5 ?l5 ?c5 ?k5 ?a6 ?l6 ?c6 ?k6 ?b_all ?b_bool ?b_int ?b_isinstance ?b_len ?b_range ?g_DIGITS ?g_LETTERS ?g_LONGEST_NAME
    (case a1 => first | k_is | kernel_rfl)
    (case l1 => first | k_is | kernel_rfl)
    (case c1 => first | k_is | kernel_rfl)
    (case k1 => first | k_is | kernel_rfl)
    (case a2 => first | k_is | kernel_rfl)
    (case l2 => first | k_is | kernel_rfl)
    (case c2 => first | k_is | kernel_rfl)
    (case k2 => first | k_is | kernel_rfl)
    (case a3 => first | k_is | kernel_rfl)
    (case l3 => first | k_is | kernel_rfl)
    (case c3 => first | k_is | kernel_rfl)
    (case k3 => first | k_is | kernel_rfl)
    (case a4 => first | k_is | kernel_rfl)
    (case l4 => first | k_is | kernel_rfl)
    (case c4 => first | k_is | kernel_rfl)
    (case k4 => first | k_is | kernel_rfl)
    (case a5 => first | k_is | kernel_rfl)
    (case l5 => first | k_is | kernel_rfl)
    (case c5 => first | k_is | kernel_rfl)
    (case k5 => first | k_is | kernel_rfl)
    (case a6 => first | k_is | kernel_rfl)
    (case l6 => first | k_is | kernel_rfl)
    (case c6 => first | k_is | kernel_rfl)
    (case k6 => first | k_is | kernel_rfl)
    (case b_all => first | k_is | kernel_rfl)
    (case b_bool => first | k_is | kernel_rfl)
    (case b_int => first | k_is | kernel_rfl)
    (case b_isinstance => first | k_is | kernel_rfl)
    (case b_len => first | k_is | kernel_rfl)
    (case b_range => first | k_is | kernel_rfl)
    (case g_DIGITS => first | k_is | kernel_rfl)
    (case g_LETTERS => first | k_is | kernel_rfl)
    (case g_LONGEST_NAME => first | k_is | kernel_rfl)
    (case lx_c_is_simple_name => first | k_is | kernel_rfl)
    (case lx_h_is_simple_name => rfl)
    (case lx_d_is_simple_name => first | kernel_rfl | rfl | decide +kernel)
    (case lx_n_is_simple_name => first | kernel_rfl | rfl | decide +kernel)
    (case lx_c_is_full_name => first | k_is | kernel_rfl)
    (case lx_h_is_full_name => rfl)
    (case lx_d_is_full_name => first | kernel_rfl | rfl | decide +kernel)
    (case lx_n_is_full_name => first | kernel_rfl | rfl | decide +kernel)

