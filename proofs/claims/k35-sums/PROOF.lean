import PyProof.Rows.All
import Wide.All
import OpenK.AllK
import Wide.FinOn
import HandS.ForMost
import HandS.Wide
import HandS.WideBits
import HandS.IsInst
import HandS.Flow
import HandS.More
import KE.OsArith
import PySem.Challenge.RW_formstripes_k35_sums_of_octets
set_option Elab.async false
set_option linter.all false
set_option maxRecDepth 100000
set_option maxHeartbeats 4000000
/-! R: rules joined by kinds of values, with the equations of their readings. -/
namespace R
open PySem PySem.Spec PyProof.Rows L2

section
variable {X : Cx}
theorem opImp {f : Value → Value → Sem Value} {r r' : R2} (h : OpR X f r) (i : ∀ x y H Q, r' x y H Q → r x y H Q) : OpR X f r' :=
  fun pins s σ H x y u v Q I rx ry q => h pins s σ H x y u v Q I rx ry (i _ _ _ _ q)
theorem unImp {f : Value → Sem Value} {r r' : V → Hp → VK → Prop} (h : UnR X f r) (i : ∀ x H Q, r' x H Q → r x H Q) : UnR X f r' :=
  fun pins s σ H x v Q I rx q => h pins s σ H x v Q I rx (i _ _ _ q)
theorem callImp {f : Value} {r r' : List V → Hp → VK → Prop} (h : CallR X f r) (i : ∀ xs H Q, r' xs H Q → r xs H Q) : CallR X f r' :=
  fun pins s σ H xs us Q I rx q => h pins s σ H xs us Q I rx (i _ _ _ q)
theorem ixImp {r r' : R2} (h : IxR X r) (i : ∀ x y H Q, r' x y H Q → r x y H Q) : IxR X r' :=
  fun a b pins s σ H x y u v Q I rx ry q e => h a b pins s σ H x y u v Q I rx ry (i _ _ _ _ q) e
theorem mtImp {id : String} {r r' : V → List V → Hp → VK → Prop} (h : MtR X id r) (i : ∀ x xs H Q, r' x xs H Q → r x xs H Q) : MtR X id r' :=
  fun pins s σ H x xs u us Q I rx ry q => h pins s σ H x xs u us Q I rx ry (i _ _ _ _ q)
end

/-! ### ints -/
def mI (C : Int → Int → Prop) (g : Int → Int → V) : R2 := fun x y H Q => match x, y with
  | .int i, .int j => C i j ∧ Q (g i j) H
  | _, _ => False
def mI0 (g : Int → Int → V) : R2 := fun x y H Q => match x, y with
  | .int i, .int j => Q (g i j) H
  | _, _ => False
theorem mI_e {C g i j H Q} : mI C g (.int i) (.int j) H Q = (C i j ∧ Q (g i j) H) := rfl
theorem mI0_e {g i j H Q} : mI0 g (.int i) (.int j) H Q = Q (g i j) H := rfl
theorem mI_of {X : Cx} {f : Value → Value → Sem Value} {C g} (h : OpR X f (rI C g)) : OpR X f (mI C g) := opImp h fun x y H Q q => by
  cases x <;> cases y <;> first | exact q.elim | exact ⟨_, _, rfl, rfl, q.1, q.2⟩
theorem mI0_of {X : Cx} {f : Value → Value → Sem Value} {g} (h : OpR X f (rI0 g)) : OpR X f (mI0 g) := opImp h fun x y H Q q => by
  cases x <;> cases y <;> first | exact q.elim | exact ⟨_, _, rfl, rfl, q⟩
/-- a product's sizes -/
def CM (i j : Int) : Prop := CMul i j ∨ CMulW i j
/-- a divisor's size -/
def CD (i j : Int) : Prop := 0 < j ∧ (j < 1073741824 ∨ j.natAbs.log2 < 9000)
/-- a shift's sizes -/
def CS (i j : Int) : Prop := 0 ≤ j ∧ ((j ≤ 1000000 ∧ i.natAbs < 2 ^ 64) ∨ (Builtin.Int.intBits i : Int) + j ≤ 2 ^ 27)
section
variable {X : Cx}
theorem orI {f : Value → Value → Sem Value} {C C' g} (h : OpR X f (rI C g)) (h' : OpR X f (rI C' g)) : OpR X f (rI (fun i j => C i j ∨ C' i j) g) :=
  opImp (h.or h') fun x y H Q ⟨i, j, e1, e2, c, q⟩ => c.elim (fun c => .inl ⟨i, j, e1, e2, c, q⟩) fun c => .inr ⟨i, j, e1, e2, c, q⟩
theorem cI {f : Value → Value → Sem Value} {C C' : Int → Int → Prop} {g} (h : OpR X f (rI C g)) (i : ∀ i j, C' i j → C i j) : OpR X f (rI C' g) :=
  opImp h fun x y H Q ⟨a, b, e1, e2, c, q⟩ => ⟨a, b, e1, e2, i _ _ c, q⟩
def rSubI : R2 := mI0 fun i j => .int (i - j)
def rMulI : R2 := mI CM fun i j => .int (i * j)
def rFdiv : R2 := mI CD fun i j => .int (i / j)
def rMod : R2 := mI (fun _ j => 0 < j) fun i j => .int (i % j)
def rShl : R2 := mI CS fun i j => .int (i * 2 ^ j.toNat)
def rShr : R2 := mI (fun _ j => 0 ≤ j) fun i j => .int (i / 2 ^ j.toNat)
def rXor : R2 := mI0 fun i j => .int (Builtin.bitXor i j)
def rAndB : R2 := mI0 fun i j => .int (Builtin.bitAnd i j)
def rOrB : R2 := mI0 fun i j => .int (Builtin.bitOr i j)
def rPow : R2 := mI CPow fun i j => .int (i ^ j.toNat)
theorem u_sub : OpR X (binaryOp .Sub) rSubI := mI0_of op_sub
theorem u_mulI : OpR X (binaryOp .Mult) rMulI := mI_of (orI op_mul op_mulW)
theorem u_fdiv : OpR X (binaryOp .FloorDiv) rFdiv := mI_of (cI (orI op_fdiv op_fdivW) fun i j c => c.2.elim (fun h => .inl ⟨c.1, h⟩) fun h => .inr ⟨c.1, h⟩)
theorem u_mod : OpR X (binaryOp .Mod) rMod := mI_of op_mod
theorem u_shl : OpR X (binaryOp .LShift) rShl := mI_of (cI (orI op_shl op_shlW) fun i j c => c.2.elim (fun h => .inl ⟨c.1, h.1, h.2⟩) fun h => .inr ⟨c.1, h⟩)
theorem u_shr : OpR X (binaryOp .RShift) rShr := mI_of op_shr
theorem u_xor : OpR X (binaryOp .BitXor) rXor := mI0_of op_xor
theorem u_and : OpR X (binaryOp .BitAnd) rAndB := mI0_of op_and
theorem u_or : OpR X (binaryOp .BitOr) rOrB := mI0_of op_or
theorem u_pow : OpR X (binaryOp .Pow) rPow := mI_of op_pow
theorem i_sub : OpR X (inplaceOp .Sub) rSubI := mI0_of iop_sub
theorem i_mod : OpR X (inplaceOp .Mod) rMod := mI_of iop_mod
theorem i_shl : OpR X (inplaceOp .LShift) rShl := mI_of (cI (orI iop_shl iop_shlW) fun i j c => c.2.elim (fun h => .inl ⟨c.1, h.1, h.2⟩) fun h => .inr ⟨c.1, h⟩)
theorem i_shr : OpR X (inplaceOp .RShift) rShr := mI_of iop_shr
theorem i_xor : OpR X (inplaceOp .BitXor) rXor := mI0_of iop_xor
theorem i_and : OpR X (inplaceOp .BitAnd) rAndB := mI0_of iop_and
theorem i_or : OpR X (inplaceOp .BitOr) rOrB := mI0_of iop_or
end
/-! ### new objects -/
def Nw (H : Hp) (o : HO) (Q : VK) : Prop := ∀ p, H p = none → Q (.ref p) (upd H p o)
/-- all that was tracked is as it was -/
theorem Same.new {H : Hp} {p : Addr} {o : HO} (h : H p = none) : Same H (upd H p o) := fun a u e => by
  rw [upd_ne (ne_of_none e h)]
  exact e
theorem nw {H : Hp} {o : HO} {Q : VK} (h : ∀ p H', H p = none → Same H H' → H' p = some o → Q (.ref p) H') : Nw H o Q := fun p hp => h p _ hp (Same.new hp) upd_same

/-! ### lists and tuples that are read -/
open Classical in
noncomputable def klst (K : PySem.W.Frag) (p : Addr) : Option (List V) := if h : ∃ xs, SqL K (fun _ => none) p xs then some (Classical.choose h) else none
open Classical in
noncomputable def ktup (K : PySem.W.Frag) (p : Addr) : Option (List V) := if h : ∃ xs, SqT K (fun _ => none) p xs then some (Classical.choose h) else none
noncomputable def lstv (K : PySem.W.Frag) (H : Hp) (p : Addr) : Option (List V) := match H p with
  | some (.lst xs) => some xs
  | some (.frz _ (.lst xs)) => some xs
  | none => klst K p
  | _ => none
noncomputable def tupv (K : PySem.W.Frag) (H : Hp) (p : Addr) : Option (List V) := match H p with
  | some (.tup xs) => some xs
  | some (.frz _ (.tup xs)) => some xs
  | none => ktup K p
  | _ => none
section
variable {K : PySem.W.Frag} {H H' : Hp} {p : Addr} {xs : List V}
theorem lstv_of (h : H p = some (.lst xs)) : lstv K H p = some xs := by unfold lstv; rw [h]
theorem lstv_frz {o} (h : H p = some (.frz o (.lst xs))) : lstv K H p = some xs := by unfold lstv; rw [h]
theorem tupv_of (h : H p = some (.tup xs)) : tupv K H p = some xs := by unfold tupv; rw [h]
theorem lstv_tup (h : H p = some (.tup xs)) : lstv K H p = none := by unfold lstv; rw [h]
theorem tupv_lst (h : H p = some (.lst xs)) : tupv K H p = none := by unfold tupv; rw [h]
theorem tupv_frz {o} (h : H p = some (.frz o (.lst xs))) : tupv K H p = none := by unfold tupv; rw [h]
theorem lstv_sq (h : lstv K H p = some xs) : SqL K H p xs := by
  unfold lstv at h
  split at h
  · cases h; exact .inl (.inl ‹_›)
  · cases h; exact .inl (.inr ⟨_, ‹_›⟩)
  · unfold klst at h
    split at h
    · rename_i hn he
      have q := Classical.choose_spec he
      cases h
      rcases q with (q | ⟨_, q⟩) | q
      · cases q
      · cases q
      · exact .inr q
    · cases h
  · cases h
theorem tupv_sq (h : tupv K H p = some xs) : SqT K H p xs := by
  unfold tupv at h
  split at h
  · cases h; exact .inl (.inl ‹_›)
  · cases h; exact .inl (.inr ⟨_, ‹_›⟩)
  · unfold ktup at h
    split at h
    · rename_i hn he
      have q := Classical.choose_spec he
      cases h
      rcases q with (q | ⟨_, q⟩) | q
      · cases q
      · cases q
      · exact .inr q
    · cases h
  · cases h
end
/-- a list or a tuple -/
noncomputable def sqv (K : PySem.W.Frag) (H : Hp) (p : Addr) : Option (List V) := match lstv K H p with
  | some xs => some xs
  | none => tupv K H p
theorem sqv_sq {K : PySem.W.Frag} {H : Hp} {p : Addr} {xs : List V} (h : sqv K H p = some xs) : SqL K H p xs ∨ SqT K H p xs := by
  unfold sqv at h
  split at h
  · cases h; exact .inl (lstv_sq ‹_›)
  · exact .inr (tupv_sq h)
theorem sqv_l {K : PySem.W.Frag} {H : Hp} {p : Addr} {xs : List V} (h : lstv K H p = some xs) : sqv K H p = some xs := by unfold sqv; rw [h]
theorem sqv_t {K : PySem.W.Frag} {H : Hp} {p : Addr} {xs : List V} (h : H p = some (.tup xs)) : sqv K H p = some xs := by unfold sqv; rw [lstv_tup h]; exact tupv_of h

/-! ### + -/
def rAddU : R2 := fun x y H Q => match x, y with
  | .int i, .int j => Q (.int (i + j)) H
  | .str a, .str b => a.length + b.length ≤ sizeLine ∧ Q (.str (a ++ b)) H
  | .byt a, .byt b => a.size + b.size ≤ 16777216 ∧ Q (.byt (a ++ b)) H
  | .ref a, .ref b => match H a, H b with
    | some (.lst xs), some (.lst ys) => xs.length + ys.length ≤ sizeLine ∧ Nw H (.lst (xs ++ ys)) Q
    | some (.tup xs), some (.tup ys) => xs ≠ [] ∧ xs.length + ys.length ≤ sizeLine ∧ (ys = [] → Q (.ref a) H) ∧ (ys ≠ [] → Nw H (.tup (xs ++ ys)) Q)
    | _, _ => False
  | _, _ => False
theorem rAddU_int {i j H Q} : rAddU (.int i) (.int j) H Q = Q (.int (i + j)) H := rfl
theorem rAddU_str {i j H Q} : rAddU (.str i) (.str j) H Q = (i.length + j.length ≤ sizeLine ∧ Q (.str (i ++ j)) H) := rfl
theorem rAddU_lst {a b : Addr} {xs ys : List V} {H : Hp} {Q} (ha : H a = some (.lst xs)) (hb : H b = some (.lst ys)) : rAddU (.ref a) (.ref b) H Q = (xs.length + ys.length ≤ sizeLine ∧ Nw H (.lst (xs ++ ys)) Q) := by
  unfold rAddU; simp only [ha, hb]
section
variable {X : Cx}
theorem u_add : OpR X (binaryOp .Add) rAddU := opImp (((op_add.or op_add_str).or op_add_byt).or (op_cat.or op_catT)) fun x y H Q q => by
  unfold rAddU at q
  split at q
  · exact .inl (.inl (.inl ⟨_, _, rfl, rfl, q⟩))
  · exact .inl (.inl (.inr ⟨_, _, rfl, rfl, q⟩))
  · exact .inl (.inr ⟨_, _, rfl, rfl, q⟩)
  · split at q
    · exact .inr (.inl ⟨_, _, _, _, rfl, rfl, ‹_›, ‹_›, q⟩)
    · exact .inr (.inr ⟨_, _, _, _, rfl, rfl, SqT.of ‹_›, SqT.of ‹_›, q⟩)
    · exact q.elim
  · exact q.elim
def rIaddU : R2 := fun x y H Q => match x, y with
  | .int i, .int j => Q (.int (i + j)) H
  | .str a, .str b => a.length + b.length ≤ sizeLine ∧ Q (.str (a ++ b)) H
  | _, _ => False
theorem i_add : OpR X (inplaceOp .Add) rIaddU := opImp (iop_add.or iop_add_str) fun x y H Q q => by
  unfold rIaddU at q
  split at q
  · exact .inl ⟨_, _, rfl, rfl, q⟩
  · exact .inr ⟨_, _, rfl, rfl, q⟩
  · exact q.elim
def rMulU : R2 := fun x y H Q => match x, y with
  | .int i, .int j => CM i j ∧ Q (.int (i * j)) H
  | .ref a, .int k => match H a with
    | some (.lst xs) => -(2 ^ 63) ≤ k ∧ k < 2 ^ 63 ∧ xs.length * k.toNat ≤ sizeLine ∧ Nw H (.lst (List.replicate k.toNat xs).flatten) Q
    | _ => False
  | _, _ => False
theorem u_mul : OpR X (binaryOp .Mult) rMulU := opImp (u_mulI.or op_rep) fun x y H Q q => by
  unfold rMulU at q
  split at q
  · exact .inl q
  · split at q
    · exact .inr ⟨_, _, _, rfl, rfl, ‹_›, q⟩
    · exact q.elim
  · exact q.elim

/-! ### comparisons -/
def rLtU : R2 := fun x y H Q => match x, y with
  | .int i, .int j => Q (.bl (decide (i < j))) H
  | .str a, .str b => Q (.bl (decide (a.cps.toList < b.cps.toList))) H
  | _, _ => False
def rLeU : R2 := fun x y H Q => match x, y with
  | .int i, .int j => Q (.bl (decide (i ≤ j))) H
  | .str a, .str b => Q (.bl (!decide (b.cps.toList < a.cps.toList))) H
  | _, _ => False
def rGtU : R2 := fun x y H Q => match x, y with
  | .int i, .int j => Q (.bl (decide (j < i))) H
  | .str a, .str b => Q (.bl (decide (b.cps.toList < a.cps.toList))) H
  | _, _ => False
def rGeU : R2 := fun x y H Q => match x, y with
  | .int i, .int j => Q (.bl (decide (j ≤ i))) H
  | .str a, .str b => Q (.bl (!decide (a.cps.toList < b.cps.toList))) H
  | _, _ => False
theorem u_lt : OpR X (compareOp .Lt) rLtU := opImp (op_lt.or op_lt_str) fun x y H Q q => by
  cases x <;> cases y <;> first | exact q.elim | exact .inl ⟨_, _, rfl, rfl, q⟩ | exact .inr ⟨_, _, rfl, rfl, q⟩
theorem u_le : OpR X (compareOp .LtE) rLeU := opImp (op_le.or op_le_str) fun x y H Q q => by
  cases x <;> cases y <;> first | exact q.elim | exact .inl ⟨_, _, rfl, rfl, q⟩ | exact .inr ⟨_, _, rfl, rfl, q⟩
theorem u_gt : OpR X (compareOp .Gt) rGtU := opImp (op_gt.or op_gt_str) fun x y H Q q => by
  cases x <;> cases y <;> first | exact q.elim | exact .inl ⟨_, _, rfl, rfl, q⟩ | exact .inr ⟨_, _, rfl, rfl, q⟩
theorem u_ge : OpR X (compareOp .GtE) rGeU := opImp (op_ge.or op_ge_str) fun x y H Q q => by
  cases x <;> cases y <;> first | exact q.elim | exact .inl ⟨_, _, rfl, rfl, q⟩ | exact .inr ⟨_, _, rfl, rfl, q⟩
def isRef : V → Bool
  | .ref _ => true
  | _ => false
def rEqU (K : PySem.W.Frag) : R2 := fun x y H Q => if (isRef x || isRef y) = true then rEqD K x y H Q else scal x y = true ∧ Q (.bl (decide (x = y))) H
def rNeU (K : PySem.W.Frag) : R2 := fun x y H Q => if (isRef x || isRef y) = true then rNeD K x y H Q else scal x y = true ∧ Q (.bl (!decide (x = y))) H
theorem u_eq (hu : X.A.units + 64 < cLine) : OpR X (compareOp .Eq) (rEqU X.K) := opImp (op_eq.or (op_eqD hu)) fun x y H Q q => by
  unfold rEqU at q
  split at q
  · exact .inr q
  · exact .inl q
theorem u_ne (hu : X.A.units + 64 < cLine) : OpR X (compareOp .NotEq) (rNeU X.K) := opImp (op_ne.or (op_neD hu)) fun x y H Q q => by
  unfold rNeU at q
  split at q
  · exact .inr q
  · exact .inl q
theorem rEqU_int {K i j H Q} : rEqU K (.int i) (.int j) H Q = Q (.bl (decide (i = j))) H := by unfold rEqU; simp [isRef, scal]
theorem rNeU_int {K i j H Q} : rNeU K (.int i) (.int j) H Q = Q (.bl (!decide (i = j))) H := by unfold rNeU; simp [isRef, scal]
theorem rEqU_str {K i j H Q} : rEqU K (.str i) (.str j) H Q = Q (.bl (decide (i = j))) H := by unfold rEqU; simp [isRef, scal]
theorem rNeU_str {K i j H Q} : rNeU K (.str i) (.str j) H Q = Q (.bl (!decide (i = j))) H := by unfold rNeU; simp [isRef, scal]
theorem rEqU_bl {K i j H Q} : rEqU K (.bl i) (.bl j) H Q = Q (.bl (decide (i = j))) H := by unfold rEqU; simp [isRef, scal]
theorem rNeU_bl {K i j H Q} : rNeU K (.bl i) (.bl j) H Q = Q (.bl (!decide (i = j))) H := by unfold rNeU; simp [isRef, scal]
theorem rEqU_ref {K a y H Q} : rEqU K (.ref a) y H Q = rEqD K (.ref a) y H Q := rfl
theorem rNeU_ref {K a y H Q} : rNeU K (.ref a) y H Q = rNeD K (.ref a) y H Q := rfl
/-- is -/
def rIsU : R2 := fun x y H Q => match x, y with
  | x, .non => Q (.bl (decide (x = .non))) H
  | _, _ => False
def rIsNU : R2 := fun x y H Q => match x, y with
  | x, .non => Q (.bl (!decide (x = .non))) H
  | _, _ => False
theorem u_is : OpR X (compareOp .Is) rIsU := opImp op_isN fun x y H Q q => by
  cases y <;> first | exact q.elim | exact ⟨rfl, q⟩
theorem u_isN : OpR X (compareOp .IsNot) rIsNU := opImp op_notN fun x y H Q q => by
  cases y <;> first | exact q.elim | exact ⟨rfl, q⟩
/-- in -/
def inS (a b : Str) : Bool := !(Builtin.Str.occurrences b a 0 b.length 1).isEmpty
theorem inS_one (c : Nat) (z : Str) : inS ⟨#[c]⟩ z = decide (c ∈ z.cps.toList) := PySem.StrLaws.found_one z c
noncomputable def rInU (K : PySem.W.Frag) (neg : Bool) : R2 := fun x y H Q => match y with
  | .str b => (match x with
    | .str a => Q (.bl (if neg then !inS a b else inS a b)) H
    | _ => False)
  | .ref p => (match sqv K H p with
    | some xs => flatV x = true ∧ xs.all flatV = true ∧ Q (.bl (if neg then !inV x xs else inV x xs)) H
    | none => False)
  | _ => False
theorem u_in : OpR X (compareOp .In) (rInU X.K false) := opImp (op_in_str.or op_in_seq) fun x y H Q q => by
  unfold rInU at q
  split at q
  · split at q
    · exact .inl ⟨_, _, rfl, rfl, q⟩
    · exact q.elim
  · split at q
    · exact .inr ⟨_, _, rfl, sqv_sq ‹_›, q⟩
    · exact q.elim
  · exact q.elim
theorem u_nin : OpR X (compareOp .NotIn) (rInU X.K true) := opImp (op_notin_str.or op_notIn_seq) fun x y H Q q => by
  unfold rInU at q
  split at q
  · split at q
    · exact .inl ⟨_, _, rfl, rfl, q⟩
    · exact q.elim
  · split at q
    · exact .inr ⟨_, _, rfl, sqv_sq ‹_›, q⟩
    · exact q.elim
  · exact q.elim
theorem rInU_str {K neg a b H Q} : rInU K neg (.str a) (.str b) H Q = Q (.bl (if neg then !inS a b else inS a b)) H := rfl

/-! ### - and not -/
def mU (g : Int → V) : V → Hp → VK → Prop := fun x H Q => match x with
  | .int i => Q (g i) H
  | _ => False
theorem u_neg : UnR X (unaryOp .USub) (mU fun i => .int (-i)) := unImp un_neg fun x H Q q => by
  cases x <;> first | exact q.elim | exact ⟨_, rfl, q⟩

/-! ### items, slices -/
noncomputable def rIxU (K : PySem.W.Frag) : R2 := fun x y H Q => match x, y with
  | .str z, .int i => z.length ≤ sizeLine ∧ (match atI z.cps.toList i with
    | some c => Q (.str ⟨#[c]⟩) H
    | none => False)
  | .ref p, .int i => (match sqv K H p with
    | some xs => (match atI xs i with
      | some v => Q v H
      | none => False)
    | none => False)
  | _, _ => False
theorem u_ix : IxR X (rIxU X.K) := ixImp ix_seq fun x y H Q q => by
  unfold rIxU at q
  split at q
  · split at q
    · exact .inr (.inr ⟨_, _, _, rfl, rfl, q.1, ‹_›, q.2⟩)
    · exact q.2.elim
  · split at q
    · rename_i h
      split at q
      · rcases sqv_sq h with h | h
        · exact .inl ⟨_, _, _, _, rfl, rfl, h, ‹_›, q⟩
        · exact .inr (.inl ⟨_, _, _, _, rfl, rfl, h, ‹_›, q⟩)
      · exact q.elim
    · exact q.elim
  · exact q.elim
noncomputable def rSlU (K : PySem.W.Frag) : V → Option Int → Option Int → Hp → VK → Prop := fun x lo hi H Q => match x with
  | .str z => z.length ≤ sizeLine ∧ Q (.str (cutS z lo hi)) H
  | .ref p => (match lstv K H p with
    | some xs => Nw H (.lst (cutV xs lo hi)) Q
    | none => False)
  | _ => False
theorem slImp {r r' : V → Option Int → Option Int → Hp → VK → Prop} (h : SlR X r) (i : ∀ x lo hi H Q, r' x lo hi H Q → r x lo hi H Q) : SlR X r' := by
  intro pins s σ H x v lo hi
  intros
  apply h <;> first | assumption | (apply i; assumption)
theorem u_sl : SlR X (rSlU X.K) := slImp (sl_str.or sl_list) fun x lo hi H Q q => by
  unfold rSlU at q
  split at q
  · exact .inl ⟨_, rfl, q⟩
  · split at q
    · exact .inr ⟨_, _, rfl, lstv_sq ‹_›, q⟩
    · exact q.elim
  · exact q.elim
end

/-! ### built-in calls -/
section
variable {X : Cx}
noncomputable def rLenU (K : PySem.W.Frag) : List V → Hp → VK → Prop := fun xs H Q => match xs with
  | [.str z] => z.length ≤ sizeLine ∧ Q (.int z.length) H
  | [.byt z] => z.size ≤ sizeLine ∧ Q (.int z.size) H
  | [.ref p] => (match sqv K H p with
    | some xs => Q (.int xs.length) H
    | none => (match H p with
      | some (.dK kvs) => Q (.int kvs.length) H
      | _ => False))
  | _ => False
theorem c_len : CallR X (.builtin "len") (rLenU X.K) := callImp (call_len.or call_lenD) fun xs H Q q => by
  unfold rLenU at q
  split at q
  · exact .inl ⟨_, _, rfl, ⟨q.1, rfl⟩, q.2⟩
  · exact .inl ⟨_, _, rfl, ⟨q.1, rfl⟩, q.2⟩
  · split at q
    · rename_i h
      refine .inl ⟨_, _, rfl, ?_, q⟩
      rcases sqv_sq h with h | h
      · exact .inl ⟨_, h, rfl⟩
      · exact .inr ⟨_, h, rfl⟩
    · split at q
      · exact .inr ⟨_, _, rfl, ‹_›, q⟩
      · exact q.elim
  · exact q.elim
def rInt : List V → Hp → VK → Prop := fun xs H Q => match xs with
  | [.int i] => Q (.int i) H
  | [.bl k] => Q (.int (if k then 1 else 0)) H
  | [.str a] => (match PySem.intText? a with
    | some n => a.length ≤ 640 ∧ Q (.int n) H
    | none => False)
  | _ => False
theorem c_int : CallR X (.type "int") rInt := callImp (call_int1.or call_int_str) fun xs H Q q => by
  unfold rInt at q
  split at q
  · exact .inl (.inl ⟨_, rfl, q⟩)
  · exact .inl (.inr ⟨_, rfl, q⟩)
  · split at q
    · exact .inr ⟨_, _, rfl, ‹_›, q.1, q.2⟩
    · exact q.elim
  · exact q.elim
def rAbs : List V → Hp → VK → Prop := fun xs H Q => match xs with
  | [.int i] => Q (.int (if i < 0 then -i else i)) H
  | _ => False
theorem c_abs : CallR X (.builtin "abs") rAbs := callImp call_abs fun xs H Q q => by
  unfold rAbs at q
  split at q
  · exact ⟨_, rfl, q⟩
  · exact q.elim
def rMax2 : List V → Hp → VK → Prop := fun xs H Q => match xs with
  | [.int i, .int j] => Q (.int (if j > i then j else i)) H
  | _ => False
def rMin2 : List V → Hp → VK → Prop := fun xs H Q => match xs with
  | [.int i, .int j] => Q (.int (if j < i then j else i)) H
  | _ => False
theorem c_max2 (hc : X.calm = true) : CallR X (.builtin "max") rMax2 := callImp (call_max2 hc) fun xs H Q q => by
  unfold rMax2 at q
  split at q
  · exact ⟨_, _, rfl, q⟩
  · exact q.elim
theorem c_min2 (hc : X.calm = true) : CallR X (.builtin "min") rMin2 := callImp (call_min2 hc) fun xs H Q q => by
  unfold rMin2 at q
  split at q
  · exact ⟨_, _, rfl, q⟩
  · exact q.elim
noncomputable def rListOf (K : PySem.W.Frag) : List V → Hp → VK → Prop := fun xs H Q => match xs with
  | [.ref p] => (match sqv K H p with
    | some ys => Nw H (.lst ys) Q
    | none => (match H p with
      | some (.dK kvs) => Nw H (.lst (kvs.map fun kv => kV kv.1)) Q
      | _ => False))
  | _ => False
theorem c_list (hc : X.calm = true) : CallR X (.type "list") (rListOf X.K) := callImp (call_list_of.or (call_listD hc)) fun xs H Q q => by
  unfold rListOf at q
  split at q
  · split at q
    · exact .inl ⟨_, _, rfl, sqv_sq ‹_›, q⟩
    · split at q
      · exact .inr ⟨_, _, rfl, .inl ‹_›, q⟩
      · exact q.elim
  · exact q.elim
/-- a value's type by name -/
def tyN (H : Hp) : V → Option String
  | .non => some "NoneType"
  | .bl _ => some "bool"
  | .int _ => some "int"
  | .str _ => some "str"
  | .byt _ => some "bytes"
  | .ref p => (match H p with
    | some (.lst _) => some "list"
    | some (.frz _ (.lst _)) => some "list"
    | some (.tup _) => some "tuple"
    | some (.dK _) => some "dict"
    | some (.dT _) => some "dict"
    | _ => none)
  | _ => none
theorem tyN_x {K : PySem.W.Frag} {H : Hp} {x : V} {t : String} (h : tyN H x = some t) : TyX K H x (.type t) := by
  cases x with
  | non => cases h; exact .base .non
  | bl b => cases h; exact .base (.bl b)
  | int b => cases h; exact .base (.int b)
  | str b => cases h; exact .base (.str b)
  | byt b => cases h; exact .byt b
  | flt b => cases h
  | ty b => cases h
  | ref p =>
    unfold tyN at h
    simp only at h
    split at h
    · cases h; exact .base (.lst ‹_›)
    · cases h; exact .base (.frz ‹_›)
    · cases h; exact .base (.tup ‹_›)
    · cases h; exact .base (.dK ‹_›)
    · cases h; exact .base (.dT ‹_›)
    · cases h
def rIsiB : List V → Hp → VK → Prop := fun xs H Q => match xs with
  | [x, .ty T] => (match tyN H x with
    | some t => (match kitB t T with
      | some b => Q (.bl b) H
      | none => False)
    | none => False)
  | _ => False
theorem c_isi : CallR X (.builtin "isinstance") rIsiB := callImp call_isi fun xs H Q q => by
  unfold rIsiB at q
  split at q
  · split at q
    · split at q
      · exact ⟨_, _, _, _, _, rfl, .ty _, tyN_x ‹_›, kit_ty ‹_›, q⟩
      · exact q.elim
    · exact q.elim
  · exact q.elim
theorem kit_NoneType_bool : kitB "NoneType" "bool" = some false := by decide +kernel
theorem kit_NoneType_int : kitB "NoneType" "int" = some false := by decide +kernel
theorem kit_NoneType_str : kitB "NoneType" "str" = some false := by decide +kernel
theorem kit_NoneType_bytes : kitB "NoneType" "bytes" = some false := by decide +kernel
theorem kit_NoneType_list : kitB "NoneType" "list" = some false := by decide +kernel
theorem kit_NoneType_tuple : kitB "NoneType" "tuple" = some false := by decide +kernel
theorem kit_NoneType_dict : kitB "NoneType" "dict" = some false := by decide +kernel
theorem kit_bool_bool : kitB "bool" "bool" = some true := by decide +kernel
theorem kit_bool_int : kitB "bool" "int" = some true := by decide +kernel
theorem kit_bool_str : kitB "bool" "str" = some false := by decide +kernel
theorem kit_bool_bytes : kitB "bool" "bytes" = some false := by decide +kernel
theorem kit_bool_list : kitB "bool" "list" = some false := by decide +kernel
theorem kit_bool_tuple : kitB "bool" "tuple" = some false := by decide +kernel
theorem kit_bool_dict : kitB "bool" "dict" = some false := by decide +kernel
theorem kit_int_bool : kitB "int" "bool" = some false := by decide +kernel
theorem kit_int_int : kitB "int" "int" = some true := by decide +kernel
theorem kit_int_str : kitB "int" "str" = some false := by decide +kernel
theorem kit_int_bytes : kitB "int" "bytes" = some false := by decide +kernel
theorem kit_int_list : kitB "int" "list" = some false := by decide +kernel
theorem kit_int_tuple : kitB "int" "tuple" = some false := by decide +kernel
theorem kit_int_dict : kitB "int" "dict" = some false := by decide +kernel
theorem kit_str_bool : kitB "str" "bool" = some false := by decide +kernel
theorem kit_str_int : kitB "str" "int" = some false := by decide +kernel
theorem kit_str_str : kitB "str" "str" = some true := by decide +kernel
theorem kit_str_bytes : kitB "str" "bytes" = some false := by decide +kernel
theorem kit_str_list : kitB "str" "list" = some false := by decide +kernel
theorem kit_str_tuple : kitB "str" "tuple" = some false := by decide +kernel
theorem kit_str_dict : kitB "str" "dict" = some false := by decide +kernel
theorem kit_bytes_bool : kitB "bytes" "bool" = some false := by decide +kernel
theorem kit_bytes_int : kitB "bytes" "int" = some false := by decide +kernel
theorem kit_bytes_str : kitB "bytes" "str" = some false := by decide +kernel
theorem kit_bytes_bytes : kitB "bytes" "bytes" = some true := by decide +kernel
theorem kit_bytes_list : kitB "bytes" "list" = some false := by decide +kernel
theorem kit_bytes_tuple : kitB "bytes" "tuple" = some false := by decide +kernel
theorem kit_bytes_dict : kitB "bytes" "dict" = some false := by decide +kernel
theorem kit_list_bool : kitB "list" "bool" = some false := by decide +kernel
theorem kit_list_int : kitB "list" "int" = some false := by decide +kernel
theorem kit_list_str : kitB "list" "str" = some false := by decide +kernel
theorem kit_list_bytes : kitB "list" "bytes" = some false := by decide +kernel
theorem kit_list_list : kitB "list" "list" = some true := by decide +kernel
theorem kit_list_tuple : kitB "list" "tuple" = some false := by decide +kernel
theorem kit_list_dict : kitB "list" "dict" = some false := by decide +kernel
theorem kit_tuple_bool : kitB "tuple" "bool" = some false := by decide +kernel
theorem kit_tuple_int : kitB "tuple" "int" = some false := by decide +kernel
theorem kit_tuple_str : kitB "tuple" "str" = some false := by decide +kernel
theorem kit_tuple_bytes : kitB "tuple" "bytes" = some false := by decide +kernel
theorem kit_tuple_list : kitB "tuple" "list" = some false := by decide +kernel
theorem kit_tuple_tuple : kitB "tuple" "tuple" = some true := by decide +kernel
theorem kit_tuple_dict : kitB "tuple" "dict" = some false := by decide +kernel
theorem kit_dict_bool : kitB "dict" "bool" = some false := by decide +kernel
theorem kit_dict_int : kitB "dict" "int" = some false := by decide +kernel
theorem kit_dict_str : kitB "dict" "str" = some false := by decide +kernel
theorem kit_dict_bytes : kitB "dict" "bytes" = some false := by decide +kernel
theorem kit_dict_list : kitB "dict" "list" = some false := by decide +kernel
theorem kit_dict_tuple : kitB "dict" "tuple" = some false := by decide +kernel
theorem kit_dict_dict : kitB "dict" "dict" = some true := by decide +kernel
end

/-! ### tests -/
noncomputable def truV (K : PySem.W.Frag) (x : V) (H : Hp) (Q : Bool → Hp → Prop) : Prop := match x with
  | .non => Q false H
  | .bl b => Q b H
  | .int i => Q (i != 0) H
  | .str y => y.length ≤ sizeLine ∧ Q ((y.length : Int) != 0) H
  | .ref p => (match sqv K H p with
    | some xs => Q (!xs.isEmpty) H
    | none => (match H p with
      | some (.dK kvs) => Q (!kvs.isEmpty) H
      | _ => False))
  | _ => False
theorem truV_k {K : PySem.W.Frag} {x : V} {H : Hp} {Q : Bool → Hp → Prop} (q : truV K x H Q) : ∃ k, TruV K x H k ∧ Q k H := by
  unfold truV at q
  split at q
  · exact ⟨_, rfl, q⟩
  · exact ⟨_, rfl, q⟩
  · exact ⟨_, rfl, q⟩
  · exact ⟨_, ⟨q.1, rfl⟩, q.2⟩
  · split at q
    · rename_i h
      refine ⟨_, ?_, q⟩
      rcases sqv_sq h with h | h
      · exact .inl ⟨_, h, rfl⟩
      · exact .inr (.inl ⟨_, h, rfl⟩)
    · split at q
      · exact ⟨_, .inr (.inr ⟨_, ‹_›, rfl⟩), q⟩
      · exact q.elim
  · exact q.elim
def tTr (K : PySem.W.Frag) (ta : TE) : TT := fun σ H Q => ta σ H fun x H' => truV K x H' Q
section
variable {X : Cx} {a b : Expr} {ta tb : TE} {pos : Pos} {rest : List Expr}
theorem pt_tr (ha : PE X a ta) (he : ∀ whole, isTrue a X.env whole = (do let v ← whole; standAt a.pos; holding [v] (truthy v)) := by intro _; rfl) : PT X a (tTr X.K ta) := by
  refine ⟨fun pins s σ H Q I h => ?_⟩
  exact isTrue_plain (thn (ha.run pins s σ H _ I h) fun v s1 ⟨x, H1, I1, r1, q1⟩ => tru_ok pins s1 σ H1 x v Q I1 r1 (truV_k q1)) (he _)
/-- not, as a value -/
def tNotU (K : PySem.W.Frag) (ta : TE) : TE := fun σ H Q => ta σ H fun x H1 => truV K x H1 fun k H2 => Q (.bl (!k)) H2
/-- a comparison as a test -/
def tTe (t : TE) : TT := fun σ H Q => t σ H fun x H' => match x with
  | .bl k => Q k H'
  | _ => False
end

/-! ### readings closed upward -/
def clE (t : TE) : TE := fun σ H Q => ∃ Q0 : VK, t σ H Q0 ∧ ∀ v H', Q0 v H' → Q v H'
def clA (t : TA) : TA := fun σ H Q => ∃ Q0 : List V → Hp → Prop, t σ H Q0 ∧ ∀ v H', Q0 v H' → Q v H'
section
variable {X : Cx} {e : Expr} {es : List Expr} {t : TE} {ta : TA}
theorem peCl (h : PE X e t) : PE X e (clE t) := ⟨fun pins s σ H Q I ⟨Q0, q, m⟩ =>
  thn (h.run pins s σ H Q0 I q) fun _ _ ⟨v, H', I', r, q'⟩ => ⟨v, H', I', r, m _ _ q'⟩⟩
theorem paCl (h : PA X es ta) : PA X es (clA ta) := ⟨fun pos pins s σ H Q I ⟨Q0, q, m⟩ =>
  thn (h.run pos pins s σ H Q0 I q) fun _ _ ⟨v, H', I', r, q'⟩ => ⟨v, H', I', r, m _ _ q'⟩⟩
theorem peImp {t' : TE} (h : PE X e t) (i : ∀ σ H Q, t' σ H Q → t σ H Q) : PE X e t' := ⟨fun pins s σ H Q I q => h.run pins s σ H Q I (i _ _ _ q)⟩
end

/-! ### what is walked -/
noncomputable def iLst (K : PySem.W.Frag) (tl : TE) : TI := fun σ H R => tl σ H fun x H1 => match x with
  | .ref a => (match lstv K H1 a with
    | some _ => R (Itl K a) H1
    | none => False)
  | _ => False
noncomputable def iTp (K : PySem.W.Frag) (tl : TE) : TI := fun σ H R => tl σ H fun x H1 => match x with
  | .ref a => (match tupv K H1 a with
    | some _ => R (Itt K a) H1
    | none => False)
  | _ => False
def iSt (tl : TE) : TI := fun σ H R => tl σ H fun x H1 => match x with
  | .str z => R (Its z) H1
  | _ => False
section
variable {X : Cx} {tg l : Expr} {tl : TE}
theorem pi_lst (hl : PE X l tl) : PI X tg l (iLst X.K tl) := ⟨fun pins s σ H R I h => (pi_list (peCl hl)).run pins s σ H R I ⟨_, h, fun x H1 q => by
  cases x <;> first | exact q.elim | skip
  simp only at q
  split at q
  · exact ⟨_, rfl, ⟨_, lstv_sq ‹_›⟩, q⟩
  · exact q.elim⟩⟩
theorem pi_tp (hl : PE X l tl) : PI X tg l (iTp X.K tl) := ⟨fun pins s σ H R I h => (pi_tup (peCl hl)).run pins s σ H R I ⟨_, h, fun x H1 q => by
  cases x <;> first | exact q.elim | skip
  simp only at q
  split at q
  · exact ⟨_, rfl, ⟨_, tupv_sq ‹_›⟩, q⟩
  · exact q.elim⟩⟩
theorem pi_st (hl : PE X l tl) : PI X tg l (iSt tl) := ⟨fun pins s σ H R I h => (pi_str (peCl hl)).run pins s σ H R I ⟨_, h, fun x H1 q => by
  cases x <;> first | exact q.elim | skip
  exact ⟨_, rfl, q⟩⟩⟩
end

/-! ### methods of lists and texts -/
noncomputable def tML (K : PySem.W.Frag) (r : V → List V → Hp → VK → Prop) (to : TE) (t : TA) : TE := fun σ H Q => to σ H fun x H1 => match x with
  | .ref p => (match lstv K H1 p with
    | some _ => t σ H1 fun vs H2 => r (.ref p) vs H2 Q
    | none => False)
  | _ => False
def tMS (r : V → List V → Hp → VK → Prop) (to : TE) (t : TA) : TE := fun σ H Q => to σ H fun x H1 => match x with
  | .str z => t σ H1 fun vs H2 => r (.str z) vs H2 Q
  | _ => False
theorem tml_of {K : PySem.W.Frag} {r : V → List V → Hp → VK → Prop} {to : TE} {t : TA} (σ : L2.St) (H : Hp) (Q : VK) (h : tML K r to t σ H Q) : tBM K "list" r (clE to) (clA t) σ H Q := ⟨_, h, fun x H1 q => by
  cases x <;> first | exact q.elim | skip
  simp only at q
  split at q
  · exact ⟨.inl ⟨rfl, _, lstv_sq ‹_›⟩, _, q, fun _ _ z => z⟩
  · exact q.elim⟩
theorem tml0_of {K : PySem.W.Frag} {r : V → List V → Hp → VK → Prop} {to : TE} (σ : L2.St) (H : Hp) (Q : VK) (h : tML K r to tNil σ H Q) : tBM0 K "list" r (clE to) σ H Q := ⟨_, h, fun x H1 q => by
  cases x <;> first | exact q.elim | skip
  simp only at q
  split at q
  · exact ⟨.inl ⟨rfl, _, lstv_sq ‹_›⟩, q⟩
  · exact q.elim⟩
theorem tms_of {K : PySem.W.Frag} {r : V → List V → Hp → VK → Prop} {to : TE} {t : TA} (σ : L2.St) (H : Hp) (Q : VK) (h : tMS r to t σ H Q) : tBM K "str" r (clE to) (clA t) σ H Q := ⟨_, h, fun x H1 q => by
  cases x <;> first | exact q.elim | skip
  exact ⟨rfl, _, q, fun _ _ z => z⟩⟩
theorem tms0_of {K : PySem.W.Frag} {r : V → List V → Hp → VK → Prop} {to : TE} (σ : L2.St) (H : Hp) (Q : VK) (h : tMS r to tNil σ H Q) : tBM0 K "str" r (clE to) σ H Q := ⟨_, h, fun x H1 q => by
  cases x <;> first | exact q.elim | skip
  exact ⟨rfl, q⟩⟩
def rApp : V → List V → Hp → VK → Prop := fun x vs H Q => match x, vs with
  | .ref l, [y] => (match H l with
    | some (.lst xs) => xs.length < sizeLine ∧ Q .non (upd H l (.lst (xs ++ [y])))
    | _ => False)
  | _, _ => False
theorem m_append {X : Cx} : MtM X "list.append" rApp := fun pins s σ H x xs v us Q I rx rs h => mt_append pins s σ H x xs v us Q I rx rs (by
  unfold rApp at h
  split at h
  · split at h
    · exact ⟨_, _, _, rfl, rfl, ‹_›, h⟩
    · exact h.elim
  · exact h.elim)
section
variable {X : Cx} {o e : Expr} {es : List Expr} {to : TE} {t : TA} {apos pos : Pos}
theorem pe_bitlen (ho : PE X o to) (hbase : attributeBase o "bit_length" X.env (eval o X.env) = eval o X.env := by rfl) (hline : (apos.endLine == pos.line) = true := by rfl) :
    PE X (.Call (.Attribute o "bit_length" apos) [] [] pos) (tUn (mU fun i => .int (Builtin.Int.intBits i : Nat)) to) :=
  peImp (pe_bits (peCl ho) hbase hline) fun σ H Q q => ⟨_, q, fun x H1 q => by cases x <;> first | exact q.elim | exact ⟨_, rfl, q⟩⟩
variable {T id : String} {r : V → List V → Hp → VK → Prop} {name : Str}
theorem pe_ml (slot : Slot "list" name id) (hty : typeOf (.builtin id) = pure (.type "method_descriptor")) (hm : MtR X id r) (ho : PE X o to) (ha : PA X (e :: es) t)
    (hb : attributeBase o name X.env (eval o X.env) = eval o X.env := by rfl)
    (hf : ((backTo pos (starEach (e :: es) X.env)).all (fun x => !x.1) && (backToKw pos (keywordEach [] X.env)).all (fun x => x.1.isSome) && decide ((e :: es).length + ([] : List Keyword).length + (if ([] : List Keyword).isEmpty then 0 else 1) < 30)) = true := by rfl)
    (hl : (apos.endLine == pos.line) = true := by rfl) (hs : starEach (e :: es) X.env = (false, eval e X.env) :: starEach es X.env := by rfl) (hp : (backTo pos (starEach es X.env)).any (·.1) = false := by rfl) :
    PE X (.Call (.Attribute o name apos) (e :: es) [] pos) (tML X.K r to t) := peImp (pe_bm PySem.F.plainAttrs_list slot hty hm (peCl ho) (paCl ha) hb hf hl hs hp) tml_of
theorem pe_ml0 (slot : Slot "list" name id) (hty : typeOf (.builtin id) = pure (.type "method_descriptor")) (hm : MtR X id r) (ho : PE X o to)
    (hb : attributeBase o name X.env (eval o X.env) = eval o X.env := by rfl) (hl : (apos.endLine == pos.line) = true := by rfl) :
    PE X (.Call (.Attribute o name apos) [] [] pos) (tML X.K r to tNil) := peImp (pe_bm0 PySem.F.plainAttrs_list slot hty hm (peCl ho) hb hl) tml0_of
theorem pe_ms (pa : PlainAttrs "str") (slot : Slot "str" name id) (hty : typeOf (.builtin id) = pure (.type "method_descriptor")) (hm : MtR X id r) (ho : PE X o to) (ha : PA X (e :: es) t)
    (hb : attributeBase o name X.env (eval o X.env) = eval o X.env := by rfl)
    (hf : ((backTo pos (starEach (e :: es) X.env)).all (fun x => !x.1) && (backToKw pos (keywordEach [] X.env)).all (fun x => x.1.isSome) && decide ((e :: es).length + ([] : List Keyword).length + (if ([] : List Keyword).isEmpty then 0 else 1) < 30)) = true := by rfl)
    (hl : (apos.endLine == pos.line) = true := by rfl) (hs : starEach (e :: es) X.env = (false, eval e X.env) :: starEach es X.env := by rfl) (hp : (backTo pos (starEach es X.env)).any (·.1) = false := by rfl) :
    PE X (.Call (.Attribute o name apos) (e :: es) [] pos) (tMS r to t) := peImp (pe_bm pa slot hty hm (peCl ho) (paCl ha) hb hf hl hs hp) (tms_of (K := X.K))
theorem pe_ms0 (pa : PlainAttrs "str") (slot : Slot "str" name id) (hty : typeOf (.builtin id) = pure (.type "method_descriptor")) (hm : MtR X id r) (ho : PE X o to)
    (hb : attributeBase o name X.env (eval o X.env) = eval o X.env := by rfl) (hl : (apos.endLine == pos.line) = true := by rfl) :
    PE X (.Call (.Attribute o name apos) [] [] pos) (tMS r to tNil) := peImp (pe_bm0 pa slot hty hm (peCl ho) hb hl) (tms0_of (K := X.K))
theorem pe_append (ho : PE X o to) (ha : PA X (e :: es) t)
    (hb : attributeBase o "append" X.env (eval o X.env) = eval o X.env := by rfl)
    (hf : ((backTo pos (starEach (e :: es) X.env)).all (fun x => !x.1) && (backToKw pos (keywordEach [] X.env)).all (fun x => x.1.isSome) && decide ((e :: es).length + ([] : List Keyword).length + (if ([] : List Keyword).isEmpty then 0 else 1) < 30)) = true := by rfl)
    (hl : (apos.endLine == pos.line) = true := by rfl) (hs : starEach (e :: es) X.env = (false, eval e X.env) :: starEach es X.env := by rfl) (hp : (backTo pos (starEach es X.env)).any (·.1) = false := by rfl) :
    PE X (.Call (.Attribute o "append" apos) (e :: es) [] pos) (tML X.K rApp to t) := pe_ml PySem.F.slot_list_append PySem.F.type_list_append m_append ho ha hb hf hl hs hp
end

/-! ### defs of the text -/
/-- the def x keeps its promise -/
structure FnE (P : Program) (w : World) (K : PySem.W.Frag) (mg : Str → Option Value) (base : Heap) (CX : CXT) (x : Str) (k : Nat) (ps : List Str) (sp : Sp) : Prop where
  ex : ∃ f fd, mg x = some (.ref f) ∧ PySem.W.keepIn K (.ref f) = true ∧ Binds K fd ps [] ∧ FnOk P w K mg base CX k f fd ps sp
/-- a module's constant -/
def Cst (mg : Str → Option Value) (x : Str) (v : V) : Prop := ∃ u, mg x = some u ∧ RelV v u
section
variable {X : Cx} {CX : CXT} {k : Nat} {x : Str} {ps : List Str} {sp : Sp} {E : XK} {p pos : Pos} {e : Expr} {es : List Expr} {t : TA}
theorem pe_fn (F : FnE X.prog X.w X.K X.mg X.base CX x k ps sp) (hr : Room k X.A) (hg : Gl X x) (hx : Passes CX X E) (ha : PA X (e :: es) t)
    (hdb : (x == ("__debug__" : Str)) = false := by decide) (he : starEach (e :: es) X.env = (false, eval e X.env) :: starEach es X.env := by rfl) (hp : (backTo pos (starEach es X.env)).any (·.1) = false := by rfl) :
    PE X (.Call (.Name x p) (e :: es) [] pos) (tCall sp [] E t) := by
  obtain ⟨f, fd, h1, h2, h3, h4⟩ := F.ex
  exact pe_call h4 hr hg h1 h2 h3 .nil hx ha hdb he hp
theorem pe_fn0 (F : FnE X.prog X.w X.K X.mg X.base CX x k ps sp) (hr : Room k X.A) (hg : Gl X x) (hx : Passes CX X E) (hdb : (x == ("__debug__" : Str)) = false := by decide) :
    PE X (.Call (.Name x p) [] [] pos) (tCall sp [] E tNil) := by
  obtain ⟨f, fd, h1, h2, h3, h4⟩ := F.ex
  exact pe_call0 h4 hr hg h1 h2 h3 .nil hx hdb
theorem pe_cst {v : V} (h : Cst X.mg x v) (hg : Gl X x) (hd : (x == ("__debug__" : Str)) = false := by decide) : PE X (.Name x p) (tC v) := by
  obtain ⟨u, h1, h2⟩ := h
  exact pe_glob hg h1 h2 hd
end

/-! ### loops -/
section
variable {K : PySem.W.Frag} {a : Addr} {xs : List V} {g : TG} {tb : TS} {D : Ends} {σ : L2.St} {H : Hp}
/-- what a turn over a known row is to do -/
def Goes (J : It) (g : TG) (tb : TS) (D : Ends) (σ : L2.St) (H : Hp) : Prop := ∃ W : Nat → Nat → L2.St → Hp → Prop, (∃ m, W 0 m σ H) ∧ ∀ i m σ H, W i m σ H →
  (J.stop i H ∧ D.nx σ H) ∨ (J.go i H ∧ ∃ N : L2.St → Hp → Prop, (∀ σ' H', N σ' H' → ∃ m', m' < m ∧ W (i + 1) m' σ' H') ∧ ∀ x H', J.yld i H x H' → g x σ H' fun σ2 H2 => tb { D with nx := N, ct := N, bk := D.nx } σ2 H2)
def tForU (wi : TI) (g : TG) (tb : TS) : TS := fun D σ H => wi σ H fun J H1 => Goes J g tb D σ H1
theorem goesL (Pv : Nat → L2.St → Hp → Prop) (h0 : Pv 0 σ H) (hl : ∀ i σ H, i ≤ xs.length → Pv i σ H → lstv K H a = some xs)
    (hs : ∀ i x σ H, xs[i]? = some x → Pv i σ H → g x σ H fun σ2 H2 => tb { D with nx := Pv (i + 1), ct := Pv (i + 1), bk := D.nx } σ2 H2) (hd : ∀ σ H, Pv xs.length σ H → D.nx σ H) : Goes (Itl K a) g tb D σ H :=
  for_list (K := K) (a := a) (xs := xs) Pv h0 (fun i σ H hi p => lstv_sq (hl i σ H hi p)) hs hd
theorem goesT (Pv : Nat → L2.St → Hp → Prop) (h0 : Pv 0 σ H) (hl : ∀ i σ H, i ≤ xs.length → Pv i σ H → tupv K H a = some xs)
    (hs : ∀ i x σ H, xs[i]? = some x → Pv i σ H → g x σ H fun σ2 H2 => tb { D with nx := Pv (i + 1), ct := Pv (i + 1), bk := D.nx } σ2 H2) (hd : ∀ σ H, Pv xs.length σ H → D.nx σ H) : Goes (Itt K a) g tb D σ H :=
  for_tup (K := K) (a := a) (xs := xs) Pv h0 (fun i σ H hi p => tupv_sq (hl i σ H hi p)) hs hd
theorem goesR {lo : Int} {n : Nat} (Pv : Nat → L2.St → Hp → Prop) (h0 : Pv 0 σ H)
    (hs : ∀ i σ H, i < n → Pv i σ H → g (.int (lo + i)) σ H fun σ2 H2 => tb { D with nx := Pv (i + 1), ct := Pv (i + 1), bk := D.nx } σ2 H2) (hd : ∀ σ H, Pv n σ H → D.nx σ H) : Goes (Itr lo n) g tb D σ H :=
  for_range (lo := lo) (n := n) Pv h0 hs hd
end

/-! ### built-in names -/
theorem bt_len : bootBuiltins "len" = some (.builtin "len") := by decide +kernel
theorem bt_abs : bootBuiltins "abs" = some (.builtin "abs") := by decide +kernel
theorem bt_max : bootBuiltins "max" = some (.builtin "max") := by decide +kernel
theorem bt_min : bootBuiltins "min" = some (.builtin "min") := by decide +kernel
theorem bt_isinstance : bootBuiltins "isinstance" = some (.builtin "isinstance") := by decide +kernel
theorem bt_all : bootBuiltins "all" = some (.builtin "all") := by decide +kernel
theorem bt_any : bootBuiltins "any" = some (.builtin "any") := by decide +kernel
theorem bt_sorted : bootBuiltins "sorted" = some (.builtin "sorted") := by decide +kernel
theorem bt_sum : bootBuiltins "sum" = some (.builtin "sum") := by decide +kernel
theorem bt_ord : bootBuiltins "ord" = some (.builtin "ord") := by decide +kernel
theorem bt_chr : bootBuiltins "chr" = some (.builtin "chr") := by decide +kernel
theorem bt_repr : bootBuiltins "repr" = some (.builtin "repr") := by decide +kernel
theorem bt_divmod : bootBuiltins "divmod" = some (.builtin "divmod") := by decide +kernel
theorem bt_int : bootBuiltins "int" = some (.type "int") := by decide +kernel
theorem bt_bool : bootBuiltins "bool" = some (.type "bool") := by decide +kernel
theorem bt_str : bootBuiltins "str" = some (.type "str") := by decide +kernel
theorem bt_list : bootBuiltins "list" = some (.type "list") := by decide +kernel
theorem bt_tuple : bootBuiltins "tuple" = some (.type "tuple") := by decide +kernel
theorem bt_dict : bootBuiltins "dict" = some (.type "dict") := by decide +kernel
theorem bt_bytes : bootBuiltins "bytes" = some (.type "bytes") := by decide +kernel
theorem bt_set : bootBuiltins "set" = some (.type "set") := by decide +kernel
theorem bt_range : bootBuiltins "range" = some (.type "range") := by decide +kernel
theorem bt_enumerate : bootBuiltins "enumerate" = some (.type "enumerate") := by decide +kernel
theorem bt_zip : bootBuiltins "zip" = some (.type "zip") := by decide +kernel
theorem bt_reversed : bootBuiltins "reversed" = some (.type "reversed") := by decide +kernel
theorem bt_type : bootBuiltins "type" = some (.type "type") := by decide +kernel

/-! ### list comprehensions -/
section
/-- the block over a known row -/
def LcGo (J : It) (g : TG) (tt : TT) (te : TE) (vs : List Nat) (σ : L2.St) (H1 : Hp) (Q : VK) : Prop := ∀ D, H1 D = none → ∃ W : Nat → Nat → Hp → Prop, (∃ m, W 0 m (upd H1 D (.lst []))) ∧ ∀ i m H, W i m H →
  (J.stop i H ∧ Q (.ref D) H) ∨ (J.go i H ∧ ∃ Nx : Hp → Prop, (∀ H', Nx H' → ∃ m', m' < m ∧ W (i + 1) m' H') ∧ ∀ x H', J.yld i H x H' → g x (wipe σ vs) H' fun σ2 H2 => wipe σ2 vs = wipe σ vs ∧ tt σ2 H2 fun b H3 =>
    if b = true then te σ2 H3 fun y H4 => ∃ acc, H4 D = some (.lst acc) ∧ acc.length < sizeLine ∧ Nx (upd H4 D (.lst (acc ++ [y]))) else Nx H3)
def tLcU (wi : TI) (g : TG) (tt : TT) (te : TE) (vs : List Nat) : TE := fun σ H Q => wi σ H fun J H1 => LcGo J g tt te vs σ H1 Q
/-- a turn's shape -/
abbrev LTurn (g : TG) (tt : TT) (te : TE) (vs : List Nat) (σ : L2.St) (x : V) (H : Hp) (Qy : VK) (Qn : Hp → Prop) : Prop :=
  g x (wipe σ vs) H fun σ2 H2 => wipe σ2 vs = wipe σ vs ∧ tt σ2 H2 fun b H3 => if b = true then te σ2 H3 Qy else Qn H3
theorem filterMap_snoc {α β : Type} (f : α → Option β) (l : List α) (x : α) : (l ++ [x]).filterMap f = l.filterMap f ++ (match f x with | some y => [y] | none => []) := by
  rw [List.filterMap_append]
  cases h : f x <;> simp [h]
theorem take_snoc {α : Type} {l : List α} {i : Nat} {x : α} (h : l[i]? = some x) : l.take (i + 1) = l.take i ++ [x] := by
  rw [List.take_add_one, h]; rfl
theorem filterMap_len {α β : Type} (f : α → Option β) (l : List α) (i : Nat) (h : i < l.length) : ((l.take i).filterMap f).length < l.length := by
  refine Nat.lt_of_le_of_lt (List.length_filterMap_le _ _) ?_
  rw [List.length_take]; omega
variable {K : PySem.W.Frag} {a : Addr} {xs : List V} {g : TG} {tt : TT} {te : TE} {vs : List Nat} {σ : L2.St} {H1 : Hp} {Q : VK}
/-- each item gives a value of its own, or is passed over -/
theorem lcL (F : V → Option V) (hx : ∀ H', Same H1 H' → lstv K H' a = some xs) (hz : xs.length ≤ sizeLine)
    (step : ∀ x ∈ xs, ∀ H', Same H1 H' → ∀ (Qy : VK) (Qn : Hp → Prop), (∀ y, F x = some y → ∀ H'', Same H' H'' → Qy y H'') → (F x = none → ∀ H'', Same H' H'' → Qn H'') → LTurn g tt te vs σ x H' Qy Qn)
    (hq : ∀ p H', H1 p = none → Same H1 H' → H' p = some (.lst (xs.filterMap F)) → Q (.ref p) H') : LcGo (Itl K a) g tt te vs σ H1 Q := by
  intro D hD
  refine lc_list (K := K) (a := a) (xs := xs) (fun i H => Same H1 H ∧ H D = some (.lst ((xs.take i).filterMap F))) ⟨Same.new hD, by rw [upd_same]; rfl⟩ (fun i H _ h => lstv_sq (hx H h.1)) ?_ (fun H h => ?_)
  · rintro i x H hi ⟨h1, h2⟩
    have hlt : i < xs.length := (List.getElem?_eq_some_iff.mp hi).1
    refine step x (List.mem_of_getElem? hi) H h1 _ _ (fun y hy H2 s2 => ?_) (fun hy H2 s2 => ?_)
    · refine ⟨_, s2 _ _ h2, Nat.lt_of_lt_of_le (filterMap_len F xs i hlt) hz, fun b o hb => ?_, ?_⟩
      · rw [upd_ne (ne_of_none hb hD)]
        exact s2 _ _ (h1 _ _ hb)
      · rw [upd_same, take_snoc hi, filterMap_snoc, hy]
    · refine ⟨h1.trans s2, ?_⟩
      rw [take_snoc hi, filterMap_snoc, hy, s2 _ _ h2]
      simp
  · rw [List.take_length] at h
    exact hq D H hD h.1 h.2
/-- over a range -/
theorem lcR {lo : Int} {n : Nat} (F : Int → Option V) (hz : n ≤ sizeLine)
    (step : ∀ j : Nat, j < n → ∀ H', Same H1 H' → ∀ (Qy : VK) (Qn : Hp → Prop), (∀ y, F (lo + j) = some y → ∀ H'', Same H' H'' → Qy y H'') → (F (lo + j) = none → ∀ H'', Same H' H'' → Qn H'') → LTurn g tt te vs σ (.int (lo + j)) H' Qy Qn)
    (hq : ∀ p H', H1 p = none → Same H1 H' → H' p = some (.lst ((List.range n).filterMap fun j => F (lo + (j : Nat)))) → Q (.ref p) H') : LcGo (Itr lo n) g tt te vs σ H1 Q := by
  intro D hD
  refine lc_range (lo := lo) (n := n) (fun i H => Same H1 H ∧ H D = some (.lst ((List.range i).filterMap fun j => F (lo + (j : Nat))))) ⟨Same.new hD, by rw [upd_same]; rfl⟩ ?_ (fun H h => hq D H hD h.1 h.2)
  rintro i H hi ⟨h1, h2⟩
  have hl : ((List.range i).filterMap fun j => F (lo + (j : Nat))).length < sizeLine := by
    refine Nat.lt_of_le_of_lt (List.length_filterMap_le _ _) ?_
    rw [List.length_range]; omega
  refine step i hi H h1 _ _ (fun y hy H2 s2 => ?_) (fun hy H2 s2 => ?_)
  · refine ⟨_, s2 _ _ h2, hl, fun b o hb => ?_, ?_⟩
    · rw [upd_ne (ne_of_none hb hD)]
      exact s2 _ _ (h1 _ _ hb)
    · rw [upd_same, List.range_succ, filterMap_snoc, hy]
  · refine ⟨h1.trans s2, ?_⟩
    rw [List.range_succ, filterMap_snoc, hy, s2 _ _ h2]
    simp
end
section
variable {X : Cx} {a : Expr} {ta : TE} {pos : Pos}
theorem pe_notU (ha : PE X a ta) : PE X (.UnaryOp .Not a pos) (tNotU X.K ta) := peImp (pe_notT (peCl ha)) fun σ H Q q => by
  exact ⟨_, q, fun v H' q => truV_k q⟩
end

/-! ### equations -/
section
variable {i : Nat} {v : V} {o : Option V} {l : List (Option V)} {H : Hp} {Q : VK} {K : PySem.W.Frag}
theorem tv0 : tVar 0 (some v :: l) H Q = Q v H := by simp [tVar]
theorem tvs : tVar (i + 1) (o :: l) H Q = tVar i l H Q := by simp [tVar]
theorem tAug_e {te : TE} {ti : TIp} {D : Ends} {σ : L2.St} : tAug i te ti D σ H = tVar i σ H (fun x H1 => te σ H1 fun y H2 => ti x y H2 fun z H3 => D.nx (σ.set i (some z)) H3) := rfl
theorem tBool {b : Bool} {Q : Bool → Hp → Prop} : (∃ k, V.bl b = V.bl k ∧ Q k H) = Q b H := by simp
theorem exBl {b : Bool} {P : Bool → Prop} : (∃ k, V.bl b = V.bl k ∧ P k) = P b := by simp
theorem truV_bl {b : Bool} {Q : Bool → Hp → Prop} : truV K (.bl b) H Q = Q b H := rfl
theorem truV_int {b : Int} {Q : Bool → Hp → Prop} : truV K (.int b) H Q = Q (b != 0) H := rfl
theorem truV_non {Q : Bool → Hp → Prop} : truV K .non H Q = Q false H := rfl
theorem truV_lst {p : Addr} {xs : List V} {Q : Bool → Hp → Prop} (h : lstv K H p = some xs) : truV K (.ref p) H Q = Q (!xs.isEmpty) H := by
  unfold truV; simp only [sqv_l h]
theorem rInt_int {j : Int} : rInt [.int j] H Q = Q (.int j) H := rfl
theorem rAbs_int {j : Int} : rAbs [.int j] H Q = Q (.int (if j < 0 then -j else j)) H := rfl
theorem rLt_int {i j : Int} : rLtU (.int i) (.int j) H Q = Q (.bl (decide (i < j))) H := rfl
theorem rLe_int {i j : Int} : rLeU (.int i) (.int j) H Q = Q (.bl (decide (i ≤ j))) H := rfl
theorem rGt_int {i j : Int} : rGtU (.int i) (.int j) H Q = Q (.bl (decide (j < i))) H := rfl
theorem rGe_int {i j : Int} : rGeU (.int i) (.int j) H Q = Q (.bl (decide (j ≤ i))) H := rfl
theorem rMul_int {i j : Int} : rMulU (.int i) (.int j) H Q = (CM i j ∧ Q (.int (i * j)) H) := rfl
theorem rIadd_int {i j : Int} : rIaddU (.int i) (.int j) H Q = Q (.int (i + j)) H := rfl
theorem rIadd_str {i j : Str} : rIaddU (.str i) (.str j) H Q = (i.length + j.length ≤ sizeLine ∧ Q (.str (i ++ j)) H) := rfl
theorem mU_int {g : Int → V} {j : Int} : mU g (.int j) H Q = Q (g j) H := rfl
theorem rMax2_int {i j : Int} : rMax2 [.int i, .int j] H Q = Q (.int (if j > i then j else i)) H := rfl
theorem rMin2_int {i j : Int} : rMin2 [.int i, .int j] H Q = Q (.int (if j < i then j else i)) H := rfl
theorem rIsi_int {T : String} {b : Bool} {j : Int} (h : kitB "int" T = some b) : rIsiB [.int j, .ty T] H Q = Q (.bl b) H := by unfold rIsiB; simp only [tyN, h]
theorem rIsi_bl {T : String} {b : Bool} {j : Bool} (h : kitB "bool" T = some b) : rIsiB [.bl j, .ty T] H Q = Q (.bl b) H := by unfold rIsiB; simp only [tyN, h]
theorem rIsi_str {T : String} {b : Bool} {j : Str} (h : kitB "str" T = some b) : rIsiB [.str j, .ty T] H Q = Q (.bl b) H := by unfold rIsiB; simp only [tyN, h]
theorem rIsi_non {T : String} {b : Bool} (h : kitB "NoneType" T = some b) : rIsiB [.non, .ty T] H Q = Q (.bl b) H := by unfold rIsiB; simp only [tyN, h]
theorem rIsi_lst {T : String} {b : Bool} {p : Addr} {xs : List V} (hp : H p = some (.lst xs)) (h : kitB "list" T = some b) : rIsiB [.ref p, .ty T] H Q = Q (.bl b) H := by unfold rIsiB; simp only [tyN, hp, h]
theorem rIsi_tup {T : String} {b : Bool} {p : Addr} {xs : List V} (hp : H p = some (.tup xs)) (h : kitB "tuple" T = some b) : rIsiB [.ref p, .ty T] H Q = Q (.bl b) H := by unfold rIsiB; simp only [tyN, hp, h]
theorem rLen_lst {p : Addr} {xs : List V} (h : lstv K H p = some xs) : rLenU K [.ref p] H Q = Q (.int xs.length) H := by unfold rLenU; simp only [sqv_l h]
theorem rLen_tup {p : Addr} {xs : List V} (h : H p = some (.tup xs)) : rLenU K [.ref p] H Q = Q (.int xs.length) H := by unfold rLenU; simp only [sqv_t h]
theorem rLen_str {z : Str} : rLenU K [.str z] H Q = (z.length ≤ sizeLine ∧ Q (.int z.length) H) := rfl
theorem rListOf_lst {p : Addr} {xs : List V} (h : lstv K H p = some xs) : rListOf K [.ref p] H Q = Nw H (.lst xs) Q := by unfold rListOf; simp only [sqv_l h]
theorem rIx_lst {p : Addr} {xs : List V} {j : Int} (h : lstv K H p = some xs) : rIxU K (.ref p) (.int j) H Q = (match atI xs j with | some v => Q v H | none => False) := by unfold rIxU; simp only [sqv_l h]
theorem rIx_tup {p : Addr} {xs : List V} {j : Int} (h : H p = some (.tup xs)) : rIxU K (.ref p) (.int j) H Q = (match atI xs j with | some v => Q v H | none => False) := by unfold rIxU; simp only [sqv_t h]
theorem rIx_str {z : Str} {j : Int} : rIxU K (.str z) (.int j) H Q = (z.length ≤ sizeLine ∧ (match atI z.cps.toList j with | some c => Q (.str ⟨#[c]⟩) H | none => False)) := rfl
theorem rSl_lst {p : Addr} {xs : List V} {lo hi : Option Int} (h : lstv K H p = some xs) : rSlU K (.ref p) lo hi H Q = Nw H (.lst (cutV xs lo hi)) Q := by unfold rSlU; simp only [h]
theorem rSl_str {z : Str} {lo hi : Option Int} : rSlU K (.str z) lo hi H Q = (z.length ≤ sizeLine ∧ Q (.str (cutS z lo hi)) H) := rfl
theorem rApp_lst {p : Addr} {xs : List V} {y : V} (h : H p = some (.lst xs)) : rApp (.ref p) [y] H Q = (xs.length < sizeLine ∧ Q .non (upd H p (.lst (xs ++ [y])))) := by unfold rApp; simp only [h]
theorem exInt {n : Int} {P : Int → Prop} : (∃ j, [V.int n] = [V.int j] ∧ P j) = P n := by simp
theorem exInt2 {m n : Int} {P : Int → Int → Prop} : (∃ i j, [V.int m, V.int n] = [V.int i, V.int j] ∧ P i j) = P m n := propext ⟨fun ⟨_, _, h, p⟩ => by cases h; exact p, fun p => ⟨_, _, rfl, p⟩⟩
theorem tPart_e {t : TE} {σ : L2.St} {Q : Option Int → Hp → Prop} : tPart t σ H Q = t σ H fun x H1 => ∃ i, x = .int i ∧ Q (some i) H1 := rfl
theorem exIntV {n : Int} {P : Int → Prop} : (∃ j, V.int n = V.int j ∧ P j) = P n := by simp
theorem lst_nil {H : Hp} {Q : VK} : tLst tNil ([] : L2.St) H Q = (0 ≤ sizeLine ∧ Nw H (.lst []) Q) := rfl
theorem tLst_e {t : TA} {σ : L2.St} : tLst t σ H Q = t σ H fun xs H1 => xs.length ≤ sizeLine ∧ Nw H1 (.lst xs) Q := rfl
theorem tTup_e {t : TA} {σ : L2.St} : tTup t σ H Q = t σ H fun xs H1 => xs.length ≤ sizeLine ∧ Nw H1 (.tup xs) Q := rfl
end
section
variable {K : PySem.W.Frag} {H : Hp} {Q : VK} {p : Addr}
theorem rSub_int {i j : Int} : rSubI (.int i) (.int j) H Q = Q (.int (i - j)) H := rfl
theorem rFdiv_int {i j : Int} : rFdiv (.int i) (.int j) H Q = (CD i j ∧ Q (.int (i / j)) H) := rfl
theorem rMod_int {i j : Int} : rMod (.int i) (.int j) H Q = (0 < j ∧ Q (.int (i % j)) H) := rfl
theorem rShl_int {i j : Int} : rShl (.int i) (.int j) H Q = (CS i j ∧ Q (.int (i * 2 ^ j.toNat)) H) := rfl
theorem rShr_int {i j : Int} : rShr (.int i) (.int j) H Q = (0 ≤ j ∧ Q (.int (i / 2 ^ j.toNat)) H) := rfl
theorem rXor_int {i j : Int} : rXor (.int i) (.int j) H Q = Q (.int (Builtin.bitXor i j)) H := rfl
theorem rAndB_int {i j : Int} : rAndB (.int i) (.int j) H Q = Q (.int (Builtin.bitAnd i j)) H := rfl
theorem rOrB_int {i j : Int} : rOrB (.int i) (.int j) H Q = Q (.int (Builtin.bitOr i j)) H := rfl
theorem rPow_int {i j : Int} : rPow (.int i) (.int j) H Q = (CPow i j ∧ Q (.int (i ^ j.toNat)) H) := rfl
theorem sqv_e : sqv K H p = (match lstv K H p with | some xs => some xs | none => tupv K H p) := rfl
theorem rLenU_ref : rLenU K [.ref p] H Q = (match sqv K H p with | some xs => Q (.int xs.length) H | none => (match H p with | some (.dK kvs) => Q (.int kvs.length) H | _ => False)) := rfl
theorem rListOf_ref : rListOf K [.ref p] H Q = (match sqv K H p with | some ys => Nw H (.lst ys) Q | none => (match H p with | some (.dK kvs) => Nw H (.lst (kvs.map fun kv => kV kv.1)) Q | _ => False)) := rfl
theorem rIxU_ref {j : Int} : rIxU K (.ref p) (.int j) H Q = (match sqv K H p with | some xs => (match atI xs j with | some v => Q v H | none => False) | none => False) := rfl
theorem rSlU_ref {lo hi : Option Int} : rSlU K (.ref p) lo hi H Q = (match lstv K H p with | some xs => Nw H (.lst (cutV xs lo hi)) Q | none => False) := rfl
theorem rApp_ref {y : V} : rApp (.ref p) [y] H Q = (match H p with | some (.lst xs) => xs.length < sizeLine ∧ Q .non (upd H p (.lst (xs ++ [y]))) | _ => False) := rfl
theorem rAddU_ref {b : Addr} : rAddU (.ref p) (.ref b) H Q = (match H p, H b with
    | some (.lst xs), some (.lst ys) => xs.length + ys.length ≤ sizeLine ∧ Nw H (.lst (xs ++ ys)) Q
    | some (.tup xs), some (.tup ys) => xs ≠ [] ∧ xs.length + ys.length ≤ sizeLine ∧ (ys = [] → Q (.ref p) H) ∧ (ys ≠ [] → Nw H (.tup (xs ++ ys)) Q)
    | _, _ => False) := rfl
theorem truV_ref {Q : Bool → Hp → Prop} : truV K (.ref p) H Q = (match sqv K H p with | some xs => Q (!xs.isEmpty) H | none => (match H p with | some (.dK kvs) => Q (!kvs.isEmpty) H | _ => False)) := rfl
theorem rInU_ref {neg : Bool} {x : V} : rInU K neg x (.ref p) H Q = (match sqv K H p with | some xs => flatV x = true ∧ xs.all flatV = true ∧ Q (.bl (if neg then !inV x xs else inV x xs)) H | none => False) := by cases x <;> rfl
theorem rMulU_ref {k : Int} : rMulU (.ref p) (.int k) H Q = (match H p with
    | some (.lst xs) => -(2 ^ 63) ≤ k ∧ k < 2 ^ 63 ∧ xs.length * k.toNat ≤ sizeLine ∧ Nw H (.lst (List.replicate k.toNat xs).flatten) Q
    | _ => False) := rfl
theorem rIsi_ref {T : String} : rIsiB [.ref p, .ty T] H Q = (match tyN H (.ref p) with | some t => (match kitB t T with | some b => Q (.bl b) H | none => False) | none => False) := rfl
end
theorem lstv_same {K : PySem.W.Frag} {H H' : Hp} {p : Addr} {xs : List V} (s : Same H H') (h : H p = some (.lst xs)) : lstv K H' p = some xs := lstv_of (s _ _ h)
theorem sz (n : Nat) (h : n ≤ 10000000) : n ≤ sizeLine := by rw [sizeLine_eq]; omega
theorem szl (n : Nat) (h : n ≤ 10000000) : n < sizeLine := by rw [sizeLine_eq]; omega
/-- lists to be read stay where H' grows; K's own are apart from what is tracked -/
def Apart (K : PySem.W.Frag) (H : Hp) : Prop := ∀ b o, K.lookup b = some o → H b = none
theorem klst_uniq {K : PySem.W.Frag} {p : Addr} {xs : List V} (h : SqL K (fun _ => none) p xs) : klst K p = some xs := by
  unfold klst
  have he : ∃ ys, SqL K (fun _ => none) p ys := ⟨xs, h⟩
  rw [dif_pos he]
  have q := Classical.choose_spec he
  generalize Classical.choose he = ys at q
  rcases h with (h | ⟨_, h⟩) | ⟨o, its, n, h1, _, _, h4, _, h6⟩
  · cases h
  · cases h
  · rcases q with (q | ⟨_, q⟩) | ⟨o', its', n', q1, _, _, q4, _, q6⟩
    · cases q
    · cases q
    · rw [h1] at q1; cases q1
      rw [h4] at q4; cases q4
      rw [Vals.inj q6 h6]
theorem lstv_of_sq {K : PySem.W.Frag} {H : Hp} {p : Addr} {xs : List V} (ap : Apart K H) (h : SqL K H p xs) : lstv K H p = some xs := by
  rcases h with (h | ⟨_, h⟩) | ⟨o, its, n, h1, h2⟩
  · exact lstv_of h
  · exact lstv_frz h
  · unfold lstv
    rw [ap _ _ h1]
    exact klst_uniq (.inr ⟨o, its, n, h1, h2⟩)
theorem fnApart {P : Program} {w : World} {K : PySem.W.Frag} {mg : Str → Option Value} {base : Heap} {CX : CXT} {k : Nat} {f : Addr} {fd : FuncData} {ps : List Str} {sp sp' : Sp} (F : FnOk P w K mg base CX k f fd ps sp)
    (hl : ∀ vs H Q E, sp' vs H Q E → vs.length = ps.length) (h : ∀ vs H Q E, Apart K H → sp' vs H Q E → sp vs H Q E) : FnOk P w K mg base CX k f fd ps sp' :=
  ⟨hl, fun A outer s H args us vs Q E hr he hb hv hs => F.run A outer s H args us vs Q E hr he hb hv (h _ _ _ _ (fun b o e => (he.bs b o (he.mod.kin b o e)).2) hs)⟩

/-! ### lists of ints compared -/
theorem dp_ints {K : PySem.W.Frag} {H : Hp} : ∀ ns : List Int, DpAll K H (ns.map V.int) (ns.map PyData.int)
  | [] => .nil
  | n :: ns => .cons (.int n) (dp_ints ns)
theorem eqv_ints : ∀ ns ms : List Int, PyData.eqvAll (ns.map PyData.int) (ms.map PyData.int) = decide (ns = ms)
  | [], [] => rfl
  | [], _ :: _ => rfl
  | _ :: _, [] => rfl
  | n :: ns, m :: ms => by
    show ((n == m) && PyData.eqvAll (ns.map PyData.int) (ms.map PyData.int)) = _
    rw [eqv_ints ns ms]
    by_cases h : n = m <;> by_cases h2 : ns = ms <;> simp [h, h2]
theorem rEq_ints {K : PySem.W.Frag} {a b : Addr} {H : Hp} {Q : VK} {ns ms : List Int} (ha : lstv K H a = some (ns.map V.int)) (hb : lstv K H b = some (ms.map V.int)) (q : Q (.bl (decide (ns = ms))) H) : rEqU K (.ref a) (.ref b) H Q := by
  rw [rEqU_ref]
  refine ⟨.list (ns.map PyData.int), .list (ms.map PyData.int), .lst (lstv_sq ha) (dp_ints ns), .lst (lstv_sq hb) (dp_ints ms), PySem.W.ke_shaped_ints _, PySem.W.ke_shaped_ints _, ?_⟩
  show Q (.bl (PyData.eqvAll (ns.map PyData.int) (ms.map PyData.int))) H
  rw [eqv_ints]
  exact q
theorem rNe_ints {K : PySem.W.Frag} {a b : Addr} {H : Hp} {Q : VK} {ns ms : List Int} (ha : lstv K H a = some (ns.map V.int)) (hb : lstv K H b = some (ms.map V.int)) (q : Q (.bl (!decide (ns = ms))) H) : rNeU K (.ref a) (.ref b) H Q := by
  rw [rNeU_ref]
  refine ⟨.list (ns.map PyData.int), .list (ms.map PyData.int), .lst (lstv_sq ha) (dp_ints ns), .lst (lstv_sq hb) (dp_ints ms), PySem.W.ke_shaped_ints _, PySem.W.ke_shaped_ints _, ?_⟩
  show Q (.bl (!PyData.eqvAll (ns.map PyData.int) (ms.map PyData.int))) H
  rw [eqv_ints]
  exact q
/-! ### octets -/
def octs (ns : List Nat) : List V := ns.map fun (n : Nat) => V.int n
theorem octs_int (ns : List Nat) : octs ns = (ns.map fun (n : Nat) => (n : Int)).map V.int := by unfold octs; rw [List.map_map]; rfl
theorem octs_inj {ns ms : List Nat} : (ns.map fun (n : Nat) => (n : Int)) = (ms.map fun (n : Nat) => (n : Int)) ↔ ns = ms := by
  constructor
  · intro h
    exact List.map_inj_right (fun a b e => Int.ofNat.inj e) |>.mp h
  · intro h; rw [h]
theorem rEq_octs {K : PySem.W.Frag} {a b : Addr} {H : Hp} {Q : VK} {ns ms : List Nat} (ha : lstv K H a = some (octs ns)) (hb : lstv K H b = some (octs ms)) (q : Q (.bl (decide (ns = ms))) H) : rEqU K (.ref a) (.ref b) H Q := by
  rw [octs_int] at ha hb
  refine rEq_ints ha hb ?_
  rw [decide_eq_decide.mpr octs_inj]
  exact q
theorem rNe_octs {K : PySem.W.Frag} {a b : Addr} {H : Hp} {Q : VK} {ns ms : List Nat} (ha : lstv K H a = some (octs ns)) (hb : lstv K H b = some (octs ms)) (q : Q (.bl (!decide (ns = ms))) H) : rNeU K (.ref a) (.ref b) H Q := by
  rw [octs_int] at ha hb
  refine rNe_ints ha hb ?_
  rw [decide_eq_decide.mpr octs_inj]
  exact q
theorem octs_at {ns : List Nat} {i : Nat} {x : V} (h : (octs ns)[i]? = some x) : ∃ n : Nat, ns[i]? = some n ∧ x = .int n := by
  unfold octs at h
  rw [List.getElem?_map] at h
  cases e : ns[i]? with
  | none => rw [e] at h; cases h
  | some n => rw [e] at h; cases h; exact ⟨n, rfl, rfl⟩
theorem octs_len (ns : List Nat) : (octs ns).length = ns.length := by simp [octs]
theorem octs_snoc {ns : List Nat} {n : Nat} {i : Int} (h : i = n) : octs ns ++ [V.int i] = octs (ns ++ [n]) := by
  subst h; simp [octs]
theorem cs_small {i j : Int} (h1 : 0 ≤ j) (h2 : j ≤ 1000000) (h3 : i.natAbs < 2 ^ 64) : CS i j := ⟨h1, .inl ⟨h2, h3⟩⟩
theorem cm_l {i j : Int} (h1 : -(2 ^ 64) < i) (h2 : i < 2 ^ 64) : CM i j := .inl (.inl ⟨h1, h2⟩)
theorem cm_r {i j : Int} (h1 : -(2 ^ 64) < j) (h2 : j < 2 ^ 64) : CM i j := .inl (.inr ⟨h1, h2⟩)
theorem cd_small {i j : Int} (h1 : 0 < j) (h2 : j < 1073741824) : CD i j := ⟨h1, .inl h2⟩
theorem cd_wide {i j : Int} {b : Nat} (h : 0 < j) (hb : j.natAbs < 2 ^ b) (h0 : 0 < b) (h9 : b ≤ 9000) : CD i j := ⟨h, .inr (wide_div (i := i) h hb h0 h9).2⟩
theorem Same.upd {H H' : Hp} {l : Addr} {o : HO} (s : Same H H') (h : H l = none) : Same H (upd H' l o) := fun b u e => by
  rw [upd_ne (ne_of_none e h)]
  exact s _ _ e
/-! ### bits -/
theorem xor_nat (a b : Nat) : Builtin.bitXor (a : Int) (b : Int) = ((a ^^^ b : Nat) : Int) := by
  rw [PyProof.Rows.bitXor_and, PySem.W.os_band]
  have h : ∀ n : Nat, ∀ a b : Nat, a ≤ n → a + b = (a ^^^ b) + 2 * (a &&& b) := by
    intro n
    induction n with
    | zero =>
      intro a b h
      have : a = 0 := by omega
      subst this
      simp
    | succ n ih =>
      intro a b h
      by_cases ha : a = 0
      · subst ha; simp
      · have e := ih (a / 2) (b / 2) (by omega)
        have x1 : (a ^^^ b) % 2 = (a % 2 + b % 2) % 2 := by
          have := Nat.xor_mod_two_pow (a := a) (b := b) (n := 1)
          simp at this
          rw [this]
          rcases Nat.mod_two_eq_zero_or_one a with h1 | h1 <;> rcases Nat.mod_two_eq_zero_or_one b with h2 | h2 <;> rw [h1, h2] <;> decide
        have x2 : (a ^^^ b) / 2 = (a / 2) ^^^ (b / 2) := by
          have := Nat.xor_div_two_pow (a := a) (b := b) (n := 1); simpa using this
        have y1 : (a &&& b) % 2 = (a % 2) * (b % 2) := by
          have := Nat.and_mod_two_pow (a := a) (b := b) (n := 1)
          simp at this
          rw [this]
          rcases Nat.mod_two_eq_zero_or_one a with h1 | h1 <;> rcases Nat.mod_two_eq_zero_or_one b with h2 | h2 <;> rw [h1, h2] <;> decide
        have y2 : (a &&& b) / 2 = (a / 2) &&& (b / 2) := by
          have := Nat.and_div_two_pow (a := a) (b := b) (n := 1); simpa using this
        rw [← x2, ← y2] at e
        rcases Nat.mod_two_eq_zero_or_one a with h1 | h1 <;> rcases Nat.mod_two_eq_zero_or_one b with h2 | h2 <;> rw [h1, h2] at x1 y1 <;> omega
  have := h a a b (Nat.le_refl _)
  omega

/-! ### what K holds is not tracked: told at the head of each named block -/
def tAp (K : PySem.W.Frag) (t : TS) : TS := fun D σ H => Apart K H → t D σ H
theorem pssAp {X : Cx} {sts : List Stmt} {t : TS} (h : PSs X sts t) : PSs X sts (tAp X.K t) :=
  ⟨fun pins s σ H D I q => h.run pins s σ H D I (q fun b o e => (I.bs b o (I.ok.mod.kin b o e)).2)⟩
theorem tAp_e {K : PySem.W.Frag} {t : TS} {D : Ends} {σ : L2.St} {H : Hp} : tAp K t D σ H = (Apart K H → t D σ H) := rfl
theorem klst_in {K : PySem.W.Frag} {p : Addr} {xs : List V} (h : klst K p = some xs) : ∃ o, K.lookup p = some o := by
  unfold klst at h
  split at h
  · rename_i he
    rcases Classical.choose_spec he with (q | ⟨_, q⟩) | ⟨o, _, _, q, _⟩
    · cases q
    · cases q
    · exact ⟨o, q⟩
  · cases h
theorem ktup_in {K : PySem.W.Frag} {p : Addr} {xs : List V} (h : ktup K p = some xs) : ∃ o, K.lookup p = some o := by
  unfold ktup at h
  split at h
  · rename_i he
    rcases Classical.choose_spec he with (q | ⟨_, q⟩) | ⟨o, _, _, q, _⟩
    · cases q
    · cases q
    · exact ⟨o, q⟩
  · cases h
theorem lstv_mono {K : PySem.W.Frag} {H H' : Hp} {p : Addr} {xs : List V} (s : Same H H') (ap : Apart K H') (h : lstv K H p = some xs) : lstv K H' p = some xs := by
  unfold lstv at h
  split at h
  · cases h; exact lstv_of (s _ _ ‹_›)
  · cases h; exact lstv_frz (s _ _ ‹_›)
  · obtain ⟨o, q⟩ := klst_in h
    unfold lstv
    rw [ap _ _ q]
    exact h
  · cases h
theorem tupv_mono {K : PySem.W.Frag} {H H' : Hp} {p : Addr} {xs : List V} (s : Same H H') (ap : Apart K H') (h : tupv K H p = some xs) : tupv K H' p = some xs := by
  unfold tupv at h
  split at h
  · cases h; exact tupv_of (s _ _ ‹_›)
  · cases h
    unfold tupv
    rw [s _ _ ‹_›]
  · obtain ⟨o, q⟩ := ktup_in h
    unfold tupv
    rw [ap _ _ q]
    exact h
  · cases h

/-! ### the law's own promise -/
noncomputable def spLaw (K : PySem.W.Frag) : Sp := fun vs H Q _ => ∃ (a : Addr) (ns : List Int), vs = [.ref a] ∧ lstv K H a = some (ns.map V.int) ∧ ns.length ≤ 63 ∧ ∀ H', Q (.bl true) H'
def spLawS (K : PySem.W.Frag) : Sp := fun vs H Q _ => ∃ (a : Addr) (ns : List Int), vs = [.ref a] ∧ SqL K H a (ns.map V.int) ∧ ns.length ≤ 63 ∧ ∀ H', Q (.bl true) H'
theorem lawS {P : Program} {w : World} {K : PySem.W.Frag} {mg : Str → Option Value} {base : Heap} {CX : CXT} {k : Nat} {f : Addr} {fd : FuncData} {x : Str} (F : FnOk P w K mg base CX k f fd [x] (spLaw K)) : FnOk P w K mg base CX k f fd [x] (spLawS K) :=
  fnApart F (fun vs H Q E ⟨a, ns, e, _⟩ => by rw [e]; rfl) fun vs H Q E ap ⟨a, ns, e, h, z, q⟩ => ⟨a, ns, e, lstv_of_sq ap h, z, q⟩
end R

namespace Crc
def P : BitVec 32 := 79764919#32
def step (x : BitVec 32) : BitVec 32 := (x <<< 1) ^^^ (if x.msb then P else 0#32)
theorem step_xor (a b : BitVec 32) : step (a ^^^ b) = step a ^^^ step b := by
  unfold step
  rw [BitVec.shiftLeft_xor_distrib, BitVec.msb_xor]
  have key : ∀ x y p q r : BitVec 32, (r = p ^^^ q) → (x ^^^ y) ^^^ r = (x ^^^ p) ^^^ (y ^^^ q) := by
    intro x y p q r h
    subst h
    ac_rfl
  apply key
  cases a.msb <;> cases b.msb <;> decide
theorem step_zero : step 0#32 = 0#32 := by decide
theorem step_inj0 (x : BitVec 32) (h : step x = 0#32) : x = 0#32 := by
  unfold step at h
  cases hm : x.msb with
  | true =>
    rw [hm] at h
    have h0 : ((x <<< 1) ^^^ (if true = true then P else 0#32)).getLsbD 0 = false := by rw [h]; rfl
    simp [BitVec.getLsbD_xor, BitVec.getLsbD_shiftLeft] at h0
    exact absurd h0 (by decide)
  | false =>
    rw [hm] at h
    simp at h
    apply BitVec.eq_of_getLsbD_eq
    intro i hi
    by_cases h31 : i = 31
    · subst h31
      have : x.getLsbD 31 = x.msb := by simp [BitVec.msb_eq_getLsbD_last]
      rw [this, hm]; simp
    · have h2 : (x <<< 1).getLsbD (i + 1) = false := by rw [h]; simp
      rw [BitVec.getLsbD_shiftLeft] at h2
      have h3 : i + 1 < 32 := by omega
      simp [h3] at h2
      simpa using h2
def stepN : Nat → BitVec 32 → BitVec 32
  | 0, x => x
  | n + 1, x => step (stepN n x)
theorem stepN_xor (n : Nat) (a b : BitVec 32) : stepN n (a ^^^ b) = stepN n a ^^^ stepN n b := by
  induction n with
  | zero => rfl
  | succ n ih => show step _ = _; rw [ih, step_xor]; rfl
theorem stepN_succ (n : Nat) (x : BitVec 32) : stepN n (step x) = step (stepN n x) := by
  induction n with
  | zero => rfl
  | succ n ih => show step (stepN n (step x)) = _; rw [ih]; rfl
theorem stepN_inj0 (n : Nat) (x : BitVec 32) (h : stepN n x = 0#32) : x = 0#32 := by
  induction n with
  | zero => exact h
  | succ n ih => exact ih (step_inj0 _ h)
def rem (n : Nat) : BitVec 32 := if h : n = 0 then 0#32 else step (rem (n / 2) ^^^ BitVec.ofNat 32 (n % 2 * 2 ^ 31))
theorem rem_zero : rem 0 = 0#32 := by unfold rem; rfl
theorem rem_eq (n : Nat) : rem n = step (rem (n / 2) ^^^ BitVec.ofNat 32 (n % 2 * 2 ^ 31)) := by
  by_cases h : n = 0
  · subst h; rw [rem_zero]; decide
  · conv => lhs; unfold rem
    rw [dif_neg h]
theorem rem_double (n b : Nat) (hb : b < 2) : rem (2 * n + b) = step (rem n ^^^ BitVec.ofNat 32 (b * 2 ^ 31)) := by
  rw [rem_eq, show (2 * n + b) / 2 = n by omega, show (2 * n + b) % 2 = b by omega]
theorem bit_xor (a b : Nat) : BitVec.ofNat 32 ((a ^^^ b) % 2 * 2 ^ 31) = BitVec.ofNat 32 (a % 2 * 2 ^ 31) ^^^ BitVec.ofNat 32 (b % 2 * 2 ^ 31) := by
  have h : (a ^^^ b) % 2 = (a % 2) ^^^ (b % 2) := by
    have := Nat.xor_mod_two_pow (a := a) (b := b) (n := 1)
    simpa using this
  rw [h]
  rcases Nat.mod_two_eq_zero_or_one a with ha | ha <;> rcases Nat.mod_two_eq_zero_or_one b with hb | hb <;> rw [ha, hb] <;> decide
theorem rem_xor (a b : Nat) : rem (a ^^^ b) = rem a ^^^ rem b := by
  induction a using Nat.strongRecOn generalizing b with
  | ind a ih =>
    by_cases ha : a = 0
    · subst ha; rw [rem_zero]; simp
    · rw [rem_eq (a ^^^ b), rem_eq a, rem_eq b, bit_xor, show (a ^^^ b) / 2 = (a / 2) ^^^ (b / 2) from by
        have := Nat.xor_div_two_pow (a := a) (b := b) (n := 1); simpa using this, ih (a / 2) (by omega)]
      rw [← step_xor]
      congr 1
      simp only [BitVec.xor_assoc]
      congr 1
      simp only [← BitVec.xor_assoc]
      congr 1
      exact BitVec.xor_comm _ _
theorem rem_shift (b s : Nat) : rem (b * 2 ^ s) = stepN s (rem b) := by
  induction s with
  | zero => simp [stepN]
  | succ s ih =>
    rw [show b * 2 ^ (s + 1) = 2 * (b * 2 ^ s) + 0 by rw [Nat.pow_succ, ← Nat.mul_assoc]; omega, rem_double _ 0 (by omega), ih]
    simp [stepN]
/-- no top bit within k steps -/
theorem stepN_low (k m b : Nat) (hb : b < 2) (h : m + k ≤ 31) : stepN k (BitVec.ofNat 32 (b * 2 ^ m)) = BitVec.ofNat 32 (b * 2 ^ (m + k)) := by
  induction k with
  | zero => rfl
  | succ k ih =>
    show step (stepN k _) = _
    rw [ih (by omega)]
    have hlt : b * 2 ^ (m + k) < 2 ^ 31 := by
      have h1 : 2 ^ (m + k) ≤ 2 ^ 30 := Nat.pow_le_pow_right (by decide) (by omega)
      have h2 : b * 2 ^ (m + k) ≤ 1 * 2 ^ (m + k) := Nat.mul_le_mul_right _ (by omega)
      omega
    have hm : (BitVec.ofNat 32 (b * 2 ^ (m + k))).msb = false := by
      rw [BitVec.msb_eq_decide]
      simp only [BitVec.toNat_ofNat, decide_eq_false_iff_not]
      omega
    unfold step
    rw [hm]
    apply BitVec.eq_of_toNat_eq
    simp [BitVec.toNat_shiftLeft, Nat.shiftLeft_eq]
    rw [show b * 2 ^ (m + (k + 1)) = b * 2 ^ (m + k) * 2 by rw [show m + (k + 1) = (m + k) + 1 by omega, Nat.pow_succ, Nat.mul_assoc]]
theorem rem_small (k : Nat) : ∀ B : Nat, k ≤ 32 → B < 2 ^ k → rem B = stepN k (BitVec.ofNat 32 (B * 2 ^ (32 - k))) := by
  induction k with
  | zero =>
    intro B _ h
    have : B = 0 := by simpa using h
    subst this
    rw [rem_zero]; rfl
  | succ k ih =>
    intro B hk h
    have hB : B = 2 * (B / 2) + B % 2 := by omega
    have hlt : B / 2 < 2 ^ k := by rw [Nat.pow_succ] at h; omega
    rw [rem_eq, ih (B / 2) (by omega) hlt]
    have e : BitVec.ofNat 32 (B % 2 * 2 ^ 31) = stepN k (BitVec.ofNat 32 (B % 2 * 2 ^ (31 - k))) := by
      rw [stepN_low k (31 - k) (B % 2) (by omega) (by omega), show 31 - k + k = 31 by omega]
    rw [e, ← stepN_xor]
    show step _ = step _
    congr 2
    apply BitVec.eq_of_toNat_eq
    simp only [BitVec.toNat_xor, BitVec.toNat_ofNat]
    have hp : 2 ^ (32 - k) = 2 * 2 ^ (31 - k) := by rw [show 32 - k = (31 - k) + 1 by omega, Nat.pow_succ]; omega
    have hp2 : 2 ^ (32 - (k + 1)) = 2 ^ (31 - k) := by rw [show 32 - (k + 1) = 31 - k by omega]
    rw [hp2, hp]
    have h32 : B * 2 ^ (31 - k) < 2 ^ 32 := by
      have : B * 2 ^ (31 - k) < 2 ^ (k + 1) * 2 ^ (31 - k) := Nat.mul_lt_mul_of_pos_right h (Nat.pow_pos (by decide))
      rw [← Nat.pow_add, show k + 1 + (31 - k) = 32 by omega] at this
      exact this
    have ha : B / 2 * (2 * 2 ^ (31 - k)) = (B / 2 * 2) * 2 ^ (31 - k) := by rw [Nat.mul_assoc]
    have hxor : (B / 2 * 2) * 2 ^ (31 - k) ^^^ (B % 2) * 2 ^ (31 - k) = B * 2 ^ (31 - k) := by
      simp only [← Nat.shiftLeft_eq]
      rw [← Nat.shiftLeft_xor_distrib]
      congr 1
      have hb : B % 2 < 2 := by omega
      have : B / 2 * 2 ^^^ B % 2 = B / 2 * 2 + B % 2 := by
        have h1 : ∀ x c : Nat, c < 2 → x * 2 ^^^ c = x * 2 + c := by
          intro x c hc
          have e1 : (x * 2 ^^^ c) % 2 = c := by
            have := Nat.xor_mod_two_pow (a := x * 2) (b := c) (n := 1)
            simp at this
            rw [this]; omega
          have e2 : (x * 2 ^^^ c) / 2 = x := by
            have := Nat.xor_div_two_pow (a := x * 2) (b := c) (n := 1)
            simp at this
            rw [this, show c / 2 = 0 by omega]; simp
          omega
        exact h1 _ _ hb
      rw [this]; omega
    rw [ha, Nat.mod_eq_of_lt (a := B * 2 ^ (31 - k)) h32, ← hxor]
    rw [Nat.mod_eq_of_lt, Nat.mod_eq_of_lt]
    · refine Nat.lt_of_le_of_lt (Nat.mul_le_mul_right _ ?_) h32; omega
    · refine Nat.lt_of_le_of_lt (Nat.mul_le_mul_right _ ?_) h32; omega
theorem rem_burst (B s : Nat) (hB : B < 2 ^ 32) (h : rem (B * 2 ^ s) = 0#32) : B = 0 := by
  rw [rem_shift] at h
  have h1 := stepN_inj0 _ _ h
  rw [rem_small 32 B (Nat.le_refl _) hB] at h1
  have h2 := stepN_inj0 _ _ h1
  have h3 := congrArg BitVec.toNat h2
  simp at h3
  omega

/-! octets -/
def value (l : List Nat) : Nat := l.foldl (fun w o => w * 256 + o) 0
def crc (l : List Nat) : BitVec 32 := l.foldl (fun x o => stepN 8 (x ^^^ BitVec.ofNat 32 (o * 2 ^ 24))) 0#32
def digs (n W : Nat) : List Nat := (List.range n).map fun k => W / 2 ^ (8 * (n - 1 - k)) % 256
theorem mul_add_xor (W o : Nat) (ho : o < 256) : W * 256 + o = (W * 2 ^ 8) ^^^ o := by
  have e1 : (W * 2 ^ 8 ^^^ o) % 2 ^ 8 = o := by
    rw [Nat.xor_mod_two_pow, Nat.mul_mod_left, Nat.zero_xor, Nat.mod_eq_of_lt ho]
  have e2 : (W * 2 ^ 8 ^^^ o) / 2 ^ 8 = W := by
    rw [Nat.xor_div_two_pow, Nat.mul_div_cancel _ (by decide), Nat.div_eq_of_lt ho, Nat.xor_zero]
  omega
theorem rem_octet (W o : Nat) (ho : o < 256) : stepN 8 (rem W ^^^ BitVec.ofNat 32 (o * 2 ^ 24)) = rem (W * 256 + o) := by
  rw [mul_add_xor W o ho, rem_xor, rem_shift, stepN_xor, rem_small 8 o (by decide) (by omega)]
theorem crc_go : ∀ (l : List Nat) (W : Nat), (∀ o ∈ l, o < 256) → l.foldl (fun x o => stepN 8 (x ^^^ BitVec.ofNat 32 (o * 2 ^ 24))) (rem W) = rem (l.foldl (fun w o => w * 256 + o) W)
  | [], _, _ => rfl
  | o :: l, W, h => by
    rw [List.foldl_cons, List.foldl_cons, rem_octet W o (h o List.mem_cons_self)]
    exact crc_go l _ fun x hx => h x (List.mem_cons_of_mem _ hx)
theorem crc_rem (l : List Nat) (h : ∀ o ∈ l, o < 256) : crc l = rem (value l) := by
  have := crc_go l 0 h
  rw [rem_zero] at this
  exact this
theorem value_go : ∀ (l : List Nat) (W : Nat), (∀ o ∈ l, o < 256) → l.foldl (fun w o => w * 256 + o) W = W * 2 ^ (8 * l.length) + value l ∧ value l < 2 ^ (8 * l.length)
  | [], W, _ => by simp [value]
  | o :: l, W, h => by
    have ho := h o List.mem_cons_self
    have hl : ∀ x ∈ l, x < 256 := fun x hx => h x (List.mem_cons_of_mem _ hx)
    obtain ⟨e1, b1⟩ := value_go l (W * 256 + o) hl
    obtain ⟨e2, _⟩ := value_go l o hl
    have ev : value (o :: l) = o * 2 ^ (8 * l.length) + value l := by
      show l.foldl (fun w o => w * 256 + o) (0 * 256 + o) = _
      rw [Nat.zero_mul, Nat.zero_add, e2]
    have hp : 2 ^ (8 * (o :: l).length) = 256 * 2 ^ (8 * l.length) := by
      rw [List.length_cons, show 8 * (l.length + 1) = 8 + 8 * l.length by omega, Nat.pow_add]
    rw [List.foldl_cons, e1, ev, hp]
    refine ⟨?_, ?_⟩
    · rw [Nat.add_mul, Nat.mul_assoc, Nat.add_assoc]
    · have : o * 2 ^ (8 * l.length) ≤ 255 * 2 ^ (8 * l.length) := Nat.mul_le_mul_right _ (by omega)
      omega
theorem value_lt (l : List Nat) (h : ∀ o ∈ l, o < 256) : value l < 2 ^ (8 * l.length) := (value_go l 0 h).2
theorem value_cons (o : Nat) (l : List Nat) (h : ∀ x ∈ l, x < 256) : value (o :: l) = o * 2 ^ (8 * l.length) + value l := by
  show l.foldl (fun w o => w * 256 + o) (0 * 256 + o) = _
  rw [Nat.zero_mul, Nat.zero_add, (value_go l o h).1]
theorem digs_succ (n W : Nat) : digs (n + 1) W = W / 2 ^ (8 * n) % 256 :: digs n W := by
  unfold digs
  rw [List.range_succ_eq_map, List.map_cons, List.map_map]
  congr 1
  apply List.map_congr_left
  intro k hk
  have hk := List.mem_range.mp hk
  show W / 2 ^ (8 * (n + 1 - 1 - (k + 1))) % 256 = _
  rw [show n + 1 - 1 - (k + 1) = n - 1 - k by omega]
theorem digs_lt (n W : Nat) : ∀ o ∈ digs n W, o < 256 := by
  intro o ho
  obtain ⟨k, _, rfl⟩ := List.mem_map.mp ho
  exact Nat.mod_lt _ (by decide)
theorem digs_len (n W : Nat) : (digs n W).length = n := by unfold digs; simp
theorem digs_mod (n : Nat) : ∀ W : Nat, value (digs n W) = W % 2 ^ (8 * n) := by
  induction n with
  | zero => intro W; simp [digs, value, Nat.mod_one]
  | succ n ih =>
    intro W
    rw [digs_succ, value_cons _ _ (digs_lt n W), digs_len, ih]
    rw [show 8 * (n + 1) = 8 * n + 8 by omega, Nat.pow_add, Nat.mod_mul]
    rw [Nat.mul_comm, Nat.add_comm]
theorem digs_value : ∀ (l : List Nat), (∀ o ∈ l, o < 256) → digs l.length (value l) = l
  | [], _ => rfl
  | o :: l, h => by
    have ho := h o List.mem_cons_self
    have hl : ∀ x ∈ l, x < 256 := fun x hx => h x (List.mem_cons_of_mem _ hx)
    rw [List.length_cons, digs_succ, value_cons o l hl]
    have hv := value_lt l hl
    congr 1
    · rw [Nat.add_comm, Nat.add_mul_div_right _ _ (Nat.pow_pos (by decide)), Nat.div_eq_of_lt hv, Nat.zero_add, Nat.mod_eq_of_lt ho]
    · conv => rhs; rw [← digs_value l hl]
      unfold digs
      apply List.map_congr_left
      intro k hk
      have hk := List.mem_range.mp hk
      have hd : 2 ^ (8 * l.length) = 2 ^ (8 * (l.length - 1 - k)) * (256 * 2 ^ (8 * k)) := by
        rw [show (256 : Nat) = 2 ^ 8 from rfl, ← Nat.pow_add, ← Nat.pow_add]; congr 1; omega
      rw [hd, Nat.mul_left_comm, Nat.mul_add_div (Nat.pow_pos (by decide)), Nat.mul_left_comm, Nat.mul_add_mod]
theorem law_math (l : List Nat) (h : ∀ o ∈ l, o < 256) (burst shift : Nat) (hb : burst < 2 ^ 32) (hs : shift ≤ 8 * l.length) :
    (crc (digs l.length (value l ^^^ (burst * 2 ^ shift) % 2 ^ (8 * l.length))) = crc l ↔ digs l.length (value l ^^^ (burst * 2 ^ shift) % 2 ^ (8 * l.length)) = l) := by
  generalize hE : (burst * 2 ^ shift) % 2 ^ (8 * l.length) = E
  have hEl : E < 2 ^ (8 * l.length) := by rw [← hE]; exact Nat.mod_lt _ (Nat.pow_pos (by decide))
  have hC : value l ^^^ E < 2 ^ (8 * l.length) := Nat.xor_lt_two_pow (value_lt l h) hEl
  constructor
  · intro e
    rw [crc_rem _ (digs_lt _ _), crc_rem _ h, digs_mod, Nat.mod_eq_of_lt hC, rem_xor] at e
    have e2 : rem E = 0#32 := by
      have h3 : rem (value l) ^^^ (rem (value l) ^^^ rem E) = rem (value l) ^^^ rem (value l) := by rw [e]
      rw [← BitVec.xor_assoc, BitVec.xor_self, BitVec.zero_xor] at h3
      exact h3
    have hp : 2 ^ (8 * l.length) = 2 ^ shift * 2 ^ (8 * l.length - shift) := by rw [← Nat.pow_add]; congr 1; omega
    have hE2 : E = (burst % 2 ^ (8 * l.length - shift)) * 2 ^ shift := by
      rw [← hE, hp, Nat.mul_comm burst, Nat.mul_mod_mul_left, Nat.mul_comm]
    rw [hE2] at e2
    have h0 := rem_burst _ _ (Nat.lt_of_le_of_lt (Nat.mod_le _ _) hb) e2
    rw [h0, Nat.zero_mul] at hE2
    rw [hE2, Nat.xor_zero]
    exact digs_value l h
  · intro e; rw [e]
end Crc

namespace My
open PySem PySem.Spec PyProof.Rows L2 R
/-! ### the text by places -/
def top (i : Nat) : Stmt := PySem.Challenge.pw_formstripes_k35_sums_of_octets.main.body.getD i (.Pass ⟨0, 0, 0, 0⟩)
abbrev s_sum_of : Stmt := top 4
abbrev N_sum_of : List Str := ["octets", "total", "octet", "_", "is_out"]
theorem sc_sum_of : FnScope N_sum_of ["octets"] (defScope s_sum_of) := ⟨rfl, rfl, rfl, by decide +kernel, rfl, by decide +kernel, by decide +kernel⟩
abbrev s__law_cell : Stmt := top 6
abbrev N__law_cell : List Str := ["script", "k"]
theorem sc__law_cell : FnScope N__law_cell ["script", "k"] (defScope s__law_cell) := ⟨rfl, rfl, rfl, by decide +kernel, rfl, by decide +kernel, by decide +kernel⟩
abbrev s__law_row : Stmt := top 7
abbrev N__law_row : List Str := ["cell", "count", "bound", "rest", "mixed", "row", "k"]
theorem sc__law_row : FnScope N__law_row ["cell", "count", "bound"] (defScope s__law_row) := ⟨rfl, rfl, rfl, by decide +kernel, rfl, by decide +kernel, by decide +kernel⟩
abbrev s__law_integer : Stmt := top 8
abbrev N__law_integer : List Str := ["value"]
theorem sc__law_integer : FnScope N__law_integer ["value"] (defScope s__law_integer) := ⟨rfl, rfl, rfl, by decide +kernel, rfl, by decide +kernel, by decide +kernel⟩
abbrev s__law_sum : Stmt := top 10
abbrev N__law_sum : List Str := ["octets", "total", "octet", "k"]
theorem sc__law_sum : FnScope N__law_sum ["octets"] (defScope s__law_sum) := ⟨rfl, rfl, rfl, by decide +kernel, rfl, by decide +kernel, by decide +kernel⟩
abbrev s_law : Stmt := top 12
abbrev N_law : List Str := ["script", "first", "octets", "given", "told", "burst", "at", "whole", "octet", "size", "shift", "changed", "others", "due", "again", "k"]
theorem sc_law : FnScope N_law ["script"] (defScope s_law) := ⟨rfl, rfl, rfl, by decide +kernel, rfl, by decide +kernel, by decide +kernel⟩
structure Top (mg : Str → Option Value) : Prop where
  n_abs : mg "abs" = none
  n_bool : mg "bool" = none
  n_int : mg "int" = none
  n_isinstance : mg "isinstance" = none
  n_len : mg "len" = none
  n_list : mg "list" = none
  n_max : mg "max" = none
  n_range : mg "range" = none
  c_ALL_BITS : Cst mg "ALL_BITS" (.int 4294967295)
  c_POLYNOMIAL : Cst mg "POLYNOMIAL" (.int 79764919)
  c_TOP : Cst mg "TOP" (.int 2147483648)
/-! ### promises -/
noncomputable def sp_sum_of (K : PySem.W.Frag) : Sp := fun vs H Q _ => ∃ (a : Addr) (ns : List Nat), vs = [.ref a] ∧ lstv K H a = some (octs ns) ∧ (∀ n ∈ ns, n < 256) ∧ Q (.int (Crc.crc ns).toNat) H
noncomputable abbrev sp__law_sum := sp_sum_of
noncomputable def sp__law_cell (K : PySem.W.Frag) : Sp := fun vs H Q _ => ∃ (a : Addr) (ns : List Int) (k : Int), vs = [.ref a, .int k] ∧ 0 ≤ k ∧ ns.length ≤ 63 ∧ lstv K H a = some (ns.map V.int) ∧ ∀ i, Q (.int i) H
def sp__law_row (_ : PySem.W.Frag) : Sp := fun vs H Q _ => ∃ (cell count : Int), vs = [.int cell, .int count, .int 256] ∧ 0 ≤ count ∧ count ≤ 60 ∧
  ∀ p H' (ns : List Nat), ns.length = count.toNat → (∀ n ∈ ns, n < 256) → Same H H' → H' p = some (.lst (octs ns)) → Q (.ref p) H'
def sp__law_integer (_ : PySem.W.Frag) : Sp := fun vs H Q _ => ∃ i, vs = [.int i] ∧ Q (.bl true) H
noncomputable abbrev sp_law := spLaw

noncomputable def t_sum_of_1 (K : PySem.W.Frag) : TS := tAp K (tSeq (tAsg (tOp rGeU (tVar 1) (tC (.int 2147483648))) (gName 4))
    (tSeq (tAsg (tOp rAndB (tOp rShl (tVar 1) (tC (.int 1))) (tC (.int 4294967295))) (gName 1))
    (tIfS (tTr K (tVar 4)) (tAug 1 (tC (.int 79764919)) rXor) tNext)))
noncomputable def t_sum_of_2 (K : PySem.W.Frag) : TS := tAp K (tSeq (tAug 1 (tOp rShl (tVar 2) (tC (.int 24))) rXor)
    (tForU (iRng1 (tCons (tC (.int 8)) tNil)) (gName 3) (t_sum_of_1 K)))
noncomputable def t_sum_of_3 (K : PySem.W.Frag) : TS := tAp K (tRet (tVar 1))
noncomputable def t_sum_of (K : PySem.W.Frag) : TS := (tSeq (tAsg (tC (.int 0)) (gName 1))
    (tSeq (tForU (iLst K (tVar 0)) (gName 2) (t_sum_of_2 K))
    (t_sum_of_3 K)))
theorem dv_sum_of {P : Program} {w : World} {K : PySem.W.Frag} {mg : Str → Option Value} {base : Heap} {f : Addr} {cdv : Value} {A : Around} {outer : List Env} {s : Shared} {H : Hp} {E : XK} (T : Top mg) (hr : Room 0 (A.deeper (envOfC "sum_of" (defScope s_sum_of) s.heap.objs.size f cdv))) :
    PSs (cxOf CX0 P w K mg base N_sum_of "sum_of" (defScope s_sum_of) f cdv A outer s H E).nox (defBody s_sum_of) (t_sum_of K) :=
  (pss_cons (ps_set (i := 1) sc_sum_of.nd rfl (Or.inl rfl) pe_int)
    (pss_cons (ps_for PassesOwn.never rfl (pi_lst (pv 0)) (pg_name (i := 2) sc_sum_of.nd rfl (Or.inl rfl)) (pssAp (pss_cons (ps_aug (i := 1) sc_sum_of.nd rfl (Or.inl rfl) (pe_op u_shl (pv 2) pe_int) i_xor)
    (pss_one (ps_for PassesOwn.never rfl (pi_range1 rfl T.n_range (pa_cons pe_int pa_nil)) (pg_name (i := 3) sc_sum_of.nd rfl (Or.inl rfl)) (pssAp (pss_cons (ps_set (i := 4) sc_sum_of.nd rfl (Or.inl rfl) (pe_cmpR u_ge (pv 1) (pe_cst T.c_TOP rfl) rfl))
    (pss_cons (ps_set (i := 1) sc_sum_of.nd rfl (Or.inl rfl) (pe_op u_and (pe_op u_shl (pv 1) pe_int) (pe_cst T.c_ALL_BITS rfl)))
    (pss_one (ps_if (pt_tr (pv 4)) (pss_one (ps_aug (i := 1) sc_sum_of.nd rfl (Or.inl rfl) (pe_cst T.c_POLYNOMIAL rfl) i_xor)) pss_nil))))))))))
    (pssAp (pss_one (ps_ret (pv 1))))))
noncomputable def t__law_cell_1 (K : PySem.W.Frag) : TS := tAp K (tRet (tC (.int 0)))
noncomputable def t__law_cell (K : PySem.W.Frag) : TS := (tSeq (tIfS (tTest (tOp rLtU (tVar 1) (tCB (rLenU K) (tCons (tVar 0) tNil)))) (tRet (tCB rInt (tCons (tOp (rIxU K) (tVar 0) (tVar 1)) tNil))) tNext)
    (t__law_cell_1 K))
theorem dv__law_cell {P : Program} {w : World} {K : PySem.W.Frag} {mg : Str → Option Value} {base : Heap} {f : Addr} {cdv : Value} {A : Around} {outer : List Env} {s : Shared} {H : Hp} {E : XK} (T : Top mg) (hr : Room 0 (A.deeper (envOfC "_law_cell" (defScope s__law_cell) s.heap.objs.size f cdv))) :
    PSs (cxOf CX0 P w K mg base N__law_cell "_law_cell" (defScope s__law_cell) f cdv A outer s H E).nox (defBody s__law_cell) (t__law_cell K) :=
  (pss_cons (ps_if (pt_cmpR u_lt (pv 1) (pe_callB c_len rfl T.n_len bt_len (pa_cons (pv 0) pa_nil)) rfl) (pss_one (ps_ret (pe_callTy c_int rfl T.n_int bt_int (pa_cons (pe_ix u_ix (pv 0) (pv 1) (fun _ _ => rfl)) pa_nil)))) pss_nil)
    (pssAp (pss_one (ps_ret pe_int))))
noncomputable def t__law_row_1 (K : PySem.W.Frag) : TS := tAp K (tSeq (tDrop (tML K rApp (tVar 5) (tCons (tOp rMod (tCB rInt (tCons (tVar 3) tNil)) (tVar 2)) tNil)))
    (tAsg (tOp rFdiv (tVar 3) (tVar 2)) (gName 3)))
noncomputable def t__law_row_2 (K : PySem.W.Frag) : TS := tAp K (tSeq (tAsg (tOp rMod (tCB rInt (tCons (tOp rAddU (tOp rAddU (tOp rMulU (tVar 4) (tC (.int 48271))) (tOp rMulU (tC (.int 11)) (tVar 6))) (tC (.int 7))) tNil)) (tC (.int 2147483647))) (gName 4))
    (tDrop (tML K rApp (tVar 5) (tCons (tOp rMod (tCB rInt (tCons (tOp rFdiv (tOp rMulU (tVar 4) (tC (.int 2862933555777941757))) (tC (.int 1024))) tNil)) (tVar 2)) tNil))))
noncomputable def t__law_row_3 (K : PySem.W.Frag) : TS := tAp K (tIfS (tTest (tOp rGeU (tVar 3) (tVar 2))) (t__law_row_1 K) (t__law_row_2 K))
noncomputable def t__law_row_4 (K : PySem.W.Frag) : TS := tAp K (tRet (tVar 5))
noncomputable def t__law_row (K : PySem.W.Frag) : TS := (tSeq (tAsg (tCB rAbs (tCons (tCB rInt (tCons (tVar 0) tNil)) tNil)) (gName 3))
    (tSeq (tAsg (tOp rAddU (tOp rMod (tCB rInt (tCons (tVar 0) tNil)) (tC (.int 1000003))) (tC (.int 1))) (gName 4))
    (tSeq (tAsg (tLst tNil) (gName 5))
    (tSeq (tForU (iRng1 (tCons (tVar 1) tNil)) (gName 6) (t__law_row_3 K))
    (t__law_row_4 K)))))
theorem dv__law_row {P : Program} {w : World} {K : PySem.W.Frag} {mg : Str → Option Value} {base : Heap} {f : Addr} {cdv : Value} {A : Around} {outer : List Env} {s : Shared} {H : Hp} {E : XK} (T : Top mg) (hr : Room 0 (A.deeper (envOfC "_law_row" (defScope s__law_row) s.heap.objs.size f cdv))) :
    PSs (cxOf CX0 P w K mg base N__law_row "_law_row" (defScope s__law_row) f cdv A outer s H E).nox (defBody s__law_row) (t__law_row K) :=
  (pss_cons (ps_set (i := 3) sc__law_row.nd rfl (Or.inl rfl) (pe_callB c_abs rfl T.n_abs bt_abs (pa_cons (pe_callTy c_int rfl T.n_int bt_int (pa_cons (pv 0) pa_nil)) pa_nil)))
    (pss_cons (ps_set (i := 4) sc__law_row.nd rfl (Or.inl rfl) (pe_op u_add (pe_op u_mod (pe_callTy c_int rfl T.n_int bt_int (pa_cons (pv 0) pa_nil)) pe_int) pe_int))
    (pss_cons (ps_set (i := 5) sc__law_row.nd rfl (Or.inl rfl) (pe_lst pa_nil))
    (pss_cons (ps_for PassesOwn.never rfl (pi_range1 rfl T.n_range (pa_cons (pv 1) pa_nil)) (pg_name (i := 6) sc__law_row.nd rfl (Or.inl rfl)) (pssAp (pss_one (ps_if (pt_cmpR u_ge (pv 3) (pv 2) rfl) (pssAp (pss_cons (ps_expr (pe_append (pv 5) (pa_cons (pe_op u_mod (pe_callTy c_int rfl T.n_int bt_int (pa_cons (pv 3) pa_nil)) (pv 2)) pa_nil)))
    (pss_one (ps_set (i := 3) sc__law_row.nd rfl (Or.inl rfl) (pe_op u_fdiv (pv 3) (pv 2)))))) (pssAp (pss_cons (ps_set (i := 4) sc__law_row.nd rfl (Or.inl rfl) (pe_op u_mod (pe_callTy c_int rfl T.n_int bt_int (pa_cons (pe_op u_add (pe_op u_add (pe_op u_mul (pv 4) pe_int) (pe_op u_mul pe_int (pv 6))) pe_int) pa_nil)) pe_int))
    (pss_one (ps_expr (pe_append (pv 5) (pa_cons (pe_op u_mod (pe_callTy c_int rfl T.n_int bt_int (pa_cons (pe_op u_fdiv (pe_op u_mul (pv 4) pe_int) pe_int) pa_nil)) (pv 2)) pa_nil))))))))))
    (pssAp (pss_one (ps_ret (pv 5))))))))
noncomputable def t__law_integer (K : PySem.W.Frag) : TS := (tRet (tAndV (tCB rIsiB (tCons (tVar 0) (tCons (tC (.ty "int")) tNil))) (tNotU K (tCB rIsiB (tCons (tVar 0) (tCons (tC (.ty "bool")) tNil))))))
theorem dv__law_integer {P : Program} {w : World} {K : PySem.W.Frag} {mg : Str → Option Value} {base : Heap} {f : Addr} {cdv : Value} {A : Around} {outer : List Env} {s : Shared} {H : Hp} {E : XK} (T : Top mg) (hr : Room 0 (A.deeper (envOfC "_law_integer" (defScope s__law_integer) s.heap.objs.size f cdv))) :
    PSs (cxOf CX0 P w K mg base N__law_integer "_law_integer" (defScope s__law_integer) f cdv A outer s H E).nox (defBody s__law_integer) (t__law_integer K) :=
  (pss_one (ps_ret (pe_and (pe_callB c_isi rfl T.n_isinstance bt_isinstance (pa_cons (pv 0) (pa_cons (pe_bltn (v := .ty "int") rfl T.n_int bt_int rfl) pa_nil))) (pe_one (pe_notU (pe_callB c_isi rfl T.n_isinstance bt_isinstance (pa_cons (pv 0) (pa_cons (pe_bltn (v := .ty "bool") rfl T.n_bool bt_bool rfl) pa_nil))))))))
noncomputable def t__law_sum_1 (K : PySem.W.Frag) : TS := tAp K (tSeq (tAsg (tOp rMulU (tVar 1) (tC (.int 2))) (gName 1))
    (tIfS (tTest (tOp rGeU (tVar 1) (tC (.int 4294967296)))) (tAsg (tOp rXor (tOp rSubI (tVar 1) (tC (.int 4294967296))) (tC (.int 79764919))) (gName 1)) tNext))
noncomputable def t__law_sum_2 (K : PySem.W.Frag) : TS := tAp K (tSeq (tAsg (tOp rXor (tVar 1) (tOp rShl (tVar 2) (tC (.int 24)))) (gName 1))
    (tForU (iRng1 (tCons (tC (.int 8)) tNil)) (gName 3) (t__law_sum_1 K)))
noncomputable def t__law_sum_3 (K : PySem.W.Frag) : TS := tAp K (tRet (tVar 1))
noncomputable def t__law_sum (K : PySem.W.Frag) : TS := (tSeq (tAsg (tC (.int 0)) (gName 1))
    (tSeq (tForU (iLst K (tVar 0)) (gName 2) (t__law_sum_2 K))
    (t__law_sum_3 K)))
theorem dv__law_sum {P : Program} {w : World} {K : PySem.W.Frag} {mg : Str → Option Value} {base : Heap} {f : Addr} {cdv : Value} {A : Around} {outer : List Env} {s : Shared} {H : Hp} {E : XK} (T : Top mg) (hr : Room 0 (A.deeper (envOfC "_law_sum" (defScope s__law_sum) s.heap.objs.size f cdv))) :
    PSs (cxOf CX0 P w K mg base N__law_sum "_law_sum" (defScope s__law_sum) f cdv A outer s H E).nox (defBody s__law_sum) (t__law_sum K) :=
  (pss_cons (ps_set (i := 1) sc__law_sum.nd rfl (Or.inl rfl) pe_int)
    (pss_cons (ps_for PassesOwn.never rfl (pi_lst (pv 0)) (pg_name (i := 2) sc__law_sum.nd rfl (Or.inl rfl)) (pssAp (pss_cons (ps_set (i := 1) sc__law_sum.nd rfl (Or.inl rfl) (pe_op u_xor (pv 1) (pe_op u_shl (pv 2) pe_int)))
    (pss_one (ps_for PassesOwn.never rfl (pi_range1 rfl T.n_range (pa_cons pe_int pa_nil)) (pg_name (i := 3) sc__law_sum.nd rfl (Or.inl rfl)) (pssAp (pss_cons (ps_set (i := 1) sc__law_sum.nd rfl (Or.inl rfl) (pe_op u_mul (pv 1) pe_int))
    (pss_one (ps_if (pt_cmpR u_ge (pv 1) pe_int rfl) (pss_one (ps_set (i := 1) sc__law_sum.nd rfl (Or.inl rfl) (pe_op u_xor (pe_op u_sub (pv 1) pe_int) pe_int))) pss_nil)))))))))
    (pssAp (pss_one (ps_ret (pv 1))))))
noncomputable def t_law_1 (K : PySem.W.Frag) : TS := tAp K (tAsg (tOp rAddU (tOp rMulU (tVar 7) (tC (.int 256))) (tVar 8)) (gName 7))
noncomputable def t_law_2 (K : PySem.W.Frag) : TS := tAp K (tSeq (tAsg (tUn (mU fun i => .int (Builtin.Int.intBits i : Nat)) (tVar 5)) (gName 9))
    (tSeq (tAsg (tCB rMax2 (tCons (tC (.int 0)) (tCons (tOp rSubI (tOp rSubI (tOp rMulU (tC (.int 8)) (tCB (rLenU K) (tCons (tVar 2) tNil))) (tVar 6)) (tVar 9)) tNil))) (gName 10))
    (tSeq (tAsg (tOp rXor (tVar 7) (tOp rMod (tOp rShl (tVar 5) (tVar 10)) (tOp rShl (tC (.int 1)) (tOp rMulU (tC (.int 8)) (tCB (rLenU K) (tCons (tVar 2) tNil)))))) (gName 11))
    (tSeq (tAsg (tLcU (iRng1 (tCons (tCB (rLenU K) (tCons (tVar 2) tNil)) tNil)) (gName 15) tYes (tOp rMod (tOp rFdiv (tVar 11) (tOp rShl (tC (.int 1)) (tOp rMulU (tC (.int 8)) (tOp rSubI (tOp rSubI (tCB (rLenU K) (tCons (tVar 2) tNil)) (tC (.int 1))) (tVar 15))))) (tC (.int 256))) [15]) (gName 12))
    (tSeq (tAsg (tCall (sp__law_sum K) [] E0 (tCons (tVar 12) tNil)) (gName 13))
    (tSeq (tAsg (tCall (sp_sum_of K) [] E0 (tCons (tCB (rListOf K) (tCons (tVar 12) tNil)) tNil)) (gName 14))
    (tRet (tAndV (tOp (rEqU K) (tVar 14) (tVar 13)) (tOp (rEqU K) (tOp (rEqU K) (tVar 14) (tVar 4)) (tOp (rEqU K) (tVar 12) (tVar 2)))))))))))
noncomputable def t_law_3 (K : PySem.W.Frag) : TS := tAp K (tSeq (tAsg (tOp rAddU (tC (.int 1)) (tOp rMod (tCall (sp__law_cell K) [] E0 (tCons (tVar 0) (tCons (tC (.int 2)) tNil))) (tC (.int 4294967295)))) (gName 5))
    (tSeq (tAsg (tOp rMod (tCall (sp__law_cell K) [] E0 (tCons (tVar 0) (tCons (tC (.int 3)) tNil))) (tOp rMulU (tC (.int 8)) (tCB (rLenU K) (tCons (tVar 2) tNil)))) (gName 6))
    (tSeq (tAsg (tC (.int 0)) (gName 7))
    (tSeq (tForU (iLst K (tVar 2)) (gName 8) (t_law_1 K))
    (t_law_2 K)))))
noncomputable def t_law_4 (K : PySem.W.Frag) : TS := tAp K (tSeq (tIfS (tTest (tOp (rEqU K) (tVar 2) (tLst tNil))) (tRet (tOp (rEqU K) (tVar 4) (tC (.int 0)))) tNext)
    (t_law_3 K))
noncomputable def t_law (K : PySem.W.Frag) : TS := (tSeq (tAsg (tCall (sp__law_cell K) [] E0 (tCons (tVar 0) (tCons (tC (.int 0)) tNil))) (gName 1))
    (tSeq (tAsg (tCall (sp__law_row K) [] E0 (tCons (tCall (sp__law_cell K) [] E0 (tCons (tVar 0) (tCons (tC (.int 1)) tNil))) (tCons (tOp rMod (tVar 1) (tC (.int 61))) (tCons (tC (.int 256)) tNil)))) (gName 2))
    (tSeq (tAsg (tCB (rListOf K) (tCons (tVar 2) tNil)) (gName 3))
    (tSeq (tAsg (tCall (sp_sum_of K) [] E0 (tCons (tVar 3) tNil)) (gName 4))
    (tSeq (tIfS (tOr (tNot (tTr K (tCall (sp__law_integer K) [] E0 (tCons (tVar 4) tNil)))) (tOr (tTest (tOp (rNeU K) (tVar 4) (tCall (sp__law_sum K) [] E0 (tCons (tVar 2) tNil)))) (tTest (tOp (rNeU K) (tVar 3) (tVar 2))))) (tRet (tC (.bl false))) tNext)
    (t_law_4 K))))))
theorem dv_law {P : Program} {w : World} {K : PySem.W.Frag} {mg : Str → Option Value} {base : Heap} {f : Addr} {cdv : Value} {A : Around} {outer : List Env} {s : Shared} {H : Hp} {E : XK} (T : Top mg) (F__law_cell : FnE P w K mg base CX0 "_law_cell" 1 ["script", "k"] (sp__law_cell K)) (F__law_integer : FnE P w K mg base CX0 "_law_integer" 1 ["value"] (sp__law_integer K)) (F__law_row : FnE P w K mg base CX0 "_law_row" 1 ["cell", "count", "bound"] (sp__law_row K)) (F__law_sum : FnE P w K mg base CX0 "_law_sum" 1 ["octets"] (sp__law_sum K)) (F_sum_of : FnE P w K mg base CX0 "sum_of" 1 ["octets"] (sp_sum_of K)) (hr : Room 1 (A.deeper (envOfC "law" (defScope s_law) s.heap.objs.size f cdv))) :
    PSs (cxOf CX0 P w K mg base N_law "law" (defScope s_law) f cdv A outer s H E).nox (defBody s_law) (t_law K) :=
  (pss_cons (ps_set (i := 1) sc_law.nd rfl (Or.inl rfl) (pe_fn F__law_cell (hr.mono (by decide)) rfl pass0 (pa_cons (pv 0) (pa_cons pe_int pa_nil))))
    (pss_cons (ps_set (i := 2) sc_law.nd rfl (Or.inr rfl) (pe_fn F__law_row (hr.mono (by decide)) rfl pass0 (pa_cons (pe_fn F__law_cell (hr.mono (by decide)) rfl pass0 (pa_cons (pv 0) (pa_cons pe_int pa_nil))) (pa_cons (pe_op u_mod (pv 1) pe_int) (pa_cons pe_int pa_nil)))))
    (pss_cons (ps_set (i := 3) sc_law.nd rfl (Or.inl rfl) (pe_callTy (c_list rfl) rfl T.n_list bt_list (pa_cons (pv 2) pa_nil)))
    (pss_cons (ps_set (i := 4) sc_law.nd rfl (Or.inl rfl) (pe_fn F_sum_of (hr.mono (by decide)) rfl pass0 (pa_cons (pv 3) pa_nil)))
    (pss_cons (ps_if (PW.pt (pw_or (pt_not (pt_tr (pe_fn F__law_integer (hr.mono (by decide)) rfl pass0 (pa_cons (pv 4) pa_nil)))) (pw_or (pt_cmpR (u_ne hr.units) (pv 4) (pe_fn F__law_sum (hr.mono (by decide)) rfl pass0 (pa_cons (pv 2) pa_nil)) rfl) (pw_or1 (pt_cmpR (u_ne hr.units) (pv 3) (pv 2) rfl))))) (pss_one (ps_ret pe_bl)) pss_nil)
    (pssAp (pss_cons (ps_if (pt_cmpR (u_eq hr.units) (pv 2) (pe_lst pa_nil) rfl) (pss_one (ps_ret (pe_cmpR (u_eq hr.units) (pv 4) pe_int rfl))) pss_nil)
    (pssAp (pss_cons (ps_set (i := 5) sc_law.nd rfl (Or.inl rfl) (pe_op u_add pe_int (pe_op u_mod (pe_fn F__law_cell (hr.mono (by decide)) rfl pass0 (pa_cons (pv 0) (pa_cons pe_int pa_nil))) pe_int)))
    (pss_cons (ps_set (i := 6) sc_law.nd rfl (Or.inl rfl) (pe_op u_mod (pe_fn F__law_cell (hr.mono (by decide)) rfl pass0 (pa_cons (pv 0) (pa_cons pe_int pa_nil))) (pe_op u_mul pe_int (pe_callB c_len rfl T.n_len bt_len (pa_cons (pv 2) pa_nil)))))
    (pss_cons (ps_set (i := 7) sc_law.nd rfl (Or.inl rfl) pe_int)
    (pss_cons (ps_for PassesOwn.never rfl (pi_lst (pv 2)) (pg_name (i := 8) sc_law.nd rfl (Or.inl rfl)) (pssAp (pss_one (ps_set (i := 7) sc_law.nd rfl (Or.inl rfl) (pe_op u_add (pe_op u_mul (pv 7) pe_int) (pv 8))))))
    (pssAp (pss_cons (ps_set (i := 9) sc_law.nd rfl (Or.inl rfl) (pe_bitlen (pv 5)))
    (pss_cons (ps_set (i := 10) sc_law.nd rfl (Or.inl rfl) (pe_callB (c_max2 rfl) rfl T.n_max bt_max (pa_cons pe_int (pa_cons (pe_op u_sub (pe_op u_sub (pe_op u_mul pe_int (pe_callB c_len rfl T.n_len bt_len (pa_cons (pv 2) pa_nil))) (pv 6)) (pv 9)) pa_nil))))
    (pss_cons (ps_set (i := 11) sc_law.nd rfl (Or.inr rfl) (pe_op u_xor (pv 7) (pe_op u_mod (pe_op u_shl (pv 5) (pv 10)) (pe_op u_shl pe_int (pe_op u_mul pe_int (pe_callB c_len rfl T.n_len bt_len (pa_cons (pv 2) pa_nil)))))))
    (pss_cons (ps_setLc (i := 12) (own := [("k", 15)]) (g := (gName 15)) (tt := tYes) rfl sc_law.nd rfl rfl (sw_true rfl rfl rfl (by decide +kernel)) (pi_range1 rfl T.n_range (pa_cons (pe_callB c_len rfl T.n_len bt_len (pa_cons (pv 2) pa_nil)) pa_nil)) (blkOk_by (N := N_law) (sc := defScope s_law) (by decide +kernel)) (fun _ _ _ _ _ => pg_name (i := 15) sc_law.nd rfl (Or.inl rfl)) (fun _ _ _ _ _ => pts_nil) (fun _ _ _ _ _ => (pe_op u_mod (pe_op u_fdiv (pv 11) (pe_op u_shl pe_int (pe_op u_mul pe_int (pe_op u_sub (pe_op u_sub (pe_callB c_len rfl T.n_len bt_len (pa_cons (pv 2) pa_nil)) pe_int) (pv 15))))) pe_int)))
    (pss_cons (ps_set (i := 13) sc_law.nd rfl (Or.inl rfl) (pe_fn F__law_sum (hr.mono (by decide)) rfl pass0 (pa_cons (pv 12) pa_nil)))
    (pss_cons (ps_set (i := 14) sc_law.nd rfl (Or.inl rfl) (pe_fn F_sum_of (hr.mono (by decide)) rfl pass0 (pa_cons (pe_callTy (c_list rfl) rfl T.n_list bt_list (pa_cons (pv 12) pa_nil)) pa_nil)))
    (pss_one (ps_ret (pe_and (pe_cmpR (u_eq hr.units) (pv 14) (pv 13) rfl) (pe_one (pe_cmpR (u_eq hr.units) (pe_cmpR (u_eq hr.units) (pv 14) (pv 4) rfl) (pe_cmpR (u_eq hr.units) (pv 12) (pv 2) rfl) rfl))))))))))))))))))))))))
end My

namespace My
open PySem PySem.Spec PyProof.Rows L2 R
local macro_rules | `(tactic| walk_at "rs") => `(tactic| ((try simp only [tSeq, tAp_e, tAsg, gName, tv0, tvs, tC, tOp, tUn, tTest, tAnd, tOr, tNot, tIf, tIfS, tRet, tRetN, tNext, tDrop, tCB, tCons, tNil, tAug_e, tCall, tAndV, tOrV, tChain, tTr, tNotU, tML, tMS, tForU, iLst, iTp, iSt, iRng1, iRng2, tLcU, tLst_e, tTup_e, tSl, tPart_e, tNoPart, tYes, tBreak, tCont,   rSub_int, rFdiv_int, rMod_int, rShl_int, rShr_int, rXor_int, rAndB_int, rOrB_int, rPow_int, rAddU_int, rAddU_str, rMul_int, rIadd_int, rIadd_str, rLt_int, rLe_int, rGt_int, rGe_int, rEqU_int, rNeU_int, rEqU_str, rNeU_str, rEqU_bl, rNeU_bl, rInt_int, rAbs_int, rMax2_int, rMin2_int, mU_int, truV_bl, truV_int, truV_non, exBl, exInt, exInt2, exIntV, rLen_str, rIx_str, rSl_str, rInU_str,    List.set_cons_zero, List.set_cons_succ, List.append_nil, List.nil_append, List.cons_append, List.length_cons, List.length_nil, if_true, if_false, ite_true, ite_false, Bool.false_eq_true, decide_eq_true_eq, Bool.not_true, Bool.not_false, Bool.not_eq_true, Bool.not_eq_false, exists_eq_left', exists_eq_left, V.bl.injEq, V.int.injEq, V.str.injEq, V.ref.injEq, reduceCtorEq, and_true, true_and, ↓reduceIte]); (try with_reducible intro (ap : R.Apart _ _))))
local macro_rules | `(tactic| walk_at "rh") => `(tactic| ((try simp only [tSeq, tAp_e, tAsg, gName, tv0, tvs, tC, tOp, tUn, tTest, tAnd, tOr, tNot, tIf, tIfS, tRet, tRetN, tNext, tDrop, tCB, tCons, tNil, tAug_e, tCall, tAndV, tOrV, tChain, tTr, tNotU, tML, tMS, tForU, iLst, iTp, iSt, iRng1, iRng2, tLcU, tLst_e, tTup_e, tSl, tPart_e, tNoPart, tYes, tBreak, tCont,   rSub_int, rFdiv_int, rMod_int, rShl_int, rShr_int, rXor_int, rAndB_int, rOrB_int, rPow_int, rAddU_int, rAddU_str, rMul_int, rIadd_int, rIadd_str, rLt_int, rLe_int, rGt_int, rGe_int, rEqU_int, rNeU_int, rEqU_str, rNeU_str, rEqU_bl, rNeU_bl, rInt_int, rAbs_int, rMax2_int, rMin2_int, mU_int, truV_bl, truV_int, truV_non, exBl, exInt, exInt2, exIntV, rLen_str, rIx_str, rSl_str, rInU_str,    List.set_cons_zero, List.set_cons_succ, List.append_nil, List.nil_append, List.cons_append, List.length_cons, List.length_nil, if_true, if_false, ite_true, ite_false, Bool.false_eq_true, decide_eq_true_eq, Bool.not_true, Bool.not_false, Bool.not_eq_true, Bool.not_eq_false, exists_eq_left', exists_eq_left, V.bl.injEq, V.int.injEq, V.str.injEq, V.ref.injEq, reduceCtorEq, and_true, true_and, ↓reduceIte]); (try with_reducible intro (ap : R.Apart _ _)); (try simp only [tSeq, tAp_e, tAsg, gName, tv0, tvs, tC, tOp, tUn, tTest, tAnd, tOr, tNot, tIf, tIfS, tRet, tRetN, tNext, tDrop, tCB, tCons, tNil, tAug_e, tCall, tAndV, tOrV, tChain, tTr, tNotU, tML, tMS, tForU, iLst, iTp, iSt, iRng1, iRng2, tLcU, tLst_e, tTup_e, tSl, tPart_e, tNoPart, tYes, tBreak, tCont,   rSub_int, rFdiv_int, rMod_int, rShl_int, rShr_int, rXor_int, rAndB_int, rOrB_int, rPow_int, rAddU_int, rAddU_str, rMul_int, rIadd_int, rIadd_str, rLt_int, rLe_int, rGt_int, rGe_int, rEqU_int, rNeU_int, rEqU_str, rNeU_str, rEqU_bl, rNeU_bl, rInt_int, rAbs_int, rMax2_int, rMin2_int, mU_int, truV_bl, truV_int, truV_non, exBl, exInt, exInt2, exIntV, rLen_str, rIx_str, rSl_str, rInU_str,    List.set_cons_zero, List.set_cons_succ, List.append_nil, List.nil_append, List.cons_append, List.length_cons, List.length_nil, if_true, if_false, ite_true, ite_false, Bool.false_eq_true, decide_eq_true_eq, Bool.not_true, Bool.not_false, Bool.not_eq_true, Bool.not_eq_false, exists_eq_left', exists_eq_left, V.bl.injEq, V.int.injEq, V.str.injEq, V.ref.injEq, reduceCtorEq, and_true, true_and, ↓reduceIte, sqv_e, rLenU_ref, rListOf_ref, rIxU_ref, rSlU_ref, rApp_ref, rAddU_ref, truV_ref, rInU_ref, rMulU_ref, true_implies, forall_const, *])))
/-! ### bits -/
theorem step_nat (x : BitVec 32) : ((Crc.step x).toNat : Int) = if (2147483648 : Int) ≤ x.toNat then Builtin.bitXor ((x.toNat * 2 : Int) - 4294967296) 79764919 else (x.toNat * 2 : Int) := by
  have hx := x.isLt
  unfold Crc.step
  have hm : x.msb = decide (2147483648 ≤ x.toNat) := by rw [BitVec.msb_eq_decide]
  rw [hm]
  by_cases h : 2147483648 ≤ x.toNat
  · rw [if_pos (by simpa using h), if_pos (by omega)]
    rw [show ((x.toNat * 2 : Int) - 4294967296) = ((x.toNat * 2 - 4294967296 : Nat) : Int) by omega, show (79764919 : Int) = ((79764919 : Nat) : Int) from rfl, xor_nat]
    have hP : Crc.P.toNat = 79764919 := by decide
    rw [BitVec.toNat_xor, BitVec.toNat_shiftLeft, Nat.shiftLeft_eq, hP]
    rw [show x.toNat * 2 ^ 1 % 2 ^ 32 = x.toNat * 2 - 4294967296 by omega]
  · rw [if_neg (by simpa using h), if_neg (by omega)]
    rw [BitVec.xor_zero, BitVec.toNat_shiftLeft, Nat.shiftLeft_eq]
    omega
theorem xor_oct (x : BitVec 32) (o : Nat) (ho : o < 256) : Builtin.bitXor (x.toNat : Int) ((o : Int) * 16777216) = ((x ^^^ BitVec.ofNat 32 (o * 2 ^ 24)).toNat : Int) := by
  rw [show ((o : Int) * 16777216) = ((o * 2 ^ 24 : Nat) : Int) by omega, xor_nat, BitVec.toNat_xor, BitVec.toNat_ofNat, Nat.mod_eq_of_lt (a := o * 2 ^ 24) (by omega)]
theorem crc_more {ns : List Nat} {i n : Nat} (h : ns[i]? = some n) : Crc.crc (ns.take (i + 1)) = Crc.stepN 8 (Crc.crc (ns.take i) ^^^ BitVec.ofNat 32 (n * 2 ^ 24)) := by
  unfold Crc.crc
  rw [take_snoc h, List.foldl_append]; rfl
/-! ### sum_of -/
theorem b_sum_of_1 {K : PySem.W.Frag} {D : Ends} {H : Hp} {r u v w : Option V} (x : BitVec 32) (h : ∀ w', D.nx [r, some (.int (Crc.step x).toNat), u, v, w'] H) : t_sum_of_1 K D [r, some (.int x.toNat), u, v, w] H := by
  have hx := x.isLt
  unfold t_sum_of_1
  walk_at "rs"
  refine ⟨cs_small (by decide) (by decide) (by omega), ?_⟩
  have e : (x.toNat : Int) * 2 ^ (1 : Int).toNat = x.toNat * 2 := by simp
  rw [e, bitAnd_m32]
  have h := fun w' => h w'
  rw [step_nat x] at h
  split at h <;> rename_i hc
  · rw [if_pos hc, show ((x.toNat : Int) * 2) % 4294967296 = x.toNat * 2 - 4294967296 by omega]
    exact h _
  · rw [if_neg hc, show ((x.toNat : Int) * 2) % 4294967296 = x.toNat * 2 by omega]
    exact h _
theorem b_sum_of_2 {K : PySem.W.Frag} {D : Ends} {H : Hp} {r v w : Option V} (x : BitVec 32) (o : Nat) (ho : o < 256)
    (h : ∀ v' w', D.nx [r, some (.int (Crc.stepN 8 (x ^^^ BitVec.ofNat 32 (o * 2 ^ 24))).toNat), some (.int o), v', w'] H) : t_sum_of_2 K D [r, some (.int x.toNat), some (.int o), v, w] H := by
  unfold t_sum_of_2
  walk_at "rs"
  refine ⟨cs_small (by decide) (by decide) (by omega), ?_⟩
  refine ⟨by decide, by decide, ?_⟩
  have e : (o : Int) * 2 ^ (24 : Int).toNat = o * 16777216 := by simp
  rw [e, xor_oct x o ho]
  generalize x ^^^ BitVec.ofNat 32 (o * 2 ^ 24) = y at h ⊢
  refine goesR (n := 8) (fun j σ H' => H' = H ∧ ∃ v w, σ = [r, some (.int (Crc.stepN j y).toNat), some (.int o), v, w]) ⟨rfl, _, _, rfl⟩ ?_ ?_
  · rintro j σ H' hj ⟨rfl, v, w, rfl⟩
    walk_at "rs"
    exact b_sum_of_1 _ fun w' => ⟨rfl, _, _, rfl⟩
  · rintro σ H' ⟨rfl, v, w, rfl⟩
    exact h _ _
theorem rd_sum_of {K : PySem.W.Frag} {vs : List V} {H : Hp} {Q : VK} {E : XK} (h : sp_sum_of K vs H Q E) : t_sum_of K { nx := fun _ H' => Q .non H', rt := Q } (start N_sum_of vs) H := by
  obtain ⟨a, ns, rfl, hl, hlt, hq⟩ := h
  show t_sum_of K _ [some (.ref a), none, none, none, none] H
  unfold t_sum_of
  walk_at "rs"
  simp only [hl]
  refine goesL (xs := octs ns) (fun i σ H' => H' = H ∧ ∃ u v w, σ = [some (.ref a), some (.int (Crc.crc (ns.take i)).toNat), u, v, w]) ⟨rfl, _, _, _, rfl⟩ (fun i σ H' _ p => by rw [p.1]; exact hl) ?_ ?_
  · rintro i x σ H' hi ⟨rfl, u, v, w, rfl⟩
    obtain ⟨n, hn, rfl⟩ := octs_at hi
    walk_at "rs"
    refine b_sum_of_2 _ n (hlt _ (List.mem_of_getElem? hn)) fun v' w' => by
      dsimp only
      rw [crc_more hn]
      exact ⟨rfl, _, _, _, rfl⟩
  · rintro σ H' ⟨rfl, u, v, w, rfl⟩
    unfold t_sum_of_3
    walk_at "rs"
    rw [show (octs ns).length = ns.length by simp [octs], List.take_length]
    exact hq

/-! ### _law_sum -/
theorem b_law_sum_1 {K : PySem.W.Frag} {D : Ends} {H : Hp} {r u v : Option V} (x : BitVec 32) (h : D.nx [r, some (.int (Crc.step x).toNat), u, v] H) : t__law_sum_1 K D [r, some (.int x.toNat), u, v] H := by
  have hx := x.isLt
  unfold t__law_sum_1
  walk_at "rs"
  refine ⟨cm_r (by decide) (by decide), ?_⟩
  rw [step_nat x] at h
  split at h <;> rename_i hc
  · rw [if_pos (by omega)]
    exact h
  · rw [if_neg (by omega)]
    exact h
theorem b_law_sum_2 {K : PySem.W.Frag} {D : Ends} {H : Hp} {r v : Option V} (x : BitVec 32) (o : Nat) (ho : o < 256)
    (h : ∀ v', D.nx [r, some (.int (Crc.stepN 8 (x ^^^ BitVec.ofNat 32 (o * 2 ^ 24))).toNat), some (.int o), v'] H) : t__law_sum_2 K D [r, some (.int x.toNat), some (.int o), v] H := by
  unfold t__law_sum_2
  walk_at "rs"
  refine ⟨cs_small (by decide) (by decide) (by omega), ?_⟩
  refine ⟨by decide, by decide, ?_⟩
  have e : (o : Int) * 2 ^ (24 : Int).toNat = o * 16777216 := by simp
  rw [e, xor_oct x o ho]
  generalize x ^^^ BitVec.ofNat 32 (o * 2 ^ 24) = y at h ⊢
  refine goesR (n := 8) (fun j σ H' => H' = H ∧ ∃ v, σ = [r, some (.int (Crc.stepN j y).toNat), some (.int o), v]) ⟨rfl, _, rfl⟩ ?_ ?_
  · rintro j σ H' hj ⟨rfl, v, rfl⟩
    walk_at "rs"
    exact b_law_sum_1 _ ⟨rfl, _, rfl⟩
  · rintro σ H' ⟨rfl, v, rfl⟩
    exact h _
theorem rd__law_sum {K : PySem.W.Frag} {vs : List V} {H : Hp} {Q : VK} {E : XK} (h : sp__law_sum K vs H Q E) : t__law_sum K { nx := fun _ H' => Q .non H', rt := Q } (start N__law_sum vs) H := by
  obtain ⟨a, ns, rfl, hl, hlt, hq⟩ := h
  show t__law_sum K _ [some (.ref a), none, none, none] H
  unfold t__law_sum
  walk_at "rs"
  simp only [hl]
  refine goesL (xs := octs ns) (fun i σ H' => H' = H ∧ ∃ u v, σ = [some (.ref a), some (.int (Crc.crc (ns.take i)).toNat), u, v]) ⟨rfl, _, _, rfl⟩ (fun i σ H' _ p => by rw [p.1]; exact hl) ?_ ?_
  · rintro i x σ H' hi ⟨rfl, u, v, rfl⟩
    obtain ⟨n, hn, rfl⟩ := octs_at hi
    walk_at "rs"
    refine b_law_sum_2 _ n (hlt _ (List.mem_of_getElem? hn)) fun v' => by
      dsimp only
      rw [crc_more hn]
      exact ⟨rfl, _, _, rfl⟩
  · rintro σ H' ⟨rfl, u, v, rfl⟩
    unfold t__law_sum_3
    walk_at "rs"
    rw [show (octs ns).length = ns.length by simp [octs], List.take_length]
    exact hq

/-! ### _law_integer, _law_cell, _law_row -/
theorem rd__law_integer {K : PySem.W.Frag} {vs : List V} {H : Hp} {Q : VK} {E : XK} (h : sp__law_integer K vs H Q E) : t__law_integer K { nx := fun _ H' => Q .non H', rt := Q } (start N__law_integer vs) H := by
  obtain ⟨i, rfl, hq⟩ := h
  show t__law_integer K _ [some (.int i)] H
  unfold t__law_integer
  walk_at "rs"
  simp only [rIsi_int kit_int_int, rIsi_int kit_int_bool]
  walk_at "rs"
  exact hq
theorem rd__law_cell {K : PySem.W.Frag} {vs : List V} {H : Hp} {Q : VK} {E : XK} (h : sp__law_cell K vs H Q E) : t__law_cell K { nx := fun _ H' => Q .non H', rt := Q } (start N__law_cell vs) H := by
  obtain ⟨a, ns, k, rfl, hk, hz, hl, hq⟩ := h
  show t__law_cell K _ [some (.ref a), some (.int k)] H
  unfold t__law_cell t__law_cell_1
  walk_at "rh"
  rw [List.length_map]
  split <;> rename_i hc
  · have e : atI (ns.map V.int) k = some (.int (ns[k.toNat]'(by omega))) := by
      unfold atI ixN
      rw [if_pos hk, List.length_map, if_pos hc]
      simp
    rw [e]
    exact hq _
  · intro _; trivial

/-! ### _law_row -/
theorem lst_upd {H : Hp} {l : Addr} {o : HO} : upd H l o l = some o := upd_same
theorem rd__law_row {K : PySem.W.Frag} {vs : List V} {H : Hp} {Q : VK} {E : XK} (h : sp__law_row K vs H Q E) : t__law_row K { nx := fun _ H' => Q .non H', rt := Q } (start N__law_row vs) H := by
  obtain ⟨cell, count, rfl, h0, h60, hq⟩ := h
  show t__law_row K _ [some (.int cell), some (.int count), some (.int 256), none, none, none, none] H
  unfold t__law_row
  walk_at "rs"
  refine ⟨by decide, sz 0 (by decide), nw fun l H1 hl s1 e1 => ?_⟩
  refine ⟨by omega, by omega, ?_⟩
  refine goesR (n := count.toNat) (fun j σ H' => ∃ (ns : List Nat) (r m : Int) (w : Option V), ns.length = j ∧ (∀ n ∈ ns, n < 256) ∧ Same H H' ∧ H' l = some (.lst (octs ns)) ∧ σ = [some (.int cell), some (.int count), some (.int 256), some (.int r), some (.int m), some (.ref l), w])
    ⟨[], _, _, none, rfl, by simp, s1, e1, rfl⟩ ?_ ?_
  · rintro j σ H' hj ⟨ns, r, m, w, hlen, hlt, hs, hl', rfl⟩
    have hlv : lstv K H' l = some (octs ns) := lstv_of hl'
    have hz : (octs ns).length = ns.length := by simp [octs]
    unfold t__law_row_3 t__law_row_1 t__law_row_2
    simp only [gName, List.set_cons_zero, List.set_cons_succ]
    have key : ∀ (i r m : Int) (w : Option V), ∃ (ns' : List Nat) (r' m' : Int) (w' : Option V), ns'.length = j + 1 ∧ (∀ n ∈ ns', n < 256) ∧ Same H (L2.upd H' l (.lst (octs ns ++ [V.int (i % 256)]))) ∧ (L2.upd H' l (.lst (octs ns ++ [V.int (i % 256)]))) l = some (.lst (octs ns')) ∧
        [some (V.int cell), some (.int count), some (.int 256), some (.int r), some (.int m), some (.ref l), w] = [some (V.int cell), some (.int count), some (.int 256), some (.int r'), some (.int m'), some (.ref l), w'] := by
      intro i r m w
      refine ⟨ns ++ [(i % 256).toNat], r, m, w, by simp [hlen], ?_, Same.upd hs hl, ?_, rfl⟩
      · intro n hn
        rcases List.mem_append.mp hn with h | h
        · exact hlt n h
        · simp at h; omega
      · rw [upd_same, octs_snoc (n := (i % 256).toNat) (by omega)]
    clear hq
    walk_at "rh"
    split
    · exact ⟨by decide, szl j (by omega), cd_small (by decide) (by decide)⟩
    · exact ⟨cm_r (by decide) (by decide), cm_l (by decide) (by decide), by decide, cm_r (by decide) (by decide), cd_small (by decide) (by decide), by decide, szl j (by omega)⟩
  · rintro σ H' ⟨ns, r, m, w, hlen, hlt, hs, hl', rfl⟩
    unfold t__law_row_4
    walk_at "rs"
    exact hq l H' ns hlen hlt hs hl'

/-! ### law -/

/-! ### law -/
theorem octs_nil : ([] : List V) = octs [] := rfl
theorem rd_law {K : PySem.W.Frag} {vs : List V} {H : Hp} {Q : VK} {E : XK} (h : sp_law K vs H Q E) : t_law K { nx := fun _ H' => Q .non H', rt := Q } (start N_law vs) H := by
  obtain ⟨a, ns, rfl, hl, hz, hq⟩ := h
  show t_law K _ [some (.ref a), none, none, none, none, none, none, none, none, none, none, none, none, none, none, none] H
  unfold t_law
  walk_at "rs"
  refine ⟨a, ns, 0, rfl, by decide, hz, hl, fun first => ?_⟩
  walk_at "rs"
  refine ⟨a, ns, 1, rfl, by decide, hz, hl, fun cell => ?_⟩
  walk_at "rs"
  refine ⟨by decide, _, _, rfl, Int.emod_nonneg _ (by decide), by omega, fun p H1 os hlen hos s1 h1 => ?_⟩
  have hlen : os.length ≤ 60 := by omega
  have l1 : lstv K H1 p = some (octs os) := lstv_of h1
  simp only [rListOf_lst l1]
  refine nw fun g H2 g0 s2 g2 => ?_
  have l2 : lstv K H2 g = some (octs os) := lstv_of g2
  have l3 : lstv K H2 p = some (octs os) := lstv_of (s2 _ _ h1)
  walk_at "rs"
  refine ⟨g, os, rfl, l2, hos, ?_⟩
  walk_at "rs"
  refine ⟨_, rfl, ?_⟩
  walk_at "rs"
  refine ⟨p, os, rfl, l3, hos, ?_⟩
  walk_at "rs"
  simp only [decide_true, Bool.not_true, Bool.false_eq_true, if_false]
  refine rNe_octs l2 l3 ?_
  walk_at "rs"
  simp only [decide_true, Bool.not_true, Bool.false_eq_true, if_false]
  -- octets == []
  unfold t_law_4
  walk_at "rs"
  refine ⟨by decide, nw fun e H3 e0 s3 e3 => ?_⟩
  have l4 : lstv K H3 p = some (octs os) := lstv_of (s3 _ _ (s2 _ _ h1))
  refine rEq_octs (ns := os) (ms := []) l4 (lstv_of e3) ?_
  walk_at "rs"
  split <;> rename_i hE
  · subst hE
    rw [show decide (((Crc.crc []).toNat : Int) = 0) = true by decide]
    exact hq _
  have hpos : 0 < os.length := by
    cases os with
    | nil => exact (hE rfl).elim
    | cons _ _ => simp
  -- the burst
  unfold t_law_3
  walk_at "rs"
  have ha3 : lstv K H3 a = some (ns.map V.int) := lstv_mono (s1.trans (s2.trans s3)) ‹_› hl
  refine ⟨a, ns, 2, rfl, by decide, hz, ha3, fun c2 => ?_⟩
  walk_at "rs"
  refine ⟨by decide, a, ns, 3, rfl, by decide, hz, ha3, fun c3 => ?_⟩
  walk_at "rs"
  simp only [rLen_lst l4, octs_len]
  walk_at "rs"
  refine ⟨cm_l (by decide) (by decide), by omega, ?_⟩
  simp only [l4]
  generalize hburst : 1 + c2 % 4294967295 = burst
  generalize hat : c3 % (8 * (os.length : Int)) = pos
  have hb1 : 1 ≤ burst ∧ burst < 4294967296 := by omega
  have hp0 : 0 ≤ pos := by rw [← hat]; exact Int.emod_nonneg _ (by omega)
  refine goesL (xs := octs os) (fun i σ H' => H' = H3 ∧ ∃ u, σ = [some (.ref a), some (.int first), some (.ref p), some (.ref g), some (.int (Crc.crc os).toNat), some (.int burst), some (.int pos), some (.int (Crc.value (os.take i))), u, none, none, none, none, none, none, none]) ⟨rfl, _, rfl⟩ (fun i σ H' _ q => by rw [q.1]; exact l4) ?_ ?_
  · rintro i x σ H' hi ⟨rfl, u, rfl⟩
    obtain ⟨n, hn, rfl⟩ := octs_at hi
    unfold t_law_1
    walk_at "rs"
    have e : (Crc.value (os.take (i + 1)) : Int) = (Crc.value (os.take i) : Int) * 256 + n := by
      unfold Crc.value
      rw [take_snoc hn, List.foldl_append]
      simp
    rw [e]
    refine ⟨cm_r (by decide) (by decide), ?_⟩
    first | exact ⟨rfl, _, rfl⟩ | exact ⟨_, rfl⟩
  · rintro σ H' ⟨rfl, u, rfl⟩
    dsimp only
    rw [octs_len, List.take_length]
    unfold t_law_2
    walk_at "rh"
    rw [octs_len]
    generalize hsh : (if 8 * (os.length : Int) - pos - (Builtin.Int.intBits burst : Nat) > 0 then 8 * (os.length : Int) - pos - (Builtin.Int.intBits burst : Nat) else 0) = sh
    have hsh0 : 0 ≤ sh ∧ sh ≤ 8 * os.length := by
      have := Int.natCast_nonneg (Builtin.Int.intBits burst)
      split at hsh <;> omega
    obtain ⟨b, rfl⟩ := Int.eq_ofNat_of_zero_le (show 0 ≤ burst by omega)
    obtain ⟨t, rfl⟩ := Int.eq_ofNat_of_zero_le hsh0.1
    have eE : Builtin.bitXor (Crc.value os : Int) ((b : Int) * 2 ^ ((t : Int)).toNat % (1 * 2 ^ (8 * (os.length : Int)).toNat)) = ((Crc.value os ^^^ (b * 2 ^ t) % 2 ^ (8 * os.length) : Nat) : Int) := by
      rw [← xor_nat]
      congr 1
      rw [show (8 * (os.length : Int)).toNat = 8 * os.length by omega, Int.toNat_natCast, Int.one_mul]
      simp
    rw [eE]
    generalize hC : Crc.value os ^^^ (b * 2 ^ t) % 2 ^ (8 * os.length) = C
    refine ⟨cm_l (by decide) (by decide), cs_small (by omega) (by omega) (by omega), cm_l (by decide) (by decide), cs_small (by omega) (by omega) (by decide), ?_, by omega, by omega, ?_⟩
    · rw [Int.one_mul]; exact Int.pow_pos (by decide)
    have ap2 : Apart K H' := ‹_›
    refine lcR (lo := 0) (n := (os.length : Int).toNat) (fun k => some (V.int ((C : Int) / 2 ^ (8 * ((os.length : Int) - 1 - k)).toNat % 256))) (sz _ (by omega)) ?_ ?_
    · intro k hk H4 s4 Qy Qn hy hn
      have l5 : lstv K H4 p = some (octs os) := lstv_of (s4 _ _ (s3 _ _ (s2 _ _ h1)))
      show gName 15 _ _ _ _
      simp only [wipe, List.foldl, List.set_cons_zero, List.set_cons_succ]
      clear hq hn
      walk_at "rh"
      rw [octs_len]
      have hk2 : k < os.length := by omega
      refine ⟨cm_l (by decide) (by decide), cs_small (by omega) (by omega) (by decide), cd_wide (b := 481) ?_ ?_ (by decide) (by decide), by decide, hy _ ?_ _ (Same.refl _)⟩
      · rw [Int.one_mul]; exact Int.pow_pos (by decide)
      · rw [Int.one_mul, Int.natAbs_pow]
        exact Nat.pow_lt_pow_right (by decide) (by omega)
      · rw [Int.one_mul]
    · intro q H4 q0 s4 q4
      have eD : (List.range (os.length : Int).toNat).filterMap (fun j => some (V.int ((C : Int) / 2 ^ (8 * ((os.length : Int) - 1 - (0 + (j : Nat)))).toNat % 256))) = octs (Crc.digs os.length C) := by
        rw [List.filterMap_eq_map', Int.toNat_natCast]
        unfold octs Crc.digs
        rw [List.map_map]
        apply List.map_congr_left
        intro k hk
        have hk := List.mem_range.mp hk
        show V.int _ = V.int _
        rw [show (8 * ((os.length : Int) - 1 - (0 + (k : Nat)))).toNat = 8 * (os.length - 1 - k) by omega]
        simp
      rw [eD] at q4
      have l5 : lstv K H4 p = some (octs os) := lstv_of (s4 _ _ (s3 _ _ (s2 _ _ h1)))
      have l6 := lstv_of (K := K) q4
      have hD := Crc.digs_lt os.length C
      have hm := Crc.law_math os hos b t (by omega) (by omega)
      rw [hC] at hm
      generalize Crc.digs os.length C = ds at q4 l6 hD hm
      walk_at "rs"
      refine ⟨q, ds, rfl, l6, hD, ?_⟩
      walk_at "rs"
      simp only [rListOf_lst l6]
      refine nw fun z H5 z0 s5 z5 => ?_
      refine ⟨z, ds, rfl, lstv_of z5, hD, ?_⟩
      walk_at "rs"
      have l7 : lstv K H5 p = some (octs os) := lstv_of (s5 _ _ (s4 _ _ (s3 _ _ (s2 _ _ h1))))
      have l8 : lstv K H5 q = some (octs ds) := lstv_of (s5 _ _ q4)
      refine rEq_octs l8 l7 ?_
      walk_at "rs"
      have hb2 : (((Crc.crc ds).toNat : Int) = ((Crc.crc os).toNat : Int)) ↔ ds = os := by
        rw [← hm]
        constructor
        · intro e; exact BitVec.eq_of_toNat_eq (Int.ofNat.inj e)
        · intro e; rw [e]
      rw [show decide (decide (((Crc.crc ds).toNat : Int) = ((Crc.crc os).toNat : Int)) = decide (ds = os)) = true by simp [hb2]]
      exact hq _

end My

namespace My
open PySem PySem.Spec PyProof.Rows L2 R
theorem len_sum_of {K : PySem.W.Frag} : ∀ (vs : List V) (H : Hp) (Q : VK) (E : XK), sp_sum_of K vs H Q E → vs.length = 1 := by
  intro vs H Q E h
  first | (obtain ⟨rfl, _⟩ := h; rfl) | (obtain ⟨_, rfl, _⟩ := h; rfl) | (obtain ⟨_, _, rfl, _⟩ := h; rfl) | (obtain ⟨_, _, _, rfl, _⟩ := h; rfl) | (obtain ⟨_, _, _, _, rfl, _⟩ := h; rfl) | (obtain ⟨_, _, _, _, _, rfl, _⟩ := h; rfl) | (obtain ⟨_, _, _, _, _, _, rfl, _⟩ := h; rfl) | (obtain ⟨_, _, _, _, _, _, _, rfl, _⟩ := h; rfl) | (obtain ⟨_, _, _, _, _, _, _, _, rfl, _⟩ := h; rfl) | (obtain ⟨_, _, _, _, _, _, _, _, _, rfl, _⟩ := h; rfl) | (obtain ⟨_, _, _, _, _, _, _, _, _, _, rfl, _⟩ := h; rfl) | (obtain ⟨_, _, _, _, _, _, _, _, _, _, _, rfl, _⟩ := h; rfl)
theorem ok_sum_of {P : Program} {w : World} {K : PySem.W.Frag} {mg : Str → Option Value} {base : Heap} {f : Addr} {fd : FuncData} (T : Top mg) (F : Fun K "sum_of" "sum_of" s_sum_of f fd) : FnOk P w K mg base CX0 1 f fd ["octets"] (sp_sum_of K) :=
  F.ok sc_sum_of len_sum_of fun cdv A outer s H vs Q E hr h => ⟨_, dv_sum_of T hr, rd_sum_of h⟩
theorem len__law_cell {K : PySem.W.Frag} : ∀ (vs : List V) (H : Hp) (Q : VK) (E : XK), sp__law_cell K vs H Q E → vs.length = 2 := by
  intro vs H Q E h
  first | (obtain ⟨rfl, _⟩ := h; rfl) | (obtain ⟨_, rfl, _⟩ := h; rfl) | (obtain ⟨_, _, rfl, _⟩ := h; rfl) | (obtain ⟨_, _, _, rfl, _⟩ := h; rfl) | (obtain ⟨_, _, _, _, rfl, _⟩ := h; rfl) | (obtain ⟨_, _, _, _, _, rfl, _⟩ := h; rfl) | (obtain ⟨_, _, _, _, _, _, rfl, _⟩ := h; rfl) | (obtain ⟨_, _, _, _, _, _, _, rfl, _⟩ := h; rfl) | (obtain ⟨_, _, _, _, _, _, _, _, rfl, _⟩ := h; rfl) | (obtain ⟨_, _, _, _, _, _, _, _, _, rfl, _⟩ := h; rfl) | (obtain ⟨_, _, _, _, _, _, _, _, _, _, rfl, _⟩ := h; rfl) | (obtain ⟨_, _, _, _, _, _, _, _, _, _, _, rfl, _⟩ := h; rfl)
theorem ok__law_cell {P : Program} {w : World} {K : PySem.W.Frag} {mg : Str → Option Value} {base : Heap} {f : Addr} {fd : FuncData} (T : Top mg) (F : Fun K "_law_cell" "_law_cell" s__law_cell f fd) : FnOk P w K mg base CX0 1 f fd ["script", "k"] (sp__law_cell K) :=
  F.ok sc__law_cell len__law_cell fun cdv A outer s H vs Q E hr h => ⟨_, dv__law_cell T hr, rd__law_cell h⟩
theorem len__law_row {K : PySem.W.Frag} : ∀ (vs : List V) (H : Hp) (Q : VK) (E : XK), sp__law_row K vs H Q E → vs.length = 3 := by
  intro vs H Q E h
  first | (obtain ⟨rfl, _⟩ := h; rfl) | (obtain ⟨_, rfl, _⟩ := h; rfl) | (obtain ⟨_, _, rfl, _⟩ := h; rfl) | (obtain ⟨_, _, _, rfl, _⟩ := h; rfl) | (obtain ⟨_, _, _, _, rfl, _⟩ := h; rfl) | (obtain ⟨_, _, _, _, _, rfl, _⟩ := h; rfl) | (obtain ⟨_, _, _, _, _, _, rfl, _⟩ := h; rfl) | (obtain ⟨_, _, _, _, _, _, _, rfl, _⟩ := h; rfl) | (obtain ⟨_, _, _, _, _, _, _, _, rfl, _⟩ := h; rfl) | (obtain ⟨_, _, _, _, _, _, _, _, _, rfl, _⟩ := h; rfl) | (obtain ⟨_, _, _, _, _, _, _, _, _, _, rfl, _⟩ := h; rfl) | (obtain ⟨_, _, _, _, _, _, _, _, _, _, _, rfl, _⟩ := h; rfl)
theorem ok__law_row {P : Program} {w : World} {K : PySem.W.Frag} {mg : Str → Option Value} {base : Heap} {f : Addr} {fd : FuncData} (T : Top mg) (F : Fun K "_law_row" "_law_row" s__law_row f fd) : FnOk P w K mg base CX0 1 f fd ["cell", "count", "bound"] (sp__law_row K) :=
  F.ok sc__law_row len__law_row fun cdv A outer s H vs Q E hr h => ⟨_, dv__law_row T hr, rd__law_row h⟩
theorem len__law_integer {K : PySem.W.Frag} : ∀ (vs : List V) (H : Hp) (Q : VK) (E : XK), sp__law_integer K vs H Q E → vs.length = 1 := by
  intro vs H Q E h
  first | (obtain ⟨rfl, _⟩ := h; rfl) | (obtain ⟨_, rfl, _⟩ := h; rfl) | (obtain ⟨_, _, rfl, _⟩ := h; rfl) | (obtain ⟨_, _, _, rfl, _⟩ := h; rfl) | (obtain ⟨_, _, _, _, rfl, _⟩ := h; rfl) | (obtain ⟨_, _, _, _, _, rfl, _⟩ := h; rfl) | (obtain ⟨_, _, _, _, _, _, rfl, _⟩ := h; rfl) | (obtain ⟨_, _, _, _, _, _, _, rfl, _⟩ := h; rfl) | (obtain ⟨_, _, _, _, _, _, _, _, rfl, _⟩ := h; rfl) | (obtain ⟨_, _, _, _, _, _, _, _, _, rfl, _⟩ := h; rfl) | (obtain ⟨_, _, _, _, _, _, _, _, _, _, rfl, _⟩ := h; rfl) | (obtain ⟨_, _, _, _, _, _, _, _, _, _, _, rfl, _⟩ := h; rfl)
theorem ok__law_integer {P : Program} {w : World} {K : PySem.W.Frag} {mg : Str → Option Value} {base : Heap} {f : Addr} {fd : FuncData} (T : Top mg) (F : Fun K "_law_integer" "_law_integer" s__law_integer f fd) : FnOk P w K mg base CX0 1 f fd ["value"] (sp__law_integer K) :=
  F.ok sc__law_integer len__law_integer fun cdv A outer s H vs Q E hr h => ⟨_, dv__law_integer T hr, rd__law_integer h⟩
theorem len__law_sum {K : PySem.W.Frag} : ∀ (vs : List V) (H : Hp) (Q : VK) (E : XK), sp__law_sum K vs H Q E → vs.length = 1 := by
  intro vs H Q E h
  first | (obtain ⟨rfl, _⟩ := h; rfl) | (obtain ⟨_, rfl, _⟩ := h; rfl) | (obtain ⟨_, _, rfl, _⟩ := h; rfl) | (obtain ⟨_, _, _, rfl, _⟩ := h; rfl) | (obtain ⟨_, _, _, _, rfl, _⟩ := h; rfl) | (obtain ⟨_, _, _, _, _, rfl, _⟩ := h; rfl) | (obtain ⟨_, _, _, _, _, _, rfl, _⟩ := h; rfl) | (obtain ⟨_, _, _, _, _, _, _, rfl, _⟩ := h; rfl) | (obtain ⟨_, _, _, _, _, _, _, _, rfl, _⟩ := h; rfl) | (obtain ⟨_, _, _, _, _, _, _, _, _, rfl, _⟩ := h; rfl) | (obtain ⟨_, _, _, _, _, _, _, _, _, _, rfl, _⟩ := h; rfl) | (obtain ⟨_, _, _, _, _, _, _, _, _, _, _, rfl, _⟩ := h; rfl)
theorem ok__law_sum {P : Program} {w : World} {K : PySem.W.Frag} {mg : Str → Option Value} {base : Heap} {f : Addr} {fd : FuncData} (T : Top mg) (F : Fun K "_law_sum" "_law_sum" s__law_sum f fd) : FnOk P w K mg base CX0 1 f fd ["octets"] (sp__law_sum K) :=
  F.ok sc__law_sum len__law_sum fun cdv A outer s H vs Q E hr h => ⟨_, dv__law_sum T hr, rd__law_sum h⟩
theorem len_law {K : PySem.W.Frag} : ∀ (vs : List V) (H : Hp) (Q : VK) (E : XK), sp_law K vs H Q E → vs.length = 1 := by
  intro vs H Q E h
  first | (obtain ⟨rfl, _⟩ := h; rfl) | (obtain ⟨_, rfl, _⟩ := h; rfl) | (obtain ⟨_, _, rfl, _⟩ := h; rfl) | (obtain ⟨_, _, _, rfl, _⟩ := h; rfl) | (obtain ⟨_, _, _, _, rfl, _⟩ := h; rfl) | (obtain ⟨_, _, _, _, _, rfl, _⟩ := h; rfl) | (obtain ⟨_, _, _, _, _, _, rfl, _⟩ := h; rfl) | (obtain ⟨_, _, _, _, _, _, _, rfl, _⟩ := h; rfl) | (obtain ⟨_, _, _, _, _, _, _, _, rfl, _⟩ := h; rfl) | (obtain ⟨_, _, _, _, _, _, _, _, _, rfl, _⟩ := h; rfl) | (obtain ⟨_, _, _, _, _, _, _, _, _, _, rfl, _⟩ := h; rfl) | (obtain ⟨_, _, _, _, _, _, _, _, _, _, _, rfl, _⟩ := h; rfl)
theorem ok_law {P : Program} {w : World} {K : PySem.W.Frag} {mg : Str → Option Value} {base : Heap} {f : Addr} {fd : FuncData} (T : Top mg) (F__law_cell : FnE P w K mg base CX0 "_law_cell" 1 ["script", "k"] (sp__law_cell K)) (F__law_integer : FnE P w K mg base CX0 "_law_integer" 1 ["value"] (sp__law_integer K)) (F__law_row : FnE P w K mg base CX0 "_law_row" 1 ["cell", "count", "bound"] (sp__law_row K)) (F__law_sum : FnE P w K mg base CX0 "_law_sum" 1 ["octets"] (sp__law_sum K)) (F_sum_of : FnE P w K mg base CX0 "sum_of" 1 ["octets"] (sp_sum_of K)) (F : Fun K "law" "law" s_law f fd) : FnOk P w K mg base CX0 2 f fd ["script"] (sp_law K) :=
  F.ok sc_law len_law fun cdv A outer s H vs Q E hr h => ⟨_, dv_law T F__law_cell F__law_integer F__law_row F__law_sum F_sum_of hr, rd_law h⟩
theorem all_mk {P : Program} {w : World} {K : PySem.W.Frag} {h : Heap} {mg : Str → Option Value} {fa f1 f2 f3 f4 f5 f6 : Addr} (X : K.In h) (G : h.Ns mainGlobals mg) (hfa : mg "law" = some (.ref fa))
    {od1 an1 : Option Addr} {sl1 : Array (Option Value)} {oc1 kV1 dc1 pm1 cd1 ct1 : Value} (a1 : PySem.W.nsIn K mainGlobals "sum_of" = some (some (.ref f1))) (l1 : K.lookup f1 = some ⟨oc1, od1, .func (PySem.W.fnOf "sum_of" "sum_of" (defArgs s_sum_of) (defBody s_sum_of) (defScope s_sum_of) .none kV1 dc1 pm1 an1 cd1 ct1), sl1⟩) (c1 : PySem.W.codeIn K cd1 "sum_of" = true) (k1 : PySem.W.keepIn K (.ref f1) = true)
    {od2 an2 : Option Addr} {sl2 : Array (Option Value)} {oc2 kV2 dc2 pm2 cd2 ct2 : Value} (a2 : PySem.W.nsIn K mainGlobals "_law_cell" = some (some (.ref f2))) (l2 : K.lookup f2 = some ⟨oc2, od2, .func (PySem.W.fnOf "_law_cell" "_law_cell" (defArgs s__law_cell) (defBody s__law_cell) (defScope s__law_cell) .none kV2 dc2 pm2 an2 cd2 ct2), sl2⟩) (c2 : PySem.W.codeIn K cd2 "_law_cell" = true) (k2 : PySem.W.keepIn K (.ref f2) = true)
    {od3 an3 : Option Addr} {sl3 : Array (Option Value)} {oc3 kV3 dc3 pm3 cd3 ct3 : Value} (a3 : PySem.W.nsIn K mainGlobals "_law_row" = some (some (.ref f3))) (l3 : K.lookup f3 = some ⟨oc3, od3, .func (PySem.W.fnOf "_law_row" "_law_row" (defArgs s__law_row) (defBody s__law_row) (defScope s__law_row) .none kV3 dc3 pm3 an3 cd3 ct3), sl3⟩) (c3 : PySem.W.codeIn K cd3 "_law_row" = true) (k3 : PySem.W.keepIn K (.ref f3) = true)
    {od4 an4 : Option Addr} {sl4 : Array (Option Value)} {oc4 kV4 dc4 pm4 cd4 ct4 : Value} (a4 : PySem.W.nsIn K mainGlobals "_law_integer" = some (some (.ref f4))) (l4 : K.lookup f4 = some ⟨oc4, od4, .func (PySem.W.fnOf "_law_integer" "_law_integer" (defArgs s__law_integer) (defBody s__law_integer) (defScope s__law_integer) .none kV4 dc4 pm4 an4 cd4 ct4), sl4⟩) (c4 : PySem.W.codeIn K cd4 "_law_integer" = true) (k4 : PySem.W.keepIn K (.ref f4) = true)
    {od5 an5 : Option Addr} {sl5 : Array (Option Value)} {oc5 kV5 dc5 pm5 cd5 ct5 : Value} (a5 : PySem.W.nsIn K mainGlobals "_law_sum" = some (some (.ref f5))) (l5 : K.lookup f5 = some ⟨oc5, od5, .func (PySem.W.fnOf "_law_sum" "_law_sum" (defArgs s__law_sum) (defBody s__law_sum) (defScope s__law_sum) .none kV5 dc5 pm5 an5 cd5 ct5), sl5⟩) (c5 : PySem.W.codeIn K cd5 "_law_sum" = true) (k5 : PySem.W.keepIn K (.ref f5) = true)
    {od6 an6 : Option Addr} {sl6 : Array (Option Value)} {oc6 kV6 dc6 pm6 cd6 ct6 : Value} (a6 : PySem.W.nsIn K mainGlobals "law" = some (some (.ref f6))) (l6 : K.lookup f6 = some ⟨oc6, od6, .func (PySem.W.fnOf "law" "law" (defArgs s_law) (defBody s_law) (defScope s_law) .none kV6 dc6 pm6 an6 cd6 ct6), sl6⟩) (c6 : PySem.W.codeIn K cd6 "law" = true) (k6 : PySem.W.keepIn K (.ref f6) = true)
    (b_abs : PySem.W.nsIn K mainGlobals "abs" = some none)
    (b_bool : PySem.W.nsIn K mainGlobals "bool" = some none)
    (b_int : PySem.W.nsIn K mainGlobals "int" = some none)
    (b_isinstance : PySem.W.nsIn K mainGlobals "isinstance" = some none)
    (b_len : PySem.W.nsIn K mainGlobals "len" = some none)
    (b_list : PySem.W.nsIn K mainGlobals "list" = some none)
    (b_max : PySem.W.nsIn K mainGlobals "max" = some none)
    (b_range : PySem.W.nsIn K mainGlobals "range" = some none)
    {k_ALL_BITS : Tok} (g_ALL_BITS : PySem.W.nsIn K mainGlobals "ALL_BITS" = some (some (.int 4294967295 k_ALL_BITS)))
    {k_POLYNOMIAL : Tok} (g_POLYNOMIAL : PySem.W.nsIn K mainGlobals "POLYNOMIAL" = some (some (.int 79764919 k_POLYNOMIAL)))
    {k_TOP : Tok} (g_TOP : PySem.W.nsIn K mainGlobals "TOP" = some (some (.int 2147483648 k_TOP))) :
    ∃ fd : FuncData, (∀ (s : Shared) (v : Value), BindsTo s fd ⟨[v], []⟩ [("script", v)]) ∧ ∀ base : Heap, K.In base → base.Ns mainGlobals mg → FnOk P w K mg base CX0 2 fa fd ["script"] (spLawS K) := by
  have e := hfa.symm.trans (PySem.W.mg_of X G a6)
  cases e
  have T : Top mg := ⟨PySem.W.mg_none_of X G b_abs, PySem.W.mg_none_of X G b_bool, PySem.W.mg_none_of X G b_int, PySem.W.mg_none_of X G b_isinstance, PySem.W.mg_none_of X G b_len, PySem.W.mg_none_of X G b_list, PySem.W.mg_none_of X G b_max, PySem.W.mg_none_of X G b_range, ⟨_, PySem.W.mg_of X G g_ALL_BITS, ⟨_, rfl⟩⟩, ⟨_, PySem.W.mg_of X G g_POLYNOMIAL, ⟨_, rfl⟩⟩, ⟨_, PySem.W.mg_of X G g_TOP, ⟨_, rfl⟩⟩⟩
  have F1 := fun_mk (st := s_sum_of) l1 c1 k1
  have F2 := fun_mk (st := s__law_cell) l2 c2 k2
  have F3 := fun_mk (st := s__law_row) l3 c3 k3
  have F4 := fun_mk (st := s__law_integer) l4 c4 k4
  have F5 := fun_mk (st := s__law_sum) l5 c5 k5
  have F6 := fun_mk (st := s_law) l6 c6 k6
  refine ⟨_, fun s v => .of_eq (fd := PySem.W.fnOf "law" "law" (defArgs s_law) (defBody s_law) (defScope s_law) .none kV6 dc6 pm6 an6 cd6 ct6) rfl, fun base _ _ => ?_⟩
  have E_sum_of : FnE P w K mg base CX0 "sum_of" 1 ["octets"] (sp_sum_of K) := ⟨_, _, PySem.W.mg_of X G a1, k1, F1.binds (ps := ["octets"]) fun _ _ _ _ _ _ us hl => match us, hl with | [_], _ => rfl, ok_sum_of T F1⟩
  have E__law_cell : FnE P w K mg base CX0 "_law_cell" 1 ["script", "k"] (sp__law_cell K) := ⟨_, _, PySem.W.mg_of X G a2, k2, F2.binds (ps := ["script", "k"]) fun _ _ _ _ _ _ us hl => match us, hl with | [_, _], _ => rfl, ok__law_cell T F2⟩
  have E__law_row : FnE P w K mg base CX0 "_law_row" 1 ["cell", "count", "bound"] (sp__law_row K) := ⟨_, _, PySem.W.mg_of X G a3, k3, F3.binds (ps := ["cell", "count", "bound"]) fun _ _ _ _ _ _ us hl => match us, hl with | [_, _, _], _ => rfl, ok__law_row T F3⟩
  have E__law_integer : FnE P w K mg base CX0 "_law_integer" 1 ["value"] (sp__law_integer K) := ⟨_, _, PySem.W.mg_of X G a4, k4, F4.binds (ps := ["value"]) fun _ _ _ _ _ _ us hl => match us, hl with | [_], _ => rfl, ok__law_integer T F4⟩
  have E__law_sum : FnE P w K mg base CX0 "_law_sum" 1 ["octets"] (sp__law_sum K) := ⟨_, _, PySem.W.mg_of X G a5, k5, F5.binds (ps := ["octets"]) fun _ _ _ _ _ _ us hl => match us, hl with | [_], _ => rfl, ok__law_sum T F5⟩
  exact lawS (ok_law T E__law_cell E__law_integer E__law_row E__law_sum E_sum_of F6)
theorem walk {l : PySem.W.OpenLaw} {q : Program} {loose : List Str} {XP : (Str → Option Value) → Heap → Prop} {YP : World → Heap → Prop} {d : DefRec} {K : Params → PySem.W.Frag} (hn : l.most = some 63) (hdf : d.params.defaults = [])
    (hY : ∀ (w : World) (h : Heap), YP w h → (K w.params).In h)
    (F : ∀ (w : World) (mg : Str → Option Value) (fa : Addr) (h : Heap), (K w.params).In h → h.Ns mainGlobals mg → mg d.name = some (.ref fa) →
      ∃ fd : FuncData, (∀ (s : Shared) (u : Value), BindsTo s fd ⟨[u], []⟩ [("script", u)]) ∧ ∀ base : Heap, (K w.params).In base → base.Ns mainGlobals mg → FnOk l.prog w (K w.params) mg base CX0 2 fa fd ["script"] (spLawS (K w.params))) :
    PySem.W.WalkO q loose XP YP l.row.toRowW d [] (fun f vs => PySem.call f vs) :=
  L2.walk_of (n := 63) (k := 2) (x := "script") (CX := fun _ => CX0) (sp := fun w => spLawS (K w.params)) hn (by decide) hdf ⟨rfl, by decide, by decide⟩ hY F (fun _ _ a ns hl _ hS => ⟨a, ns, rfl, hS, hl, fun _ => rfl⟩) fun _ _ _ _ _ z => z
end My
open PySem PySem.W PyProof.Rows in
set_option maxRecDepth 100000 in
set_option maxHeartbeats 0 in
theorem PySem.Challenge.cw_formstripes_k35_sums_of_octets_holds : PySem.Challenge.rw_formstripes_k35_sums_of_octets.Holds := by
  w_on; o_law; k_head; (case hw => w_witness2)
  k_fill
  refine My.walk (l := PySem.Challenge.rw_formstripes_k35_sums_of_octets) rfl rfl (fun w h Y => PySem.W.kIn_of Y) ?F
  case F =>
    intro w mg fa h KX G hmg
    refine' My.all_mk KX G hmg ?a1 ?l1 ?c1 ?k1 ?a2 ?l2 ?c2 ?k2 ?a3 ?l3 ?c3 ?k3 ?a4 ?l4 ?c4 ?k4 ?a5 ?l5 ?c5 ?k5 ?a6 ?l6 ?c6 ?k6 ?b_abs ?b_bool ?b_int ?b_isinstance ?b_len ?b_list ?b_max ?b_range ?g_ALL_BITS ?g_POLYNOMIAL ?g_TOP
    (case a1 => k_is)
    (case l1 => k_is)
    (case c1 => k_is)
    (case k1 => k_is)
    (case a2 => k_is)
    (case l2 => k_is)
    (case c2 => k_is)
    (case k2 => k_is)
    (case a3 => k_is)
    (case l3 => k_is)
    (case c3 => k_is)
    (case k3 => k_is)
    (case a4 => k_is)
    (case l4 => k_is)
    (case c4 => k_is)
    (case k4 => k_is)
    (case a5 => k_is)
    (case l5 => k_is)
    (case c5 => k_is)
    (case k5 => k_is)
    (case a6 => k_is)
    (case l6 => k_is)
    (case c6 => k_is)
    (case k6 => k_is)
    (case b_abs => k_is)
    (case b_bool => k_is)
    (case b_int => k_is)
    (case b_isinstance => k_is)
    (case b_len => k_is)
    (case b_list => k_is)
    (case b_max => k_is)
    (case b_range => k_is)
    (case g_ALL_BITS => k_is)
    (case g_POLYNOMIAL => k_is)
    (case g_TOP => k_is)

