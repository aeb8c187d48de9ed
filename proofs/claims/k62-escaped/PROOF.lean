import PyProof.Rows.All
import Wide.All
import OpenK.AllK
import Wide.FinOn
import HandS.ForMost
import HandS.Wide
import HandS.WideBits
import HandS.IsInst
import HandS.Flow
import HandS.More
import KE.OsArith
import KE.KExcSuper
import KE.KSuper
import HandS.ExcInit
import HandS.Nested
import HandS.TryOnly
import HandS.TryMany
import HandS.WordsExc
import HandS.SuiteRaise
import HandS.ExcIs
import HandS.ExcField
import HandS.ExcOwn
import HandS.CallSlots
import KE.KExcIs
import HandS.Defaults
import HandS.Replace
import HandS.Walk
import HandS.Text
import PySem.Challenge.RW_formstripes_k62_escaped_texts
set_option Elab.async false
set_option linter.all false
set_option maxRecDepth 100000
set_option maxHeartbeats 4000000
/-! R: rules joined by kinds of values, with the equations of their readings. -/
namespace R
open PySem PySem.Spec PyProof.Rows L2

section
variable {X : Cx}
theorem opImp {f : Value → Value → Sem Value} {r r' : R2} (h : OpR X f r) (i : ∀ x y H Q, r' x y H Q → r x y H Q) : OpR X f r' :=
  fun pins s σ H x y u v Q I rx ry q => h pins s σ H x y u v Q I rx ry (i _ _ _ _ q)
theorem unImp {f : Value → Sem Value} {r r' : V → Hp → VK → Prop} (h : UnR X f r) (i : ∀ x H Q, r' x H Q → r x H Q) : UnR X f r' :=
  fun pins s σ H x v Q I rx q => h pins s σ H x v Q I rx (i _ _ _ q)
theorem callImp {f : Value} {r r' : List V → Hp → VK → Prop} (h : CallR X f r) (i : ∀ xs H Q, r' xs H Q → r xs H Q) : CallR X f r' :=
  fun pins s σ H xs us Q I rx q => h pins s σ H xs us Q I rx (i _ _ _ q)
theorem ixImp {r r' : R2} (h : IxR X r) (i : ∀ x y H Q, r' x y H Q → r x y H Q) : IxR X r' :=
  fun a b pins s σ H x y u v Q I rx ry q e => h a b pins s σ H x y u v Q I rx ry (i _ _ _ _ q) e
theorem mtImp {id : String} {r r' : V → List V → Hp → VK → Prop} (h : MtR X id r) (i : ∀ x xs H Q, r' x xs H Q → r x xs H Q) : MtR X id r' :=
  fun pins s σ H x xs u us Q I rx ry q => h pins s σ H x xs u us Q I rx ry (i _ _ _ _ q)
end

/-! ### ints -/
def mI (C : Int → Int → Prop) (g : Int → Int → V) : R2 := fun x y H Q => match x, y with
  | .int i, .int j => C i j ∧ Q (g i j) H
  | _, _ => False
def mI0 (g : Int → Int → V) : R2 := fun x y H Q => match x, y with
  | .int i, .int j => Q (g i j) H
  | _, _ => False
theorem mI_e {C g i j H Q} : mI C g (.int i) (.int j) H Q = (C i j ∧ Q (g i j) H) := rfl
theorem mI0_e {g i j H Q} : mI0 g (.int i) (.int j) H Q = Q (g i j) H := rfl
theorem mI_of {X : Cx} {f : Value → Value → Sem Value} {C g} (h : OpR X f (rI C g)) : OpR X f (mI C g) := opImp h fun x y H Q q => by
  cases x <;> cases y <;> first | exact q.elim | exact ⟨_, _, rfl, rfl, q.1, q.2⟩
theorem mI0_of {X : Cx} {f : Value → Value → Sem Value} {g} (h : OpR X f (rI0 g)) : OpR X f (mI0 g) := opImp h fun x y H Q q => by
  cases x <;> cases y <;> first | exact q.elim | exact ⟨_, _, rfl, rfl, q⟩
/-- a product's sizes -/
def CM (i j : Int) : Prop := CMul i j ∨ CMulW i j
/-- a divisor's size -/
def CD (i j : Int) : Prop := 0 < j ∧ (j < 1073741824 ∨ j.natAbs.log2 < 9000)
/-- a shift's sizes -/
def CS (i j : Int) : Prop := 0 ≤ j ∧ ((j ≤ 1000000 ∧ i.natAbs < 2 ^ 64) ∨ (Builtin.Int.intBits i : Int) + j ≤ 2 ^ 27)
section
variable {X : Cx}
theorem orI {f : Value → Value → Sem Value} {C C' g} (h : OpR X f (rI C g)) (h' : OpR X f (rI C' g)) : OpR X f (rI (fun i j => C i j ∨ C' i j) g) :=
  opImp (h.or h') fun x y H Q ⟨i, j, e1, e2, c, q⟩ => c.elim (fun c => .inl ⟨i, j, e1, e2, c, q⟩) fun c => .inr ⟨i, j, e1, e2, c, q⟩
theorem cI {f : Value → Value → Sem Value} {C C' : Int → Int → Prop} {g} (h : OpR X f (rI C g)) (i : ∀ i j, C' i j → C i j) : OpR X f (rI C' g) :=
  opImp h fun x y H Q ⟨a, b, e1, e2, c, q⟩ => ⟨a, b, e1, e2, i _ _ c, q⟩
def rSubI : R2 := mI0 fun i j => .int (i - j)
def rMulI : R2 := mI CM fun i j => .int (i * j)
def rFdiv : R2 := mI CD fun i j => .int (i / j)
def rMod : R2 := mI (fun _ j => 0 < j) fun i j => .int (i % j)
def rShl : R2 := mI CS fun i j => .int (i * 2 ^ j.toNat)
def rShr : R2 := mI (fun _ j => 0 ≤ j) fun i j => .int (i / 2 ^ j.toNat)
def rXor : R2 := mI0 fun i j => .int (Builtin.bitXor i j)
def rAndB : R2 := mI0 fun i j => .int (Builtin.bitAnd i j)
def rOrB : R2 := mI0 fun i j => .int (Builtin.bitOr i j)
def rPow : R2 := mI CPow fun i j => .int (i ^ j.toNat)
theorem u_sub : OpR X (binaryOp .Sub) rSubI := mI0_of op_sub
theorem u_mulI : OpR X (binaryOp .Mult) rMulI := mI_of (orI op_mul op_mulW)
theorem u_fdiv : OpR X (binaryOp .FloorDiv) rFdiv := mI_of (cI (orI op_fdiv op_fdivW) fun i j c => c.2.elim (fun h => .inl ⟨c.1, h⟩) fun h => .inr ⟨c.1, h⟩)
theorem u_mod : OpR X (binaryOp .Mod) rMod := mI_of op_mod
theorem u_shl : OpR X (binaryOp .LShift) rShl := mI_of (cI (orI op_shl op_shlW) fun i j c => c.2.elim (fun h => .inl ⟨c.1, h.1, h.2⟩) fun h => .inr ⟨c.1, h⟩)
theorem u_shr : OpR X (binaryOp .RShift) rShr := mI_of op_shr
theorem u_xor : OpR X (binaryOp .BitXor) rXor := mI0_of op_xor
theorem u_and : OpR X (binaryOp .BitAnd) rAndB := mI0_of op_and
theorem u_or : OpR X (binaryOp .BitOr) rOrB := mI0_of op_or
theorem u_pow : OpR X (binaryOp .Pow) rPow := mI_of op_pow
theorem i_sub : OpR X (inplaceOp .Sub) rSubI := mI0_of iop_sub
theorem i_mod : OpR X (inplaceOp .Mod) rMod := mI_of iop_mod
theorem i_shl : OpR X (inplaceOp .LShift) rShl := mI_of (cI (orI iop_shl iop_shlW) fun i j c => c.2.elim (fun h => .inl ⟨c.1, h.1, h.2⟩) fun h => .inr ⟨c.1, h⟩)
theorem i_shr : OpR X (inplaceOp .RShift) rShr := mI_of iop_shr
theorem i_xor : OpR X (inplaceOp .BitXor) rXor := mI0_of iop_xor
theorem i_and : OpR X (inplaceOp .BitAnd) rAndB := mI0_of iop_and
theorem i_or : OpR X (inplaceOp .BitOr) rOrB := mI0_of iop_or
end
/-! ### new objects -/
def Nw (H : Hp) (o : HO) (Q : VK) : Prop := ∀ p, H p = none → Q (.ref p) (upd H p o)
/-- all that was tracked is as it was -/
theorem Same.new {H : Hp} {p : Addr} {o : HO} (h : H p = none) : Same H (upd H p o) := fun a u e => by
  rw [upd_ne (ne_of_none e h)]
  exact e
theorem nw {H : Hp} {o : HO} {Q : VK} (h : ∀ p H', H p = none → Same H H' → H' p = some o → Q (.ref p) H') : Nw H o Q := fun p hp => h p _ hp (Same.new hp) upd_same

/-! ### lists and tuples that are read -/
open Classical in
noncomputable def klst (K : PySem.W.Frag) (p : Addr) : Option (List V) := if h : ∃ xs, SqL K (fun _ => none) p xs then some (Classical.choose h) else none
open Classical in
noncomputable def ktup (K : PySem.W.Frag) (p : Addr) : Option (List V) := if h : ∃ xs, SqT K (fun _ => none) p xs then some (Classical.choose h) else none
noncomputable def lstv (K : PySem.W.Frag) (H : Hp) (p : Addr) : Option (List V) := match H p with
  | some (.lst xs) => some xs
  | some (.frz _ (.lst xs)) => some xs
  | none => klst K p
  | _ => none
noncomputable def tupv (K : PySem.W.Frag) (H : Hp) (p : Addr) : Option (List V) := match H p with
  | some (.tup xs) => some xs
  | some (.frz _ (.tup xs)) => some xs
  | none => ktup K p
  | _ => none
section
variable {K : PySem.W.Frag} {H H' : Hp} {p : Addr} {xs : List V}
theorem lstv_of (h : H p = some (.lst xs)) : lstv K H p = some xs := by unfold lstv; rw [h]
theorem lstv_frz {o} (h : H p = some (.frz o (.lst xs))) : lstv K H p = some xs := by unfold lstv; rw [h]
theorem tupv_of (h : H p = some (.tup xs)) : tupv K H p = some xs := by unfold tupv; rw [h]
theorem lstv_tup (h : H p = some (.tup xs)) : lstv K H p = none := by unfold lstv; rw [h]
theorem tupv_lst (h : H p = some (.lst xs)) : tupv K H p = none := by unfold tupv; rw [h]
theorem tupv_frz {o} (h : H p = some (.frz o (.lst xs))) : tupv K H p = none := by unfold tupv; rw [h]
theorem lstv_sq (h : lstv K H p = some xs) : SqL K H p xs := by
  unfold lstv at h
  split at h
  · cases h; exact .inl (.inl ‹_›)
  · cases h; exact .inl (.inr ⟨_, ‹_›⟩)
  · unfold klst at h
    split at h
    · rename_i hn he
      have q := Classical.choose_spec he
      cases h
      rcases q with (q | ⟨_, q⟩) | q
      · cases q
      · cases q
      · exact .inr q
    · cases h
  · cases h
theorem tupv_sq (h : tupv K H p = some xs) : SqT K H p xs := by
  unfold tupv at h
  split at h
  · cases h; exact .inl (.inl ‹_›)
  · cases h; exact .inl (.inr ⟨_, ‹_›⟩)
  · unfold ktup at h
    split at h
    · rename_i hn he
      have q := Classical.choose_spec he
      cases h
      rcases q with (q | ⟨_, q⟩) | q
      · cases q
      · cases q
      · exact .inr q
    · cases h
  · cases h
end
/-- a list or a tuple -/
noncomputable def sqv (K : PySem.W.Frag) (H : Hp) (p : Addr) : Option (List V) := match lstv K H p with
  | some xs => some xs
  | none => tupv K H p
theorem sqv_sq {K : PySem.W.Frag} {H : Hp} {p : Addr} {xs : List V} (h : sqv K H p = some xs) : SqL K H p xs ∨ SqT K H p xs := by
  unfold sqv at h
  split at h
  · cases h; exact .inl (lstv_sq ‹_›)
  · exact .inr (tupv_sq h)
theorem sqv_l {K : PySem.W.Frag} {H : Hp} {p : Addr} {xs : List V} (h : lstv K H p = some xs) : sqv K H p = some xs := by unfold sqv; rw [h]
theorem sqv_t {K : PySem.W.Frag} {H : Hp} {p : Addr} {xs : List V} (h : H p = some (.tup xs)) : sqv K H p = some xs := by unfold sqv; rw [lstv_tup h]; exact tupv_of h

/-! ### + -/
def rAddU : R2 := fun x y H Q => match x, y with
  | .int i, .int j => Q (.int (i + j)) H
  | .str a, .str b => a.length + b.length ≤ sizeLine ∧ Q (.str (a ++ b)) H
  | .byt a, .byt b => a.size + b.size ≤ 16777216 ∧ Q (.byt (a ++ b)) H
  | .ref a, .ref b => match H a, H b with
    | some (.lst xs), some (.lst ys) => xs.length + ys.length ≤ sizeLine ∧ Nw H (.lst (xs ++ ys)) Q
    | some (.tup xs), some (.tup ys) => xs ≠ [] ∧ xs.length + ys.length ≤ sizeLine ∧ (ys = [] → Q (.ref a) H) ∧ (ys ≠ [] → Nw H (.tup (xs ++ ys)) Q)
    | _, _ => False
  | _, _ => False
theorem rAddU_int {i j H Q} : rAddU (.int i) (.int j) H Q = Q (.int (i + j)) H := rfl
theorem rAddU_str {i j H Q} : rAddU (.str i) (.str j) H Q = (i.length + j.length ≤ sizeLine ∧ Q (.str (i ++ j)) H) := rfl
theorem rAddU_lst {a b : Addr} {xs ys : List V} {H : Hp} {Q} (ha : H a = some (.lst xs)) (hb : H b = some (.lst ys)) : rAddU (.ref a) (.ref b) H Q = (xs.length + ys.length ≤ sizeLine ∧ Nw H (.lst (xs ++ ys)) Q) := by
  unfold rAddU; simp only [ha, hb]
section
variable {X : Cx}
theorem u_add : OpR X (binaryOp .Add) rAddU := opImp (((op_add.or op_add_str).or op_add_byt).or (op_cat.or op_catT)) fun x y H Q q => by
  unfold rAddU at q
  split at q
  · exact .inl (.inl (.inl ⟨_, _, rfl, rfl, q⟩))
  · exact .inl (.inl (.inr ⟨_, _, rfl, rfl, q⟩))
  · exact .inl (.inr ⟨_, _, rfl, rfl, q⟩)
  · split at q
    · exact .inr (.inl ⟨_, _, _, _, rfl, rfl, ‹_›, ‹_›, q⟩)
    · exact .inr (.inr ⟨_, _, _, _, rfl, rfl, SqT.of ‹_›, SqT.of ‹_›, q⟩)
    · exact q.elim
  · exact q.elim
def rIaddU : R2 := fun x y H Q => match x, y with
  | .int i, .int j => Q (.int (i + j)) H
  | .str a, .str b => a.length + b.length ≤ sizeLine ∧ Q (.str (a ++ b)) H
  | _, _ => False
theorem i_add : OpR X (inplaceOp .Add) rIaddU := opImp (iop_add.or iop_add_str) fun x y H Q q => by
  unfold rIaddU at q
  split at q
  · exact .inl ⟨_, _, rfl, rfl, q⟩
  · exact .inr ⟨_, _, rfl, rfl, q⟩
  · exact q.elim
def rMulU : R2 := fun x y H Q => match x, y with
  | .int i, .int j => CM i j ∧ Q (.int (i * j)) H
  | .ref a, .int k => match H a with
    | some (.lst xs) => -(2 ^ 63) ≤ k ∧ k < 2 ^ 63 ∧ xs.length * k.toNat ≤ sizeLine ∧ Nw H (.lst (List.replicate k.toNat xs).flatten) Q
    | _ => False
  | _, _ => False
theorem u_mul : OpR X (binaryOp .Mult) rMulU := opImp (u_mulI.or op_rep) fun x y H Q q => by
  unfold rMulU at q
  split at q
  · exact .inl q
  · split at q
    · exact .inr ⟨_, _, _, rfl, rfl, ‹_›, q⟩
    · exact q.elim
  · exact q.elim

/-! ### comparisons -/
def rLtU : R2 := fun x y H Q => match x, y with
  | .int i, .int j => Q (.bl (decide (i < j))) H
  | .str a, .str b => Q (.bl (decide (a.cps.toList < b.cps.toList))) H
  | _, _ => False
def rLeU : R2 := fun x y H Q => match x, y with
  | .int i, .int j => Q (.bl (decide (i ≤ j))) H
  | .str a, .str b => Q (.bl (!decide (b.cps.toList < a.cps.toList))) H
  | _, _ => False
def rGtU : R2 := fun x y H Q => match x, y with
  | .int i, .int j => Q (.bl (decide (j < i))) H
  | .str a, .str b => Q (.bl (decide (b.cps.toList < a.cps.toList))) H
  | _, _ => False
def rGeU : R2 := fun x y H Q => match x, y with
  | .int i, .int j => Q (.bl (decide (j ≤ i))) H
  | .str a, .str b => Q (.bl (!decide (a.cps.toList < b.cps.toList))) H
  | _, _ => False
theorem u_lt : OpR X (compareOp .Lt) rLtU := opImp (op_lt.or op_lt_str) fun x y H Q q => by
  cases x <;> cases y <;> first | exact q.elim | exact .inl ⟨_, _, rfl, rfl, q⟩ | exact .inr ⟨_, _, rfl, rfl, q⟩
theorem u_le : OpR X (compareOp .LtE) rLeU := opImp (op_le.or op_le_str) fun x y H Q q => by
  cases x <;> cases y <;> first | exact q.elim | exact .inl ⟨_, _, rfl, rfl, q⟩ | exact .inr ⟨_, _, rfl, rfl, q⟩
theorem u_gt : OpR X (compareOp .Gt) rGtU := opImp (op_gt.or op_gt_str) fun x y H Q q => by
  cases x <;> cases y <;> first | exact q.elim | exact .inl ⟨_, _, rfl, rfl, q⟩ | exact .inr ⟨_, _, rfl, rfl, q⟩
theorem u_ge : OpR X (compareOp .GtE) rGeU := opImp (op_ge.or op_ge_str) fun x y H Q q => by
  cases x <;> cases y <;> first | exact q.elim | exact .inl ⟨_, _, rfl, rfl, q⟩ | exact .inr ⟨_, _, rfl, rfl, q⟩
def isRef : V → Bool
  | .ref _ => true
  | _ => false
def rEqU (K : PySem.W.Frag) : R2 := fun x y H Q => if (isRef x || isRef y) = true then rEqD K x y H Q else scal x y = true ∧ Q (.bl (decide (x = y))) H
def rNeU (K : PySem.W.Frag) : R2 := fun x y H Q => if (isRef x || isRef y) = true then rNeD K x y H Q else scal x y = true ∧ Q (.bl (!decide (x = y))) H
theorem u_eq (hu : X.A.units + 64 < cLine) : OpR X (compareOp .Eq) (rEqU X.K) := opImp (op_eq.or (op_eqD hu)) fun x y H Q q => by
  unfold rEqU at q
  split at q
  · exact .inr q
  · exact .inl q
theorem u_ne (hu : X.A.units + 64 < cLine) : OpR X (compareOp .NotEq) (rNeU X.K) := opImp (op_ne.or (op_neD hu)) fun x y H Q q => by
  unfold rNeU at q
  split at q
  · exact .inr q
  · exact .inl q
theorem rEqU_int {K i j H Q} : rEqU K (.int i) (.int j) H Q = Q (.bl (decide (i = j))) H := by unfold rEqU; simp [isRef, scal]
theorem rNeU_int {K i j H Q} : rNeU K (.int i) (.int j) H Q = Q (.bl (!decide (i = j))) H := by unfold rNeU; simp [isRef, scal]
theorem rEqU_str {K i j H Q} : rEqU K (.str i) (.str j) H Q = Q (.bl (decide (i = j))) H := by unfold rEqU; simp [isRef, scal]
theorem rNeU_str {K i j H Q} : rNeU K (.str i) (.str j) H Q = Q (.bl (!decide (i = j))) H := by unfold rNeU; simp [isRef, scal]
theorem rEqU_bl {K i j H Q} : rEqU K (.bl i) (.bl j) H Q = Q (.bl (decide (i = j))) H := by unfold rEqU; simp [isRef, scal]
theorem rNeU_bl {K i j H Q} : rNeU K (.bl i) (.bl j) H Q = Q (.bl (!decide (i = j))) H := by unfold rNeU; simp [isRef, scal]
theorem rEqU_ref {K a y H Q} : rEqU K (.ref a) y H Q = rEqD K (.ref a) y H Q := rfl
theorem rNeU_ref {K a y H Q} : rNeU K (.ref a) y H Q = rNeD K (.ref a) y H Q := rfl
/-- is -/
def rIsU : R2 := fun x y H Q => match x, y with
  | x, .non => Q (.bl (decide (x = .non))) H
  | _, _ => False
def rIsNU : R2 := fun x y H Q => match x, y with
  | x, .non => Q (.bl (!decide (x = .non))) H
  | _, _ => False
theorem u_is : OpR X (compareOp .Is) rIsU := opImp op_isN fun x y H Q q => by
  cases y <;> first | exact q.elim | exact ⟨rfl, q⟩
theorem u_isN : OpR X (compareOp .IsNot) rIsNU := opImp op_notN fun x y H Q q => by
  cases y <;> first | exact q.elim | exact ⟨rfl, q⟩
/-- in -/
def inS (a b : Str) : Bool := !(Builtin.Str.occurrences b a 0 b.length 1).isEmpty
theorem inS_one (c : Nat) (z : Str) : inS ⟨#[c]⟩ z = decide (c ∈ z.cps.toList) := PySem.StrLaws.found_one z c
noncomputable def rInU (K : PySem.W.Frag) (neg : Bool) : R2 := fun x y H Q => match y with
  | .str b => (match x with
    | .str a => Q (.bl (if neg then !inS a b else inS a b)) H
    | _ => False)
  | .ref p => (match sqv K H p with
    | some xs => flatV x = true ∧ xs.all flatV = true ∧ Q (.bl (if neg then !inV x xs else inV x xs)) H
    | none => False)
  | _ => False
theorem u_in : OpR X (compareOp .In) (rInU X.K false) := opImp (op_in_str.or op_in_seq) fun x y H Q q => by
  unfold rInU at q
  split at q
  · split at q
    · exact .inl ⟨_, _, rfl, rfl, q⟩
    · exact q.elim
  · split at q
    · exact .inr ⟨_, _, rfl, sqv_sq ‹_›, q⟩
    · exact q.elim
  · exact q.elim
theorem u_nin : OpR X (compareOp .NotIn) (rInU X.K true) := opImp (op_notin_str.or op_notIn_seq) fun x y H Q q => by
  unfold rInU at q
  split at q
  · split at q
    · exact .inl ⟨_, _, rfl, rfl, q⟩
    · exact q.elim
  · split at q
    · exact .inr ⟨_, _, rfl, sqv_sq ‹_›, q⟩
    · exact q.elim
  · exact q.elim
theorem rInU_str {K neg a b H Q} : rInU K neg (.str a) (.str b) H Q = Q (.bl (if neg then !inS a b else inS a b)) H := rfl

/-! ### - and not -/
def mU (g : Int → V) : V → Hp → VK → Prop := fun x H Q => match x with
  | .int i => Q (g i) H
  | _ => False
theorem u_neg : UnR X (unaryOp .USub) (mU fun i => .int (-i)) := unImp un_neg fun x H Q q => by
  cases x <;> first | exact q.elim | exact ⟨_, rfl, q⟩

/-! ### items, slices -/
noncomputable def rIxU (K : PySem.W.Frag) : R2 := fun x y H Q => match x, y with
  | .str z, .int i => z.length ≤ sizeLine ∧ (match atI z.cps.toList i with
    | some c => Q (.str ⟨#[c]⟩) H
    | none => False)
  | .ref p, .int i => (match sqv K H p with
    | some xs => (match atI xs i with
      | some v => Q v H
      | none => False)
    | none => False)
  | _, _ => False
theorem u_ix : IxR X (rIxU X.K) := ixImp ix_seq fun x y H Q q => by
  unfold rIxU at q
  split at q
  · split at q
    · exact .inr (.inr ⟨_, _, _, rfl, rfl, q.1, ‹_›, q.2⟩)
    · exact q.2.elim
  · split at q
    · rename_i h
      split at q
      · rcases sqv_sq h with h | h
        · exact .inl ⟨_, _, _, _, rfl, rfl, h, ‹_›, q⟩
        · exact .inr (.inl ⟨_, _, _, _, rfl, rfl, h, ‹_›, q⟩)
      · exact q.elim
    · exact q.elim
  · exact q.elim
noncomputable def rSlU (K : PySem.W.Frag) : V → Option Int → Option Int → Hp → VK → Prop := fun x lo hi H Q => match x with
  | .str z => z.length ≤ sizeLine ∧ Q (.str (cutS z lo hi)) H
  | .ref p => (match lstv K H p with
    | some xs => Nw H (.lst (cutV xs lo hi)) Q
    | none => False)
  | _ => False
theorem slImp {r r' : V → Option Int → Option Int → Hp → VK → Prop} (h : SlR X r) (i : ∀ x lo hi H Q, r' x lo hi H Q → r x lo hi H Q) : SlR X r' := by
  intro pins s σ H x v lo hi
  intros
  apply h <;> first | assumption | (apply i; assumption)
theorem u_sl : SlR X (rSlU X.K) := slImp (sl_str.or sl_list) fun x lo hi H Q q => by
  unfold rSlU at q
  split at q
  · exact .inl ⟨_, rfl, q⟩
  · split at q
    · exact .inr ⟨_, _, rfl, lstv_sq ‹_›, q⟩
    · exact q.elim
  · exact q.elim
end

/-! ### built-in calls -/
section
variable {X : Cx}
noncomputable def rLenU (K : PySem.W.Frag) : List V → Hp → VK → Prop := fun xs H Q => match xs with
  | [.str z] => z.length ≤ sizeLine ∧ Q (.int z.length) H
  | [.byt z] => z.size ≤ sizeLine ∧ Q (.int z.size) H
  | [.ref p] => (match sqv K H p with
    | some xs => Q (.int xs.length) H
    | none => (match H p with
      | some (.dK kvs) => Q (.int kvs.length) H
      | _ => False))
  | _ => False
theorem c_len : CallR X (.builtin "len") (rLenU X.K) := callImp (call_len.or call_lenD) fun xs H Q q => by
  unfold rLenU at q
  split at q
  · exact .inl ⟨_, _, rfl, ⟨q.1, rfl⟩, q.2⟩
  · exact .inl ⟨_, _, rfl, ⟨q.1, rfl⟩, q.2⟩
  · split at q
    · rename_i h
      refine .inl ⟨_, _, rfl, ?_, q⟩
      rcases sqv_sq h with h | h
      · exact .inl ⟨_, h, rfl⟩
      · exact .inr ⟨_, h, rfl⟩
    · split at q
      · exact .inr ⟨_, _, rfl, ‹_›, q⟩
      · exact q.elim
  · exact q.elim
def rInt : List V → Hp → VK → Prop := fun xs H Q => match xs with
  | [.int i] => Q (.int i) H
  | [.bl k] => Q (.int (if k then 1 else 0)) H
  | [.str a] => (match PySem.intText? a with
    | some n => a.length ≤ 640 ∧ Q (.int n) H
    | none => False)
  | _ => False
theorem c_int : CallR X (.type "int") rInt := callImp (call_int1.or call_int_str) fun xs H Q q => by
  unfold rInt at q
  split at q
  · exact .inl (.inl ⟨_, rfl, q⟩)
  · exact .inl (.inr ⟨_, rfl, q⟩)
  · split at q
    · exact .inr ⟨_, _, rfl, ‹_›, q.1, q.2⟩
    · exact q.elim
  · exact q.elim
def rAbs : List V → Hp → VK → Prop := fun xs H Q => match xs with
  | [.int i] => Q (.int (if i < 0 then -i else i)) H
  | _ => False
theorem c_abs : CallR X (.builtin "abs") rAbs := callImp call_abs fun xs H Q q => by
  unfold rAbs at q
  split at q
  · exact ⟨_, rfl, q⟩
  · exact q.elim
def rMax2 : List V → Hp → VK → Prop := fun xs H Q => match xs with
  | [.int i, .int j] => Q (.int (if j > i then j else i)) H
  | _ => False
def rMin2 : List V → Hp → VK → Prop := fun xs H Q => match xs with
  | [.int i, .int j] => Q (.int (if j < i then j else i)) H
  | _ => False
theorem c_max2 (hc : X.calm = true) : CallR X (.builtin "max") rMax2 := callImp (call_max2 hc) fun xs H Q q => by
  unfold rMax2 at q
  split at q
  · exact ⟨_, _, rfl, q⟩
  · exact q.elim
theorem c_min2 (hc : X.calm = true) : CallR X (.builtin "min") rMin2 := callImp (call_min2 hc) fun xs H Q q => by
  unfold rMin2 at q
  split at q
  · exact ⟨_, _, rfl, q⟩
  · exact q.elim
noncomputable def rListOf (K : PySem.W.Frag) : List V → Hp → VK → Prop := fun xs H Q => match xs with
  | [.ref p] => (match sqv K H p with
    | some ys => Nw H (.lst ys) Q
    | none => (match H p with
      | some (.dK kvs) => Nw H (.lst (kvs.map fun kv => kV kv.1)) Q
      | _ => False))
  | _ => False
theorem c_list (hc : X.calm = true) : CallR X (.type "list") (rListOf X.K) := callImp (call_list_of.or (call_listD hc)) fun xs H Q q => by
  unfold rListOf at q
  split at q
  · split at q
    · exact .inl ⟨_, _, rfl, sqv_sq ‹_›, q⟩
    · split at q
      · exact .inr ⟨_, _, rfl, .inl ‹_›, q⟩
      · exact q.elim
  · exact q.elim
/-- a value's type by name -/
def tyN (H : Hp) : V → Option String
  | .non => some "NoneType"
  | .bl _ => some "bool"
  | .int _ => some "int"
  | .str _ => some "str"
  | .byt _ => some "bytes"
  | .ref p => (match H p with
    | some (.lst _) => some "list"
    | some (.frz _ (.lst _)) => some "list"
    | some (.tup _) => some "tuple"
    | some (.dK _) => some "dict"
    | some (.dT _) => some "dict"
    | _ => none)
  | _ => none
theorem tyN_x {K : PySem.W.Frag} {H : Hp} {x : V} {t : String} (h : tyN H x = some t) : TyX K H x (.type t) := by
  cases x with
  | non => cases h; exact .base .non
  | bl b => cases h; exact .base (.bl b)
  | int b => cases h; exact .base (.int b)
  | str b => cases h; exact .base (.str b)
  | byt b => cases h; exact .byt b
  | flt b => cases h
  | ty b => cases h
  | ref p =>
    unfold tyN at h
    simp only at h
    split at h
    · cases h; exact .base (.lst ‹_›)
    · cases h; exact .base (.frz ‹_›)
    · cases h; exact .base (.tup ‹_›)
    · cases h; exact .base (.dK ‹_›)
    · cases h; exact .base (.dT ‹_›)
    · cases h
def rIsiB : List V → Hp → VK → Prop := fun xs H Q => match xs with
  | [x, .ty T] => (match tyN H x with
    | some t => (match kitB t T with
      | some b => Q (.bl b) H
      | none => False)
    | none => False)
  | _ => False
theorem c_isi : CallR X (.builtin "isinstance") rIsiB := callImp call_isi fun xs H Q q => by
  unfold rIsiB at q
  split at q
  · split at q
    · split at q
      · exact ⟨_, _, _, _, _, rfl, .ty _, tyN_x ‹_›, kit_ty ‹_›, q⟩
      · exact q.elim
    · exact q.elim
  · exact q.elim
theorem kit_NoneType_bool : kitB "NoneType" "bool" = some false := by decide +kernel
theorem kit_NoneType_int : kitB "NoneType" "int" = some false := by decide +kernel
theorem kit_NoneType_str : kitB "NoneType" "str" = some false := by decide +kernel
theorem kit_NoneType_bytes : kitB "NoneType" "bytes" = some false := by decide +kernel
theorem kit_NoneType_list : kitB "NoneType" "list" = some false := by decide +kernel
theorem kit_NoneType_tuple : kitB "NoneType" "tuple" = some false := by decide +kernel
theorem kit_NoneType_dict : kitB "NoneType" "dict" = some false := by decide +kernel
theorem kit_bool_bool : kitB "bool" "bool" = some true := by decide +kernel
theorem kit_bool_int : kitB "bool" "int" = some true := by decide +kernel
theorem kit_bool_str : kitB "bool" "str" = some false := by decide +kernel
theorem kit_bool_bytes : kitB "bool" "bytes" = some false := by decide +kernel
theorem kit_bool_list : kitB "bool" "list" = some false := by decide +kernel
theorem kit_bool_tuple : kitB "bool" "tuple" = some false := by decide +kernel
theorem kit_bool_dict : kitB "bool" "dict" = some false := by decide +kernel
theorem kit_int_bool : kitB "int" "bool" = some false := by decide +kernel
theorem kit_int_int : kitB "int" "int" = some true := by decide +kernel
theorem kit_int_str : kitB "int" "str" = some false := by decide +kernel
theorem kit_int_bytes : kitB "int" "bytes" = some false := by decide +kernel
theorem kit_int_list : kitB "int" "list" = some false := by decide +kernel
theorem kit_int_tuple : kitB "int" "tuple" = some false := by decide +kernel
theorem kit_int_dict : kitB "int" "dict" = some false := by decide +kernel
theorem kit_str_bool : kitB "str" "bool" = some false := by decide +kernel
theorem kit_str_int : kitB "str" "int" = some false := by decide +kernel
theorem kit_str_str : kitB "str" "str" = some true := by decide +kernel
theorem kit_str_bytes : kitB "str" "bytes" = some false := by decide +kernel
theorem kit_str_list : kitB "str" "list" = some false := by decide +kernel
theorem kit_str_tuple : kitB "str" "tuple" = some false := by decide +kernel
theorem kit_str_dict : kitB "str" "dict" = some false := by decide +kernel
theorem kit_bytes_bool : kitB "bytes" "bool" = some false := by decide +kernel
theorem kit_bytes_int : kitB "bytes" "int" = some false := by decide +kernel
theorem kit_bytes_str : kitB "bytes" "str" = some false := by decide +kernel
theorem kit_bytes_bytes : kitB "bytes" "bytes" = some true := by decide +kernel
theorem kit_bytes_list : kitB "bytes" "list" = some false := by decide +kernel
theorem kit_bytes_tuple : kitB "bytes" "tuple" = some false := by decide +kernel
theorem kit_bytes_dict : kitB "bytes" "dict" = some false := by decide +kernel
theorem kit_list_bool : kitB "list" "bool" = some false := by decide +kernel
theorem kit_list_int : kitB "list" "int" = some false := by decide +kernel
theorem kit_list_str : kitB "list" "str" = some false := by decide +kernel
theorem kit_list_bytes : kitB "list" "bytes" = some false := by decide +kernel
theorem kit_list_list : kitB "list" "list" = some true := by decide +kernel
theorem kit_list_tuple : kitB "list" "tuple" = some false := by decide +kernel
theorem kit_list_dict : kitB "list" "dict" = some false := by decide +kernel
theorem kit_tuple_bool : kitB "tuple" "bool" = some false := by decide +kernel
theorem kit_tuple_int : kitB "tuple" "int" = some false := by decide +kernel
theorem kit_tuple_str : kitB "tuple" "str" = some false := by decide +kernel
theorem kit_tuple_bytes : kitB "tuple" "bytes" = some false := by decide +kernel
theorem kit_tuple_list : kitB "tuple" "list" = some false := by decide +kernel
theorem kit_tuple_tuple : kitB "tuple" "tuple" = some true := by decide +kernel
theorem kit_tuple_dict : kitB "tuple" "dict" = some false := by decide +kernel
theorem kit_dict_bool : kitB "dict" "bool" = some false := by decide +kernel
theorem kit_dict_int : kitB "dict" "int" = some false := by decide +kernel
theorem kit_dict_str : kitB "dict" "str" = some false := by decide +kernel
theorem kit_dict_bytes : kitB "dict" "bytes" = some false := by decide +kernel
theorem kit_dict_list : kitB "dict" "list" = some false := by decide +kernel
theorem kit_dict_tuple : kitB "dict" "tuple" = some false := by decide +kernel
theorem kit_dict_dict : kitB "dict" "dict" = some true := by decide +kernel
end

/-! ### tests -/
noncomputable def truV (K : PySem.W.Frag) (x : V) (H : Hp) (Q : Bool → Hp → Prop) : Prop := match x with
  | .non => Q false H
  | .bl b => Q b H
  | .int i => Q (i != 0) H
  | .str y => y.length ≤ sizeLine ∧ Q ((y.length : Int) != 0) H
  | .ref p => (match sqv K H p with
    | some xs => Q (!xs.isEmpty) H
    | none => (match H p with
      | some (.dK kvs) => Q (!kvs.isEmpty) H
      | _ => False))
  | _ => False
theorem truV_k {K : PySem.W.Frag} {x : V} {H : Hp} {Q : Bool → Hp → Prop} (q : truV K x H Q) : ∃ k, TruV K x H k ∧ Q k H := by
  unfold truV at q
  split at q
  · exact ⟨_, rfl, q⟩
  · exact ⟨_, rfl, q⟩
  · exact ⟨_, rfl, q⟩
  · exact ⟨_, ⟨q.1, rfl⟩, q.2⟩
  · split at q
    · rename_i h
      refine ⟨_, ?_, q⟩
      rcases sqv_sq h with h | h
      · exact .inl ⟨_, h, rfl⟩
      · exact .inr (.inl ⟨_, h, rfl⟩)
    · split at q
      · exact ⟨_, .inr (.inr ⟨_, ‹_›, rfl⟩), q⟩
      · exact q.elim
  · exact q.elim
def tTr (K : PySem.W.Frag) (ta : TE) : TT := fun σ H Q => ta σ H fun x H' => truV K x H' Q
section
variable {X : Cx} {a b : Expr} {ta tb : TE} {pos : Pos} {rest : List Expr}
theorem pt_tr (ha : PE X a ta) (he : ∀ whole, isTrue a X.env whole = (do let v ← whole; standAt a.pos; holding [v] (truthy v)) := by intro _; rfl) : PT X a (tTr X.K ta) := by
  refine ⟨fun pins s σ H Q I h => ?_⟩
  exact isTrue_plain (thn (ha.run pins s σ H _ I h) fun v s1 ⟨x, H1, I1, r1, q1⟩ => tru_ok pins s1 σ H1 x v Q I1 r1 (truV_k q1)) (he _)
/-- not, as a value -/
def tNotU (K : PySem.W.Frag) (ta : TE) : TE := fun σ H Q => ta σ H fun x H1 => truV K x H1 fun k H2 => Q (.bl (!k)) H2
/-- a comparison as a test -/
def tTe (t : TE) : TT := fun σ H Q => t σ H fun x H' => match x with
  | .bl k => Q k H'
  | _ => False
end

/-! ### readings closed upward -/
def clE (t : TE) : TE := fun σ H Q => ∃ Q0 : VK, t σ H Q0 ∧ ∀ v H', Q0 v H' → Q v H'
def clA (t : TA) : TA := fun σ H Q => ∃ Q0 : List V → Hp → Prop, t σ H Q0 ∧ ∀ v H', Q0 v H' → Q v H'
section
variable {X : Cx} {e : Expr} {es : List Expr} {t : TE} {ta : TA}
theorem peCl (h : PE X e t) : PE X e (clE t) := ⟨fun pins s σ H Q I ⟨Q0, q, m⟩ =>
  thn (h.run pins s σ H Q0 I q) fun _ _ ⟨v, H', I', r, q'⟩ => ⟨v, H', I', r, m _ _ q'⟩⟩
theorem paCl (h : PA X es ta) : PA X es (clA ta) := ⟨fun pos pins s σ H Q I ⟨Q0, q, m⟩ =>
  thn (h.run pos pins s σ H Q0 I q) fun _ _ ⟨v, H', I', r, q'⟩ => ⟨v, H', I', r, m _ _ q'⟩⟩
theorem peImp {t' : TE} (h : PE X e t) (i : ∀ σ H Q, t' σ H Q → t σ H Q) : PE X e t' := ⟨fun pins s σ H Q I q => h.run pins s σ H Q I (i _ _ _ q)⟩
end

/-! ### what is walked -/
noncomputable def iLst (K : PySem.W.Frag) (tl : TE) : TI := fun σ H R => tl σ H fun x H1 => match x with
  | .ref a => (match lstv K H1 a with
    | some _ => R (Itl K a) H1
    | none => False)
  | _ => False
noncomputable def iTp (K : PySem.W.Frag) (tl : TE) : TI := fun σ H R => tl σ H fun x H1 => match x with
  | .ref a => (match tupv K H1 a with
    | some _ => R (Itt K a) H1
    | none => False)
  | _ => False
def iSt (tl : TE) : TI := fun σ H R => tl σ H fun x H1 => match x with
  | .str z => R (Its z) H1
  | _ => False
section
variable {X : Cx} {tg l : Expr} {tl : TE}
theorem pi_lst (hl : PE X l tl) : PI X tg l (iLst X.K tl) := ⟨fun pins s σ H R I h => (pi_list (peCl hl)).run pins s σ H R I ⟨_, h, fun x H1 q => by
  cases x <;> first | exact q.elim | skip
  simp only at q
  split at q
  · exact ⟨_, rfl, ⟨_, lstv_sq ‹_›⟩, q⟩
  · exact q.elim⟩⟩
theorem pi_tp (hl : PE X l tl) : PI X tg l (iTp X.K tl) := ⟨fun pins s σ H R I h => (pi_tup (peCl hl)).run pins s σ H R I ⟨_, h, fun x H1 q => by
  cases x <;> first | exact q.elim | skip
  simp only at q
  split at q
  · exact ⟨_, rfl, ⟨_, tupv_sq ‹_›⟩, q⟩
  · exact q.elim⟩⟩
theorem pi_st (hl : PE X l tl) : PI X tg l (iSt tl) := ⟨fun pins s σ H R I h => (pi_str (peCl hl)).run pins s σ H R I ⟨_, h, fun x H1 q => by
  cases x <;> first | exact q.elim | skip
  exact ⟨_, rfl, q⟩⟩⟩
end

/-! ### methods of lists and texts -/
noncomputable def tML (K : PySem.W.Frag) (r : V → List V → Hp → VK → Prop) (to : TE) (t : TA) : TE := fun σ H Q => to σ H fun x H1 => match x with
  | .ref p => (match lstv K H1 p with
    | some _ => t σ H1 fun vs H2 => r (.ref p) vs H2 Q
    | none => False)
  | _ => False
def tMS (r : V → List V → Hp → VK → Prop) (to : TE) (t : TA) : TE := fun σ H Q => to σ H fun x H1 => match x with
  | .str z => t σ H1 fun vs H2 => r (.str z) vs H2 Q
  | _ => False
theorem tml_of {K : PySem.W.Frag} {r : V → List V → Hp → VK → Prop} {to : TE} {t : TA} (σ : L2.St) (H : Hp) (Q : VK) (h : tML K r to t σ H Q) : tBM K "list" r (clE to) (clA t) σ H Q := ⟨_, h, fun x H1 q => by
  cases x <;> first | exact q.elim | skip
  simp only at q
  split at q
  · exact ⟨.inl ⟨rfl, _, lstv_sq ‹_›⟩, _, q, fun _ _ z => z⟩
  · exact q.elim⟩
theorem tml0_of {K : PySem.W.Frag} {r : V → List V → Hp → VK → Prop} {to : TE} (σ : L2.St) (H : Hp) (Q : VK) (h : tML K r to tNil σ H Q) : tBM0 K "list" r (clE to) σ H Q := ⟨_, h, fun x H1 q => by
  cases x <;> first | exact q.elim | skip
  simp only at q
  split at q
  · exact ⟨.inl ⟨rfl, _, lstv_sq ‹_›⟩, q⟩
  · exact q.elim⟩
theorem tms_of {K : PySem.W.Frag} {r : V → List V → Hp → VK → Prop} {to : TE} {t : TA} (σ : L2.St) (H : Hp) (Q : VK) (h : tMS r to t σ H Q) : tBM K "str" r (clE to) (clA t) σ H Q := ⟨_, h, fun x H1 q => by
  cases x <;> first | exact q.elim | skip
  exact ⟨rfl, _, q, fun _ _ z => z⟩⟩
theorem tms0_of {K : PySem.W.Frag} {r : V → List V → Hp → VK → Prop} {to : TE} (σ : L2.St) (H : Hp) (Q : VK) (h : tMS r to tNil σ H Q) : tBM0 K "str" r (clE to) σ H Q := ⟨_, h, fun x H1 q => by
  cases x <;> first | exact q.elim | skip
  exact ⟨rfl, q⟩⟩
def rApp : V → List V → Hp → VK → Prop := fun x vs H Q => match x, vs with
  | .ref l, [y] => (match H l with
    | some (.lst xs) => xs.length < sizeLine ∧ Q .non (upd H l (.lst (xs ++ [y])))
    | _ => False)
  | _, _ => False
theorem m_append {X : Cx} : MtM X "list.append" rApp := fun pins s σ H x xs v us Q I rx rs h => mt_append pins s σ H x xs v us Q I rx rs (by
  unfold rApp at h
  split at h
  · split at h
    · exact ⟨_, _, _, rfl, rfl, ‹_›, h⟩
    · exact h.elim
  · exact h.elim)
section
variable {X : Cx} {o e : Expr} {es : List Expr} {to : TE} {t : TA} {apos pos : Pos}
theorem pe_bitlen (ho : PE X o to) (hbase : attributeBase o "bit_length" X.env (eval o X.env) = eval o X.env := by rfl) (hline : (apos.endLine == pos.line) = true := by rfl) :
    PE X (.Call (.Attribute o "bit_length" apos) [] [] pos) (tUn (mU fun i => .int (Builtin.Int.intBits i : Nat)) to) :=
  peImp (pe_bits (peCl ho) hbase hline) fun σ H Q q => ⟨_, q, fun x H1 q => by cases x <;> first | exact q.elim | exact ⟨_, rfl, q⟩⟩
variable {T id : String} {r : V → List V → Hp → VK → Prop} {name : Str}
theorem pe_ml (slot : Slot "list" name id) (hty : typeOf (.builtin id) = pure (.type "method_descriptor")) (hm : MtR X id r) (ho : PE X o to) (ha : PA X (e :: es) t)
    (hb : attributeBase o name X.env (eval o X.env) = eval o X.env := by rfl)
    (hf : ((backTo pos (starEach (e :: es) X.env)).all (fun x => !x.1) && (backToKw pos (keywordEach [] X.env)).all (fun x => x.1.isSome) && decide ((e :: es).length + ([] : List Keyword).length + (if ([] : List Keyword).isEmpty then 0 else 1) < 30)) = true := by rfl)
    (hl : (apos.endLine == pos.line) = true := by rfl) (hs : starEach (e :: es) X.env = (false, eval e X.env) :: starEach es X.env := by rfl) (hp : (backTo pos (starEach es X.env)).any (·.1) = false := by rfl) :
    PE X (.Call (.Attribute o name apos) (e :: es) [] pos) (tML X.K r to t) := peImp (pe_bm PySem.F.plainAttrs_list slot hty hm (peCl ho) (paCl ha) hb hf hl hs hp) tml_of
theorem pe_ml0 (slot : Slot "list" name id) (hty : typeOf (.builtin id) = pure (.type "method_descriptor")) (hm : MtR X id r) (ho : PE X o to)
    (hb : attributeBase o name X.env (eval o X.env) = eval o X.env := by rfl) (hl : (apos.endLine == pos.line) = true := by rfl) :
    PE X (.Call (.Attribute o name apos) [] [] pos) (tML X.K r to tNil) := peImp (pe_bm0 PySem.F.plainAttrs_list slot hty hm (peCl ho) hb hl) tml0_of
theorem pe_ms (pa : PlainAttrs "str") (slot : Slot "str" name id) (hty : typeOf (.builtin id) = pure (.type "method_descriptor")) (hm : MtR X id r) (ho : PE X o to) (ha : PA X (e :: es) t)
    (hb : attributeBase o name X.env (eval o X.env) = eval o X.env := by rfl)
    (hf : ((backTo pos (starEach (e :: es) X.env)).all (fun x => !x.1) && (backToKw pos (keywordEach [] X.env)).all (fun x => x.1.isSome) && decide ((e :: es).length + ([] : List Keyword).length + (if ([] : List Keyword).isEmpty then 0 else 1) < 30)) = true := by rfl)
    (hl : (apos.endLine == pos.line) = true := by rfl) (hs : starEach (e :: es) X.env = (false, eval e X.env) :: starEach es X.env := by rfl) (hp : (backTo pos (starEach es X.env)).any (·.1) = false := by rfl) :
    PE X (.Call (.Attribute o name apos) (e :: es) [] pos) (tMS r to t) := peImp (pe_bm pa slot hty hm (peCl ho) (paCl ha) hb hf hl hs hp) (tms_of (K := X.K))
theorem pe_ms0 (pa : PlainAttrs "str") (slot : Slot "str" name id) (hty : typeOf (.builtin id) = pure (.type "method_descriptor")) (hm : MtR X id r) (ho : PE X o to)
    (hb : attributeBase o name X.env (eval o X.env) = eval o X.env := by rfl) (hl : (apos.endLine == pos.line) = true := by rfl) :
    PE X (.Call (.Attribute o name apos) [] [] pos) (tMS r to tNil) := peImp (pe_bm0 pa slot hty hm (peCl ho) hb hl) (tms0_of (K := X.K))
theorem pe_append (ho : PE X o to) (ha : PA X (e :: es) t)
    (hb : attributeBase o "append" X.env (eval o X.env) = eval o X.env := by rfl)
    (hf : ((backTo pos (starEach (e :: es) X.env)).all (fun x => !x.1) && (backToKw pos (keywordEach [] X.env)).all (fun x => x.1.isSome) && decide ((e :: es).length + ([] : List Keyword).length + (if ([] : List Keyword).isEmpty then 0 else 1) < 30)) = true := by rfl)
    (hl : (apos.endLine == pos.line) = true := by rfl) (hs : starEach (e :: es) X.env = (false, eval e X.env) :: starEach es X.env := by rfl) (hp : (backTo pos (starEach es X.env)).any (·.1) = false := by rfl) :
    PE X (.Call (.Attribute o "append" apos) (e :: es) [] pos) (tML X.K rApp to t) := pe_ml PySem.F.slot_list_append PySem.F.type_list_append m_append ho ha hb hf hl hs hp
end

/-! ### defs of the text -/
/-- the def x keeps its promise -/
structure FnE (P : Program) (w : World) (K : PySem.W.Frag) (mg : Str → Option Value) (base : Heap) (CX : CXT) (x : Str) (k : Nat) (ps : List Str) (sp : Sp) : Prop where
  ex : ∃ f fd, mg x = some (.ref f) ∧ PySem.W.keepIn K (.ref f) = true ∧ Binds K fd ps [] ∧ FnOk P w K mg base CX k f fd ps sp
/-- a module's constant -/
def Cst (mg : Str → Option Value) (x : Str) (v : V) : Prop := ∃ u, mg x = some u ∧ RelV v u
section
variable {X : Cx} {CX : CXT} {k : Nat} {x : Str} {ps : List Str} {sp : Sp} {E : XK} {p pos : Pos} {e : Expr} {es : List Expr} {t : TA}
theorem pe_fn (F : FnE X.prog X.w X.K X.mg X.base CX x k ps sp) (hr : Room k X.A) (hg : Gl X x) (hx : Passes CX X E) (ha : PA X (e :: es) t)
    (hdb : (x == ("__debug__" : Str)) = false := by decide) (he : starEach (e :: es) X.env = (false, eval e X.env) :: starEach es X.env := by rfl) (hp : (backTo pos (starEach es X.env)).any (·.1) = false := by rfl) :
    PE X (.Call (.Name x p) (e :: es) [] pos) (tCall sp [] E t) := by
  obtain ⟨f, fd, h1, h2, h3, h4⟩ := F.ex
  exact pe_call h4 hr hg h1 h2 h3 .nil hx ha hdb he hp
theorem pe_fn0 (F : FnE X.prog X.w X.K X.mg X.base CX x k ps sp) (hr : Room k X.A) (hg : Gl X x) (hx : Passes CX X E) (hdb : (x == ("__debug__" : Str)) = false := by decide) :
    PE X (.Call (.Name x p) [] [] pos) (tCall sp [] E tNil) := by
  obtain ⟨f, fd, h1, h2, h3, h4⟩ := F.ex
  exact pe_call0 h4 hr hg h1 h2 h3 .nil hx hdb
theorem pe_cst {v : V} (h : Cst X.mg x v) (hg : Gl X x) (hd : (x == ("__debug__" : Str)) = false := by decide) : PE X (.Name x p) (tC v) := by
  obtain ⟨u, h1, h2⟩ := h
  exact pe_glob hg h1 h2 hd
end

/-! ### loops -/
section
variable {K : PySem.W.Frag} {a : Addr} {xs : List V} {g : TG} {tb : TS} {D : Ends} {σ : L2.St} {H : Hp}
/-- what a turn over a known row is to do -/
def Goes (J : It) (g : TG) (tb : TS) (D : Ends) (σ : L2.St) (H : Hp) : Prop := ∃ W : Nat → Nat → L2.St → Hp → Prop, (∃ m, W 0 m σ H) ∧ ∀ i m σ H, W i m σ H →
  (J.stop i H ∧ D.nx σ H) ∨ (J.go i H ∧ ∃ N : L2.St → Hp → Prop, (∀ σ' H', N σ' H' → ∃ m', m' < m ∧ W (i + 1) m' σ' H') ∧ ∀ x H', J.yld i H x H' → g x σ H' fun σ2 H2 => tb { D with nx := N, ct := N, bk := D.nx } σ2 H2)
def tForU (wi : TI) (g : TG) (tb : TS) : TS := fun D σ H => wi σ H fun J H1 => Goes J g tb D σ H1
theorem goesL (Pv : Nat → L2.St → Hp → Prop) (h0 : Pv 0 σ H) (hl : ∀ i σ H, i ≤ xs.length → Pv i σ H → lstv K H a = some xs)
    (hs : ∀ i x σ H, xs[i]? = some x → Pv i σ H → g x σ H fun σ2 H2 => tb { D with nx := Pv (i + 1), ct := Pv (i + 1), bk := D.nx } σ2 H2) (hd : ∀ σ H, Pv xs.length σ H → D.nx σ H) : Goes (Itl K a) g tb D σ H :=
  for_list (K := K) (a := a) (xs := xs) Pv h0 (fun i σ H hi p => lstv_sq (hl i σ H hi p)) hs hd
theorem goesT (Pv : Nat → L2.St → Hp → Prop) (h0 : Pv 0 σ H) (hl : ∀ i σ H, i ≤ xs.length → Pv i σ H → tupv K H a = some xs)
    (hs : ∀ i x σ H, xs[i]? = some x → Pv i σ H → g x σ H fun σ2 H2 => tb { D with nx := Pv (i + 1), ct := Pv (i + 1), bk := D.nx } σ2 H2) (hd : ∀ σ H, Pv xs.length σ H → D.nx σ H) : Goes (Itt K a) g tb D σ H :=
  for_tup (K := K) (a := a) (xs := xs) Pv h0 (fun i σ H hi p => tupv_sq (hl i σ H hi p)) hs hd
theorem goesR {lo : Int} {n : Nat} (Pv : Nat → L2.St → Hp → Prop) (h0 : Pv 0 σ H)
    (hs : ∀ i σ H, i < n → Pv i σ H → g (.int (lo + i)) σ H fun σ2 H2 => tb { D with nx := Pv (i + 1), ct := Pv (i + 1), bk := D.nx } σ2 H2) (hd : ∀ σ H, Pv n σ H → D.nx σ H) : Goes (Itr lo n) g tb D σ H :=
  for_range (lo := lo) (n := n) Pv h0 hs hd
end

/-! ### built-in names -/
theorem bt_len : bootBuiltins "len" = some (.builtin "len") := by decide +kernel
theorem bt_abs : bootBuiltins "abs" = some (.builtin "abs") := by decide +kernel
theorem bt_max : bootBuiltins "max" = some (.builtin "max") := by decide +kernel
theorem bt_min : bootBuiltins "min" = some (.builtin "min") := by decide +kernel
theorem bt_isinstance : bootBuiltins "isinstance" = some (.builtin "isinstance") := by decide +kernel
theorem bt_all : bootBuiltins "all" = some (.builtin "all") := by decide +kernel
theorem bt_any : bootBuiltins "any" = some (.builtin "any") := by decide +kernel
theorem bt_sorted : bootBuiltins "sorted" = some (.builtin "sorted") := by decide +kernel
theorem bt_sum : bootBuiltins "sum" = some (.builtin "sum") := by decide +kernel
theorem bt_ord : bootBuiltins "ord" = some (.builtin "ord") := by decide +kernel
theorem bt_chr : bootBuiltins "chr" = some (.builtin "chr") := by decide +kernel
theorem bt_repr : bootBuiltins "repr" = some (.builtin "repr") := by decide +kernel
theorem bt_divmod : bootBuiltins "divmod" = some (.builtin "divmod") := by decide +kernel
theorem bt_int : bootBuiltins "int" = some (.type "int") := by decide +kernel
theorem bt_bool : bootBuiltins "bool" = some (.type "bool") := by decide +kernel
theorem bt_str : bootBuiltins "str" = some (.type "str") := by decide +kernel
theorem bt_list : bootBuiltins "list" = some (.type "list") := by decide +kernel
theorem bt_tuple : bootBuiltins "tuple" = some (.type "tuple") := by decide +kernel
theorem bt_dict : bootBuiltins "dict" = some (.type "dict") := by decide +kernel
theorem bt_bytes : bootBuiltins "bytes" = some (.type "bytes") := by decide +kernel
theorem bt_set : bootBuiltins "set" = some (.type "set") := by decide +kernel
theorem bt_range : bootBuiltins "range" = some (.type "range") := by decide +kernel
theorem bt_enumerate : bootBuiltins "enumerate" = some (.type "enumerate") := by decide +kernel
theorem bt_zip : bootBuiltins "zip" = some (.type "zip") := by decide +kernel
theorem bt_reversed : bootBuiltins "reversed" = some (.type "reversed") := by decide +kernel
theorem bt_type : bootBuiltins "type" = some (.type "type") := by decide +kernel

/-! ### list comprehensions -/
section
/-- the block over a known row -/
def LcGo (J : It) (g : TG) (tt : TT) (te : TE) (vs : List Nat) (σ : L2.St) (H1 : Hp) (Q : VK) : Prop := ∀ D, H1 D = none → ∃ W : Nat → Nat → Hp → Prop, (∃ m, W 0 m (upd H1 D (.lst []))) ∧ ∀ i m H, W i m H →
  (J.stop i H ∧ Q (.ref D) H) ∨ (J.go i H ∧ ∃ Nx : Hp → Prop, (∀ H', Nx H' → ∃ m', m' < m ∧ W (i + 1) m' H') ∧ ∀ x H', J.yld i H x H' → g x (wipe σ vs) H' fun σ2 H2 => wipe σ2 vs = wipe σ vs ∧ tt σ2 H2 fun b H3 =>
    if b = true then te σ2 H3 fun y H4 => ∃ acc, H4 D = some (.lst acc) ∧ acc.length < sizeLine ∧ Nx (upd H4 D (.lst (acc ++ [y]))) else Nx H3)
def tLcU (wi : TI) (g : TG) (tt : TT) (te : TE) (vs : List Nat) : TE := fun σ H Q => wi σ H fun J H1 => LcGo J g tt te vs σ H1 Q
/-- a turn's shape -/
abbrev LTurn (g : TG) (tt : TT) (te : TE) (vs : List Nat) (σ : L2.St) (x : V) (H : Hp) (Qy : VK) (Qn : Hp → Prop) : Prop :=
  g x (wipe σ vs) H fun σ2 H2 => wipe σ2 vs = wipe σ vs ∧ tt σ2 H2 fun b H3 => if b = true then te σ2 H3 Qy else Qn H3
theorem filterMap_snoc {α β : Type} (f : α → Option β) (l : List α) (x : α) : (l ++ [x]).filterMap f = l.filterMap f ++ (match f x with | some y => [y] | none => []) := by
  rw [List.filterMap_append]
  cases h : f x <;> simp [h]
theorem take_snoc {α : Type} {l : List α} {i : Nat} {x : α} (h : l[i]? = some x) : l.take (i + 1) = l.take i ++ [x] := by
  rw [List.take_add_one, h]; rfl
theorem filterMap_len {α β : Type} (f : α → Option β) (l : List α) (i : Nat) (h : i < l.length) : ((l.take i).filterMap f).length < l.length := by
  refine Nat.lt_of_le_of_lt (List.length_filterMap_le _ _) ?_
  rw [List.length_take]; omega
variable {K : PySem.W.Frag} {a : Addr} {xs : List V} {g : TG} {tt : TT} {te : TE} {vs : List Nat} {σ : L2.St} {H1 : Hp} {Q : VK}
/-- each item gives a value of its own, or is passed over -/
theorem lcL (F : V → Option V) (hx : ∀ H', Same H1 H' → lstv K H' a = some xs) (hz : xs.length ≤ sizeLine)
    (step : ∀ x ∈ xs, ∀ H', Same H1 H' → ∀ (Qy : VK) (Qn : Hp → Prop), (∀ y, F x = some y → ∀ H'', Same H' H'' → Qy y H'') → (F x = none → ∀ H'', Same H' H'' → Qn H'') → LTurn g tt te vs σ x H' Qy Qn)
    (hq : ∀ p H', H1 p = none → Same H1 H' → H' p = some (.lst (xs.filterMap F)) → Q (.ref p) H') : LcGo (Itl K a) g tt te vs σ H1 Q := by
  intro D hD
  refine lc_list (K := K) (a := a) (xs := xs) (fun i H => Same H1 H ∧ H D = some (.lst ((xs.take i).filterMap F))) ⟨Same.new hD, by rw [upd_same]; rfl⟩ (fun i H _ h => lstv_sq (hx H h.1)) ?_ (fun H h => ?_)
  · rintro i x H hi ⟨h1, h2⟩
    have hlt : i < xs.length := (List.getElem?_eq_some_iff.mp hi).1
    refine step x (List.mem_of_getElem? hi) H h1 _ _ (fun y hy H2 s2 => ?_) (fun hy H2 s2 => ?_)
    · refine ⟨_, s2 _ _ h2, Nat.lt_of_lt_of_le (filterMap_len F xs i hlt) hz, fun b o hb => ?_, ?_⟩
      · rw [upd_ne (ne_of_none hb hD)]
        exact s2 _ _ (h1 _ _ hb)
      · rw [upd_same, take_snoc hi, filterMap_snoc, hy]
    · refine ⟨h1.trans s2, ?_⟩
      rw [take_snoc hi, filterMap_snoc, hy, s2 _ _ h2]
      simp
  · rw [List.take_length] at h
    exact hq D H hD h.1 h.2
/-- over a range -/
theorem lcR {lo : Int} {n : Nat} (F : Int → Option V) (hz : n ≤ sizeLine)
    (step : ∀ j : Nat, j < n → ∀ H', Same H1 H' → ∀ (Qy : VK) (Qn : Hp → Prop), (∀ y, F (lo + j) = some y → ∀ H'', Same H' H'' → Qy y H'') → (F (lo + j) = none → ∀ H'', Same H' H'' → Qn H'') → LTurn g tt te vs σ (.int (lo + j)) H' Qy Qn)
    (hq : ∀ p H', H1 p = none → Same H1 H' → H' p = some (.lst ((List.range n).filterMap fun j => F (lo + (j : Nat)))) → Q (.ref p) H') : LcGo (Itr lo n) g tt te vs σ H1 Q := by
  intro D hD
  refine lc_range (lo := lo) (n := n) (fun i H => Same H1 H ∧ H D = some (.lst ((List.range i).filterMap fun j => F (lo + (j : Nat))))) ⟨Same.new hD, by rw [upd_same]; rfl⟩ ?_ (fun H h => hq D H hD h.1 h.2)
  rintro i H hi ⟨h1, h2⟩
  have hl : ((List.range i).filterMap fun j => F (lo + (j : Nat))).length < sizeLine := by
    refine Nat.lt_of_le_of_lt (List.length_filterMap_le _ _) ?_
    rw [List.length_range]; omega
  refine step i hi H h1 _ _ (fun y hy H2 s2 => ?_) (fun hy H2 s2 => ?_)
  · refine ⟨_, s2 _ _ h2, hl, fun b o hb => ?_, ?_⟩
    · rw [upd_ne (ne_of_none hb hD)]
      exact s2 _ _ (h1 _ _ hb)
    · rw [upd_same, List.range_succ, filterMap_snoc, hy]
  · refine ⟨h1.trans s2, ?_⟩
    rw [List.range_succ, filterMap_snoc, hy, s2 _ _ h2]
    simp
end
section
variable {X : Cx} {a : Expr} {ta : TE} {pos : Pos}
theorem pe_notU (ha : PE X a ta) : PE X (.UnaryOp .Not a pos) (tNotU X.K ta) := peImp (pe_notT (peCl ha)) fun σ H Q q => by
  exact ⟨_, q, fun v H' q => truV_k q⟩
end

/-! ### equations -/
section
variable {i : Nat} {v : V} {o : Option V} {l : List (Option V)} {H : Hp} {Q : VK} {K : PySem.W.Frag}
theorem tv0 : tVar 0 (some v :: l) H Q = Q v H := by simp [tVar]
theorem tvs : tVar (i + 1) (o :: l) H Q = tVar i l H Q := by simp [tVar]
theorem tAug_e {te : TE} {ti : TIp} {D : Ends} {σ : L2.St} : tAug i te ti D σ H = tVar i σ H (fun x H1 => te σ H1 fun y H2 => ti x y H2 fun z H3 => D.nx (σ.set i (some z)) H3) := rfl
theorem tBool {b : Bool} {Q : Bool → Hp → Prop} : (∃ k, V.bl b = V.bl k ∧ Q k H) = Q b H := by simp
theorem exBl {b : Bool} {P : Bool → Prop} : (∃ k, V.bl b = V.bl k ∧ P k) = P b := by simp
theorem truV_bl {b : Bool} {Q : Bool → Hp → Prop} : truV K (.bl b) H Q = Q b H := rfl
theorem truV_int {b : Int} {Q : Bool → Hp → Prop} : truV K (.int b) H Q = Q (b != 0) H := rfl
theorem truV_non {Q : Bool → Hp → Prop} : truV K .non H Q = Q false H := rfl
theorem truV_lst {p : Addr} {xs : List V} {Q : Bool → Hp → Prop} (h : lstv K H p = some xs) : truV K (.ref p) H Q = Q (!xs.isEmpty) H := by
  unfold truV; simp only [sqv_l h]
theorem rInt_int {j : Int} : rInt [.int j] H Q = Q (.int j) H := rfl
theorem rAbs_int {j : Int} : rAbs [.int j] H Q = Q (.int (if j < 0 then -j else j)) H := rfl
theorem rLt_int {i j : Int} : rLtU (.int i) (.int j) H Q = Q (.bl (decide (i < j))) H := rfl
theorem rLe_int {i j : Int} : rLeU (.int i) (.int j) H Q = Q (.bl (decide (i ≤ j))) H := rfl
theorem rGt_int {i j : Int} : rGtU (.int i) (.int j) H Q = Q (.bl (decide (j < i))) H := rfl
theorem rGe_int {i j : Int} : rGeU (.int i) (.int j) H Q = Q (.bl (decide (j ≤ i))) H := rfl
theorem rMul_int {i j : Int} : rMulU (.int i) (.int j) H Q = (CM i j ∧ Q (.int (i * j)) H) := rfl
theorem rIadd_int {i j : Int} : rIaddU (.int i) (.int j) H Q = Q (.int (i + j)) H := rfl
theorem rIadd_str {i j : Str} : rIaddU (.str i) (.str j) H Q = (i.length + j.length ≤ sizeLine ∧ Q (.str (i ++ j)) H) := rfl
theorem mU_int {g : Int → V} {j : Int} : mU g (.int j) H Q = Q (g j) H := rfl
theorem rMax2_int {i j : Int} : rMax2 [.int i, .int j] H Q = Q (.int (if j > i then j else i)) H := rfl
theorem rMin2_int {i j : Int} : rMin2 [.int i, .int j] H Q = Q (.int (if j < i then j else i)) H := rfl
theorem rIsi_int {T : String} {b : Bool} {j : Int} (h : kitB "int" T = some b) : rIsiB [.int j, .ty T] H Q = Q (.bl b) H := by unfold rIsiB; simp only [tyN, h]
theorem rIsi_bl {T : String} {b : Bool} {j : Bool} (h : kitB "bool" T = some b) : rIsiB [.bl j, .ty T] H Q = Q (.bl b) H := by unfold rIsiB; simp only [tyN, h]
theorem rIsi_str {T : String} {b : Bool} {j : Str} (h : kitB "str" T = some b) : rIsiB [.str j, .ty T] H Q = Q (.bl b) H := by unfold rIsiB; simp only [tyN, h]
theorem rIsi_non {T : String} {b : Bool} (h : kitB "NoneType" T = some b) : rIsiB [.non, .ty T] H Q = Q (.bl b) H := by unfold rIsiB; simp only [tyN, h]
theorem rIsi_lst {T : String} {b : Bool} {p : Addr} {xs : List V} (hp : H p = some (.lst xs)) (h : kitB "list" T = some b) : rIsiB [.ref p, .ty T] H Q = Q (.bl b) H := by unfold rIsiB; simp only [tyN, hp, h]
theorem rIsi_tup {T : String} {b : Bool} {p : Addr} {xs : List V} (hp : H p = some (.tup xs)) (h : kitB "tuple" T = some b) : rIsiB [.ref p, .ty T] H Q = Q (.bl b) H := by unfold rIsiB; simp only [tyN, hp, h]
theorem rLen_lst {p : Addr} {xs : List V} (h : lstv K H p = some xs) : rLenU K [.ref p] H Q = Q (.int xs.length) H := by unfold rLenU; simp only [sqv_l h]
theorem rLen_tup {p : Addr} {xs : List V} (h : H p = some (.tup xs)) : rLenU K [.ref p] H Q = Q (.int xs.length) H := by unfold rLenU; simp only [sqv_t h]
theorem rLen_str {z : Str} : rLenU K [.str z] H Q = (z.length ≤ sizeLine ∧ Q (.int z.length) H) := rfl
theorem rListOf_lst {p : Addr} {xs : List V} (h : lstv K H p = some xs) : rListOf K [.ref p] H Q = Nw H (.lst xs) Q := by unfold rListOf; simp only [sqv_l h]
theorem rIx_lst {p : Addr} {xs : List V} {j : Int} (h : lstv K H p = some xs) : rIxU K (.ref p) (.int j) H Q = (match atI xs j with | some v => Q v H | none => False) := by unfold rIxU; simp only [sqv_l h]
theorem rIx_tup {p : Addr} {xs : List V} {j : Int} (h : H p = some (.tup xs)) : rIxU K (.ref p) (.int j) H Q = (match atI xs j with | some v => Q v H | none => False) := by unfold rIxU; simp only [sqv_t h]
theorem rIx_str {z : Str} {j : Int} : rIxU K (.str z) (.int j) H Q = (z.length ≤ sizeLine ∧ (match atI z.cps.toList j with | some c => Q (.str ⟨#[c]⟩) H | none => False)) := rfl
theorem rSl_lst {p : Addr} {xs : List V} {lo hi : Option Int} (h : lstv K H p = some xs) : rSlU K (.ref p) lo hi H Q = Nw H (.lst (cutV xs lo hi)) Q := by unfold rSlU; simp only [h]
theorem rSl_str {z : Str} {lo hi : Option Int} : rSlU K (.str z) lo hi H Q = (z.length ≤ sizeLine ∧ Q (.str (cutS z lo hi)) H) := rfl
theorem rApp_lst {p : Addr} {xs : List V} {y : V} (h : H p = some (.lst xs)) : rApp (.ref p) [y] H Q = (xs.length < sizeLine ∧ Q .non (upd H p (.lst (xs ++ [y])))) := by unfold rApp; simp only [h]
theorem exInt {n : Int} {P : Int → Prop} : (∃ j, [V.int n] = [V.int j] ∧ P j) = P n := by simp
theorem exInt2 {m n : Int} {P : Int → Int → Prop} : (∃ i j, [V.int m, V.int n] = [V.int i, V.int j] ∧ P i j) = P m n := propext ⟨fun ⟨_, _, h, p⟩ => by cases h; exact p, fun p => ⟨_, _, rfl, p⟩⟩
theorem tPart_e {t : TE} {σ : L2.St} {Q : Option Int → Hp → Prop} : tPart t σ H Q = t σ H fun x H1 => ∃ i, x = .int i ∧ Q (some i) H1 := rfl
theorem exIntV {n : Int} {P : Int → Prop} : (∃ j, V.int n = V.int j ∧ P j) = P n := by simp
theorem lst_nil {H : Hp} {Q : VK} : tLst tNil ([] : L2.St) H Q = (0 ≤ sizeLine ∧ Nw H (.lst []) Q) := rfl
theorem tLst_e {t : TA} {σ : L2.St} : tLst t σ H Q = t σ H fun xs H1 => xs.length ≤ sizeLine ∧ Nw H1 (.lst xs) Q := rfl
theorem tTup_e {t : TA} {σ : L2.St} : tTup t σ H Q = t σ H fun xs H1 => xs.length ≤ sizeLine ∧ Nw H1 (.tup xs) Q := rfl
end
section
variable {K : PySem.W.Frag} {H : Hp} {Q : VK} {p : Addr}
theorem rSub_int {i j : Int} : rSubI (.int i) (.int j) H Q = Q (.int (i - j)) H := rfl
theorem rFdiv_int {i j : Int} : rFdiv (.int i) (.int j) H Q = (CD i j ∧ Q (.int (i / j)) H) := rfl
theorem rMod_int {i j : Int} : rMod (.int i) (.int j) H Q = (0 < j ∧ Q (.int (i % j)) H) := rfl
theorem rShl_int {i j : Int} : rShl (.int i) (.int j) H Q = (CS i j ∧ Q (.int (i * 2 ^ j.toNat)) H) := rfl
theorem rShr_int {i j : Int} : rShr (.int i) (.int j) H Q = (0 ≤ j ∧ Q (.int (i / 2 ^ j.toNat)) H) := rfl
theorem rXor_int {i j : Int} : rXor (.int i) (.int j) H Q = Q (.int (Builtin.bitXor i j)) H := rfl
theorem rAndB_int {i j : Int} : rAndB (.int i) (.int j) H Q = Q (.int (Builtin.bitAnd i j)) H := rfl
theorem rOrB_int {i j : Int} : rOrB (.int i) (.int j) H Q = Q (.int (Builtin.bitOr i j)) H := rfl
theorem rPow_int {i j : Int} : rPow (.int i) (.int j) H Q = (CPow i j ∧ Q (.int (i ^ j.toNat)) H) := rfl
theorem sqv_e : sqv K H p = (match lstv K H p with | some xs => some xs | none => tupv K H p) := rfl
theorem rLenU_ref : rLenU K [.ref p] H Q = (match sqv K H p with | some xs => Q (.int xs.length) H | none => (match H p with | some (.dK kvs) => Q (.int kvs.length) H | _ => False)) := rfl
theorem rListOf_ref : rListOf K [.ref p] H Q = (match sqv K H p with | some ys => Nw H (.lst ys) Q | none => (match H p with | some (.dK kvs) => Nw H (.lst (kvs.map fun kv => kV kv.1)) Q | _ => False)) := rfl
theorem rIxU_ref {j : Int} : rIxU K (.ref p) (.int j) H Q = (match sqv K H p with | some xs => (match atI xs j with | some v => Q v H | none => False) | none => False) := rfl
theorem rSlU_ref {lo hi : Option Int} : rSlU K (.ref p) lo hi H Q = (match lstv K H p with | some xs => Nw H (.lst (cutV xs lo hi)) Q | none => False) := rfl
theorem rApp_ref {y : V} : rApp (.ref p) [y] H Q = (match H p with | some (.lst xs) => xs.length < sizeLine ∧ Q .non (upd H p (.lst (xs ++ [y]))) | _ => False) := rfl
theorem rAddU_ref {b : Addr} : rAddU (.ref p) (.ref b) H Q = (match H p, H b with
    | some (.lst xs), some (.lst ys) => xs.length + ys.length ≤ sizeLine ∧ Nw H (.lst (xs ++ ys)) Q
    | some (.tup xs), some (.tup ys) => xs ≠ [] ∧ xs.length + ys.length ≤ sizeLine ∧ (ys = [] → Q (.ref p) H) ∧ (ys ≠ [] → Nw H (.tup (xs ++ ys)) Q)
    | _, _ => False) := rfl
theorem truV_ref {Q : Bool → Hp → Prop} : truV K (.ref p) H Q = (match sqv K H p with | some xs => Q (!xs.isEmpty) H | none => (match H p with | some (.dK kvs) => Q (!kvs.isEmpty) H | _ => False)) := rfl
theorem rInU_ref {neg : Bool} {x : V} : rInU K neg x (.ref p) H Q = (match sqv K H p with | some xs => flatV x = true ∧ xs.all flatV = true ∧ Q (.bl (if neg then !inV x xs else inV x xs)) H | none => False) := by cases x <;> rfl
theorem rMulU_ref {k : Int} : rMulU (.ref p) (.int k) H Q = (match H p with
    | some (.lst xs) => -(2 ^ 63) ≤ k ∧ k < 2 ^ 63 ∧ xs.length * k.toNat ≤ sizeLine ∧ Nw H (.lst (List.replicate k.toNat xs).flatten) Q
    | _ => False) := rfl
theorem rIsi_ref {T : String} : rIsiB [.ref p, .ty T] H Q = (match tyN H (.ref p) with | some t => (match kitB t T with | some b => Q (.bl b) H | none => False) | none => False) := rfl
end
theorem lstv_same {K : PySem.W.Frag} {H H' : Hp} {p : Addr} {xs : List V} (s : Same H H') (h : H p = some (.lst xs)) : lstv K H' p = some xs := lstv_of (s _ _ h)
theorem sz (n : Nat) (h : n ≤ 10000000) : n ≤ sizeLine := by rw [sizeLine_eq]; omega
theorem szl (n : Nat) (h : n ≤ 10000000) : n < sizeLine := by rw [sizeLine_eq]; omega
/-- lists to be read stay where H' grows; K's own are apart from what is tracked -/
def Apart (K : PySem.W.Frag) (H : Hp) : Prop := ∀ b o, K.lookup b = some o → H b = none
theorem klst_uniq {K : PySem.W.Frag} {p : Addr} {xs : List V} (h : SqL K (fun _ => none) p xs) : klst K p = some xs := by
  unfold klst
  have he : ∃ ys, SqL K (fun _ => none) p ys := ⟨xs, h⟩
  rw [dif_pos he]
  have q := Classical.choose_spec he
  generalize Classical.choose he = ys at q
  rcases h with (h | ⟨_, h⟩) | ⟨o, its, n, h1, _, _, h4, _, h6⟩
  · cases h
  · cases h
  · rcases q with (q | ⟨_, q⟩) | ⟨o', its', n', q1, _, _, q4, _, q6⟩
    · cases q
    · cases q
    · rw [h1] at q1; cases q1
      rw [h4] at q4; cases q4
      rw [Vals.inj q6 h6]
theorem lstv_of_sq {K : PySem.W.Frag} {H : Hp} {p : Addr} {xs : List V} (ap : Apart K H) (h : SqL K H p xs) : lstv K H p = some xs := by
  rcases h with (h | ⟨_, h⟩) | ⟨o, its, n, h1, h2⟩
  · exact lstv_of h
  · exact lstv_frz h
  · unfold lstv
    rw [ap _ _ h1]
    exact klst_uniq (.inr ⟨o, its, n, h1, h2⟩)
theorem fnApart {P : Program} {w : World} {K : PySem.W.Frag} {mg : Str → Option Value} {base : Heap} {CX : CXT} {k : Nat} {f : Addr} {fd : FuncData} {ps : List Str} {sp sp' : Sp} (F : FnOk P w K mg base CX k f fd ps sp)
    (hl : ∀ vs H Q E, sp' vs H Q E → vs.length = ps.length) (h : ∀ vs H Q E, Apart K H → sp' vs H Q E → sp vs H Q E) : FnOk P w K mg base CX k f fd ps sp' :=
  ⟨hl, fun A outer s H args us vs Q E hr he hb hv hs => F.run A outer s H args us vs Q E hr he hb hv (h _ _ _ _ (fun b o e => (he.bs b o (he.mod.kin b o e)).2) hs)⟩

/-! ### lists of ints compared -/
theorem dp_ints {K : PySem.W.Frag} {H : Hp} : ∀ ns : List Int, DpAll K H (ns.map V.int) (ns.map PyData.int)
  | [] => .nil
  | n :: ns => .cons (.int n) (dp_ints ns)
theorem eqv_ints : ∀ ns ms : List Int, PyData.eqvAll (ns.map PyData.int) (ms.map PyData.int) = decide (ns = ms)
  | [], [] => rfl
  | [], _ :: _ => rfl
  | _ :: _, [] => rfl
  | n :: ns, m :: ms => by
    show ((n == m) && PyData.eqvAll (ns.map PyData.int) (ms.map PyData.int)) = _
    rw [eqv_ints ns ms]
    by_cases h : n = m <;> by_cases h2 : ns = ms <;> simp [h, h2]
theorem rEq_ints {K : PySem.W.Frag} {a b : Addr} {H : Hp} {Q : VK} {ns ms : List Int} (ha : lstv K H a = some (ns.map V.int)) (hb : lstv K H b = some (ms.map V.int)) (q : Q (.bl (decide (ns = ms))) H) : rEqU K (.ref a) (.ref b) H Q := by
  rw [rEqU_ref]
  refine ⟨.list (ns.map PyData.int), .list (ms.map PyData.int), .lst (lstv_sq ha) (dp_ints ns), .lst (lstv_sq hb) (dp_ints ms), PySem.W.ke_shaped_ints _, PySem.W.ke_shaped_ints _, ?_⟩
  show Q (.bl (PyData.eqvAll (ns.map PyData.int) (ms.map PyData.int))) H
  rw [eqv_ints]
  exact q
theorem rNe_ints {K : PySem.W.Frag} {a b : Addr} {H : Hp} {Q : VK} {ns ms : List Int} (ha : lstv K H a = some (ns.map V.int)) (hb : lstv K H b = some (ms.map V.int)) (q : Q (.bl (!decide (ns = ms))) H) : rNeU K (.ref a) (.ref b) H Q := by
  rw [rNeU_ref]
  refine ⟨.list (ns.map PyData.int), .list (ms.map PyData.int), .lst (lstv_sq ha) (dp_ints ns), .lst (lstv_sq hb) (dp_ints ms), PySem.W.ke_shaped_ints _, PySem.W.ke_shaped_ints _, ?_⟩
  show Q (.bl (!PyData.eqvAll (ns.map PyData.int) (ms.map PyData.int))) H
  rw [eqv_ints]
  exact q
/-! ### octets -/
def octs (ns : List Nat) : List V := ns.map fun (n : Nat) => V.int n
theorem octs_int (ns : List Nat) : octs ns = (ns.map fun (n : Nat) => (n : Int)).map V.int := by unfold octs; rw [List.map_map]; rfl
theorem octs_inj {ns ms : List Nat} : (ns.map fun (n : Nat) => (n : Int)) = (ms.map fun (n : Nat) => (n : Int)) ↔ ns = ms := by
  constructor
  · intro h
    exact List.map_inj_right (fun a b e => Int.ofNat.inj e) |>.mp h
  · intro h; rw [h]
theorem rEq_octs {K : PySem.W.Frag} {a b : Addr} {H : Hp} {Q : VK} {ns ms : List Nat} (ha : lstv K H a = some (octs ns)) (hb : lstv K H b = some (octs ms)) (q : Q (.bl (decide (ns = ms))) H) : rEqU K (.ref a) (.ref b) H Q := by
  rw [octs_int] at ha hb
  refine rEq_ints ha hb ?_
  rw [decide_eq_decide.mpr octs_inj]
  exact q
theorem rNe_octs {K : PySem.W.Frag} {a b : Addr} {H : Hp} {Q : VK} {ns ms : List Nat} (ha : lstv K H a = some (octs ns)) (hb : lstv K H b = some (octs ms)) (q : Q (.bl (!decide (ns = ms))) H) : rNeU K (.ref a) (.ref b) H Q := by
  rw [octs_int] at ha hb
  refine rNe_ints ha hb ?_
  rw [decide_eq_decide.mpr octs_inj]
  exact q
theorem octs_at {ns : List Nat} {i : Nat} {x : V} (h : (octs ns)[i]? = some x) : ∃ n : Nat, ns[i]? = some n ∧ x = .int n := by
  unfold octs at h
  rw [List.getElem?_map] at h
  cases e : ns[i]? with
  | none => rw [e] at h; cases h
  | some n => rw [e] at h; cases h; exact ⟨n, rfl, rfl⟩
theorem octs_len (ns : List Nat) : (octs ns).length = ns.length := by simp [octs]
theorem octs_snoc {ns : List Nat} {n : Nat} {i : Int} (h : i = n) : octs ns ++ [V.int i] = octs (ns ++ [n]) := by
  subst h; simp [octs]
theorem cs_small {i j : Int} (h1 : 0 ≤ j) (h2 : j ≤ 1000000) (h3 : i.natAbs < 2 ^ 64) : CS i j := ⟨h1, .inl ⟨h2, h3⟩⟩
theorem cm_l {i j : Int} (h1 : -(2 ^ 64) < i) (h2 : i < 2 ^ 64) : CM i j := .inl (.inl ⟨h1, h2⟩)
theorem cm_r {i j : Int} (h1 : -(2 ^ 64) < j) (h2 : j < 2 ^ 64) : CM i j := .inl (.inr ⟨h1, h2⟩)
theorem cd_small {i j : Int} (h1 : 0 < j) (h2 : j < 1073741824) : CD i j := ⟨h1, .inl h2⟩
theorem cd_wide {i j : Int} {b : Nat} (h : 0 < j) (hb : j.natAbs < 2 ^ b) (h0 : 0 < b) (h9 : b ≤ 9000) : CD i j := ⟨h, .inr (wide_div (i := i) h hb h0 h9).2⟩
theorem Same.upd {H H' : Hp} {l : Addr} {o : HO} (s : Same H H') (h : H l = none) : Same H (upd H' l o) := fun b u e => by
  rw [upd_ne (ne_of_none e h)]
  exact s _ _ e
/-! ### bits -/
theorem xor_nat (a b : Nat) : Builtin.bitXor (a : Int) (b : Int) = ((a ^^^ b : Nat) : Int) := by
  rw [PyProof.Rows.bitXor_and, PySem.W.os_band]
  have h : ∀ n : Nat, ∀ a b : Nat, a ≤ n → a + b = (a ^^^ b) + 2 * (a &&& b) := by
    intro n
    induction n with
    | zero =>
      intro a b h
      have : a = 0 := by omega
      subst this
      simp
    | succ n ih =>
      intro a b h
      by_cases ha : a = 0
      · subst ha; simp
      · have e := ih (a / 2) (b / 2) (by omega)
        have x1 : (a ^^^ b) % 2 = (a % 2 + b % 2) % 2 := by
          have := Nat.xor_mod_two_pow (a := a) (b := b) (n := 1)
          simp at this
          rw [this]
          rcases Nat.mod_two_eq_zero_or_one a with h1 | h1 <;> rcases Nat.mod_two_eq_zero_or_one b with h2 | h2 <;> rw [h1, h2] <;> decide
        have x2 : (a ^^^ b) / 2 = (a / 2) ^^^ (b / 2) := by
          have := Nat.xor_div_two_pow (a := a) (b := b) (n := 1); simpa using this
        have y1 : (a &&& b) % 2 = (a % 2) * (b % 2) := by
          have := Nat.and_mod_two_pow (a := a) (b := b) (n := 1)
          simp at this
          rw [this]
          rcases Nat.mod_two_eq_zero_or_one a with h1 | h1 <;> rcases Nat.mod_two_eq_zero_or_one b with h2 | h2 <;> rw [h1, h2] <;> decide
        have y2 : (a &&& b) / 2 = (a / 2) &&& (b / 2) := by
          have := Nat.and_div_two_pow (a := a) (b := b) (n := 1); simpa using this
        rw [← x2, ← y2] at e
        rcases Nat.mod_two_eq_zero_or_one a with h1 | h1 <;> rcases Nat.mod_two_eq_zero_or_one b with h2 | h2 <;> rw [h1, h2] at x1 y1 <;> omega
  have := h a a b (Nat.le_refl _)
  omega

/-! ### what K holds is not tracked: told at the head of each named block -/
def tAp (K : PySem.W.Frag) (t : TS) : TS := fun D σ H => Apart K H → t D σ H
theorem pssAp {X : Cx} {sts : List Stmt} {t : TS} (h : PSs X sts t) : PSs X sts (tAp X.K t) :=
  ⟨fun pins s σ H D I q => h.run pins s σ H D I (q fun b o e => (I.bs b o (I.ok.mod.kin b o e)).2)⟩
theorem tAp_e {K : PySem.W.Frag} {t : TS} {D : Ends} {σ : L2.St} {H : Hp} : tAp K t D σ H = (Apart K H → t D σ H) := rfl
theorem klst_in {K : PySem.W.Frag} {p : Addr} {xs : List V} (h : klst K p = some xs) : ∃ o, K.lookup p = some o := by
  unfold klst at h
  split at h
  · rename_i he
    rcases Classical.choose_spec he with (q | ⟨_, q⟩) | ⟨o, _, _, q, _⟩
    · cases q
    · cases q
    · exact ⟨o, q⟩
  · cases h
theorem ktup_in {K : PySem.W.Frag} {p : Addr} {xs : List V} (h : ktup K p = some xs) : ∃ o, K.lookup p = some o := by
  unfold ktup at h
  split at h
  · rename_i he
    rcases Classical.choose_spec he with (q | ⟨_, q⟩) | ⟨o, _, _, q, _⟩
    · cases q
    · cases q
    · exact ⟨o, q⟩
  · cases h
theorem lstv_mono {K : PySem.W.Frag} {H H' : Hp} {p : Addr} {xs : List V} (s : Same H H') (ap : Apart K H') (h : lstv K H p = some xs) : lstv K H' p = some xs := by
  unfold lstv at h
  split at h
  · cases h; exact lstv_of (s _ _ ‹_›)
  · cases h; exact lstv_frz (s _ _ ‹_›)
  · obtain ⟨o, q⟩ := klst_in h
    unfold lstv
    rw [ap _ _ q]
    exact h
  · cases h
theorem tupv_mono {K : PySem.W.Frag} {H H' : Hp} {p : Addr} {xs : List V} (s : Same H H') (ap : Apart K H') (h : tupv K H p = some xs) : tupv K H' p = some xs := by
  unfold tupv at h
  split at h
  · cases h; exact tupv_of (s _ _ ‹_›)
  · cases h
    unfold tupv
    rw [s _ _ ‹_›]
  · obtain ⟨o, q⟩ := ktup_in h
    unfold tupv
    rw [ap _ _ q]
    exact h
  · cases h

/-! ### the law's own promise -/
noncomputable def spLaw (K : PySem.W.Frag) : Sp := fun vs H Q _ => ∃ (a : Addr) (ns : List Int), vs = [.ref a] ∧ lstv K H a = some (ns.map V.int) ∧ ns.length ≤ 63 ∧ ∀ H', Q (.bl true) H'
def spLawS (K : PySem.W.Frag) : Sp := fun vs H Q _ => ∃ (a : Addr) (ns : List Int), vs = [.ref a] ∧ SqL K H a (ns.map V.int) ∧ ns.length ≤ 63 ∧ ∀ H', Q (.bl true) H'
theorem lawS {P : Program} {w : World} {K : PySem.W.Frag} {mg : Str → Option Value} {base : Heap} {CX : CXT} {k : Nat} {f : Addr} {fd : FuncData} {x : Str} (F : FnOk P w K mg base CX k f fd [x] (spLaw K)) : FnOk P w K mg base CX k f fd [x] (spLawS K) :=
  fnApart F (fun vs H Q E ⟨a, ns, e, _⟩ => by rw [e]; rfl) fun vs H Q E ap ⟨a, ns, e, h, z, q⟩ => ⟨a, ns, e, lstv_of_sq ap h, z, q⟩
end R

/-! E: own exceptions over ValueError whose __init__ says super().__init__(..), two classes deep. -/
namespace R
open PySem PySem.Spec PyProof.Rows L2 NdefX
/-- what the written part says of a method that closes over its class -/
structure SupF (P : Program) (K : PySem.W.Frag) (mg : Str → Option Value) (name qual : Str) (st : Stmt) (f : Addr) (D : Addr) (fd : FuncData) (cda cc : Addr) : Prop where
  ex : ∃ (oc : Value) (od : Option Addr) (dV kV doc pm : Value) (an : Option Addr) (ct : Value) (osl : Array (Option Value)),
    fd = PySem.W.ksFn name qual (defArgs st) (defBody st) (defScope st) dV kV doc pm an (.ref cda) ct cc ∧ K.lookup f = some ⟨oc, od, .func fd, osl⟩
  cd : PySem.W.codeIn K (.ref cda) qual = true
  fl : ∃ (ccl : Value) (cdd : Option Addr) (vs : Array Value) (ccs : Array (Option Value)) (file : Str) (tf : Tok), K.lookup cda = some ⟨ccl, cdd, .fields vs, ccs⟩ ∧ vs[2]? = some (.str file tf) ∧ ((P.main.file : Str) == file) = true
  ce : ∃ (cl : Value) (cld : Option Addr) (csl : Array (Option Value)), K.lookup cc = some ⟨cl, cld, .cell (some (.ref D)), csl⟩
  dc : ∃ cdD, PySem.W.clsIn K D = some cdD
  sg : mg "super" = none
  tp : (P.main.scope.names.lookup ("super" : Str)).isSome = false
  tst : PySem.W.nsIn K cStatics "thirdparty.any" = some none
abbrev supNF (qual : Str) (st : Stmt) (cda cc : Addr) : NF := ⟨"__init__", qual, defArgs st, defBody st, defScope st, [("__class__", cc)], cda⟩
/-- .. of a class of such exceptions, below D -/
structure SupC (K : PySem.W.Frag) (C D : Addr) : Prop where
  ox : OexC K C
  sub : PySem.W.mroIn K C (.ref D) = some true
section
variable {P : Program} {w : World} {K : PySem.W.Frag} {mg : Str → Option Value} {base : Heap}
theorem ncx_env {CX : CXT} {N : List Str} {F : NF} {f : Addr} {A : Around} {outer : List Env} {s : Shared} {H : Hp} {E : XK} : (ncx CX P w K mg base N F f A outer s H E).env = envF F f s.heap.objs.size := rfl
variable {X : Cx} {σ : L2.St} {H : Hp} {s : Shared} {pins : List (Addr × Obj)}
theorem exo_obj (I : Inv X pins σ H s) {a C : Addr} {d : Option Addr} (e : H a = some (exo a C d)) : ∃ t1 : Addr, s.heap.get? a = some ({ cls := .ref C, dict := d, data := .fields #[.ref t1, .none, .none, .none, .bool false, .none] } : Obj) := exo_at I.hok e
/-- super() in such a method: the object that looks behind D -/
theorem sup_node {name qual : Str} {st : Stmt} {f D : Addr} {fd : FuncData} {cda cc a C L : Addr} {body : List Stmt} {p0 p1 : Pos} {attr : Str} {whole : Sem Value} {ar : Arg} {Q : Value → Shared → Prop} {E : Value → Shared → Prop}
    (S : SupF X.prog X.K X.mg name qual st f D fd cda cc) (hX : X.env = envF (supNF qual st cda cc) f L) (I : Inv X pins σ H s)
    (hp : (fd.params.posonlyargs ++ fd.params.args).head? = some ar) (h0 : X.N[0]? = some ar.arg) (hs : σ[0]? = some (some (.ref a))) (e : H a = some (exo a C none)) (hsub : PySem.W.mroIn X.K C (.ref D) = some true)
    (hat : (attr == ("__class__" : Str)) = false) (hks : (defScope st).names.lookup ("super" : Str) = some .globalImplicit) (hkc : (defScope st).names.lookup ("__class__" : Str) = some .free) (hka : (defScope st).names.lookup ar.arg = some .local)
    (hk : (defScope st).kind = .function)
    (h : ∀ so h', (∀ b o, s.heap.get? b = some o → h'.get? b = some o) → h'.get? so = some (PySem.W.ks_superObj D a C) → Q (.ref so) { s with heap := h' }) :
    _root_.PySem.wpAt (model X.prog X.w) X.A (.func body X.env) (attributeBase (.Call (.Name "super" p0) [] [] p1) attr X.env whole) Q E s := by
  obtain ⟨oc, od, dV, kV, doc, pm, an, ct, osl, hfd, lk⟩ := S.ex
  obtain ⟨ccl, cdd, vs, ccs, file, tf, hcode, hvs, hfile⟩ := S.fl
  obtain ⟨cl, cld, csl, hcell⟩ := S.ce
  obtain ⟨cdD, hD⟩ := S.dc
  have KX := I.kIn
  obtain ⟨t1, ho⟩ := exo_obj I e
  obtain ⟨mb, hb1, hb2⟩ := I.mod.blt
  obtain ⟨m, hns, hloc⟩ := id I.loc
  have hv : m ar.arg = some (.ref a) := by
    obtain ⟨u, ru, lu⟩ := hloc 0 ar.arg (.ref a) h0 hs (.inl (by rw [hX]; exact hka))
    obtain rfl : u = Value.ref a := ru
    rcases lu with ⟨_, z⟩ | ⟨z, _⟩
    · exact z
    · have z' : (defScope st).names.lookup ar.arg = some .cell ∨ (defScope st).names.lookup ar.arg = some .free := by rw [hX] at z; exact z
      rw [hka] at z'; rcases z' with z' | z' <;> cases z'
  obtain ⟨oD, hD1, hD2⟩ : ∃ oD, s.heap.get? D = some oD ∧ oD.data = .cls cdD := by
    unfold PySem.W.clsIn at hD
    split at hD
    · rename_i q
      cases hD
      exact ⟨_, KX _ _ q, rfl⟩
    · cases hD
  have gl : s.heap.Ns X.env.globals X.mg := by rw [I.ok.glob]; exact I.mod.glob.keeps I.bk
  have bl : s.heap.Ns X.env.builtins mb := by rw [I.ok.blt]; exact hb1.keeps I.bk
  obtain ⟨hh, g, d, t, os⟩ := s
  rw [hX] at hns gl bl ⊢
  refine PySem.ks_wpAt_super_base (env := envF (supNF qual st cda cc) f L) hks hkc hat rfl (KX _ _ lk) rfl hp rfl (KX _ _ hcode) rfl hvs hfile S.tp ?_
  refine PySem.W.ks_loadName_global hk hks (Calls.loadGlobal_builtin gl S.sg bl ((hb2 "super" (by decide)).trans (by decide +kernel : bootBuiltins "super" = some (.type "super"))) ⟨rfl, ?_⟩)
  refine wpAny_loadName_free hk hkc rfl ⟨_, KX _ _ hcell, rfl⟩ ?_
  refine wpAny_loadName_local hk hka hns hv ?_
  refine PySem.ks_wpAny_isType_cls hD1 hD2 ⟨rfl, ?_⟩
  refine PySem.ks_wpAny_call_super hD1 hD2 ho rfl (fun c z => ?_) (PySem.W.looks_mroIn KX hsub) (fun h' e k => ?_)
  · cases z
  · exact h _ h' k e

/-- a new object that nobody tracks, pinned -/
theorem pin_new {q : Addr} {o : Obj} {h' : Heap} {t' : Nat} (I : Inv X pins σ H s) (k : ∀ b u, s.heap.get? b = some u → h'.get? b = some u) (hq : s.heap.objs.size ≤ q) (ho : h'.get? q = some o) (hc : ∀ v, o.data ≠ .cell v) :
    Inv X ((q, o) :: pins) σ H { s with heap := h', toks := t' } := by
  have J := I.kept (t' := t') k
  have fp := I.fpOk hq (I.hok.fresh hq)
  refine J.pins_of fun p hp => ?_
  rcases List.mem_cons.mp hp with rfl | hp
  · exact ⟨ho, fp.1, fp.2.1, fp.2.2.1, hc⟩
  · exact J.pin p (List.mem_append_right _ hp)
theorem unpin {q : Addr × Obj} (I : Inv X (q :: pins) σ H s) : Inv X pins σ H s := I.pins_of fun p hp => I.pin p (List.mem_append_right _ (List.mem_cons_of_mem _ hp))
/-- the bound built-in __init__ is called -/
theorem call_mw {u a C t0 : Addr} {rest : List Value} {Q : Value → Shared → Prop} {E : Value → Shared → Prop} {A : Around} (T : OexC X.K C) (I : Inv X pins σ H s) (hu : s.heap.get? u = some (PySem.W.kxs_mw "ValueError.__init__" a)) (he : H a = some (exo a C none)) (hz : rest.length ≤ sizeLine)
    (h : ∀ s', Inv X pins σ H s' → Q .none s') : wpAny (model X.prog X.w) A (call (.ref u) rest) Q E s := by
  obtain ⟨nm, q, N, bs, bm, sn, sub, ab, col, dd, k0, k1, k2, k3, k5, hC, hbm⟩ := T.cls
  obtain ⟨t1, ho⟩ := exo_obj I he
  have KX := I.kIn
  obtain ⟨hh, g, d, tk, os⟩ := s
  refine wpAny_call (codeAny_of_tree ?_)
  show wpAny (model X.prog X.w) A.in1 (callAny (.ref u) ⟨rest, []⟩) _ _ _
  simp only [callAny]
  refine wpAny_bind (wpAny_load hu ?_)
  simp only [PySem.W.kxs_mw, show (Value.type "method-wrapper" == Value.type "method" || Value.type "method-wrapper" == Value.type "builtin_function_or_method" || Value.type "method-wrapper" == Value.type "method-wrapper") = true by decide, if_true]
  refine PySem.W.KFB.if_so (by decide) ?_
  refine wpAny_bind (PySem.W.check_bound_init PySem.F.excBase_ValueError.toExcCallFacts (KX _ _ hC) ho rfl ?_)
  refine wpAny_bind (wpAny_pure (wpAny_pure ⟨plainId_quiet PySem.F.excBase_ValueError.init.plain _, codeAny_builtin PySem.F.excBase_ValueError.initEntry ?_⟩))
  refine PySem.W.exc_init_tree (cls := .ref C) (t0 := t1) (dv := none) (c2 := .none) (c3 := .none) (b4 := .bool false) ho hz fun h' k hx _ => ?_
  have J := I.write (t' := tk) (x := a) (e := a) (o := exo a C none) (by rw [he]; exact True.intro) (.inl rfl) k ⟨_, hx⟩ (exo_ok hx)
  have eu : upd H a (exo a C none) = H := by
    funext b
    by_cases hb : b = a
    · rw [hb, upd_same, he]
    · rw [upd_ne hb]
  rw [eu] at J
  exact h _ J
section
variable {name qual : Str} {st : Stmt} {f D : Addr} {fd : FuncData} {cda cc a C L : Addr} {body : List Stmt} {p0 p1 ap cp ep : Pos} {ar : Arg} {e0 : Expr} {es : List Expr} {ta : TA} {Dn : Ends} {pl : Sem Bool}
/-- super().__init__(..) that comes to ValueError's -/
theorem sup_base (S : SupF X.prog X.K X.mg name qual st f D fd cda cc) (hX : X.env = envF (supNF qual st cda cc) f L) (I : Inv X pins σ H s)
    (hp : (fd.params.posonlyargs ++ fd.params.args).head? = some ar) (h0 : X.N[0]? = some ar.arg) (hs : σ[0]? = some (some (.ref a))) (T : SupC X.K C D) (e : H a = some (exo a C none))
    (hsu : PySem.W.ks_superIn X.K C D "__init__" = some (some (.builtin "ValueError.__init__"))) (hB : PySem.W.subIn X.K (.ref C) (.type "ValueError") = some true)
    (ha : PA X (e0 :: es) ta) (hks : (defScope st).names.lookup ("super" : Str) = some .globalImplicit) (hkc : (defScope st).names.lookup ("__class__" : Str) = some .free) (hka : (defScope st).names.lookup ar.arg = some .local)
    (hk : (defScope st).kind = .function) (he : starEach (e0 :: es) X.env = (false, eval e0 X.env) :: starEach es X.env) (hpl : (backTo cp (starEach es X.env)).any (·.1) = false)
    (hq : ta σ H fun vs H1 => vs.length ≤ 1000 ∧ H1 a = some (exo a C none) ∧ Dn.nx σ H1)
    (hev : eval (.Call (.Attribute (.Call (.Name "super" p0) [] [] p1) "__init__" ap) (e0 :: es) [] cp) X.env = (do
      let ov ← attributeBase (.Call (.Name "super" p0) [] [] p1) "__init__" X.env (eval (.Call (.Name "super" p0) [] [] p1) X.env)
      standAt ap.atName
      let (f, first) ← holding [ov] (getMethod ov "__init__" pl)
      callWith cp f first (backTo cp (starEach (e0 :: es) X.env)) [])) :
    _root_.PySem.wpAt (model X.prog X.w) X.A (.func body X.env) (exec (.Expr (.Call (.Attribute (.Call (.Name "super" p0) [] [] p1) "__init__" ap) (e0 :: es) [] cp) ep) X.env) (SP X pins Dn) X.xe s := by
  refine PySem.ks_wpAt_Expr_any (PySem.ks_wpAt_MethodCall (sup_node S hX I hp h0 hs e T.sub (by decide) hks hkc hka hk fun so h' k hso => ?_) hev) I.quiet rfl
  have I1 := I.kept (t' := s.toks) k
  obtain ⟨t1, ho⟩ := exo_obj I1 e
  have KX := I1.kIn
  have hxC : a ≠ C := by
    obtain ⟨nm, q, N, bs, bm, sn, sub, ab, col, dd, k0, k1, k2, k3, k5, hC, _⟩ := T.ox.cls
    intro z
    rw [z] at ho
    have := KX _ _ hC
    rw [ho] at this
    cases this
  cases hcl : PySem.W.clsIn X.K C with
  | none => unfold PySem.W.ks_superIn at hsu; rw [hcl] at hsu; cases hsu
  | some cd =>
    unfold PySem.W.ks_superIn at hsu
    rw [hcl] at hsu
    have hI : PySem.W.Looks (model X.prog X.w) h' (isInstance (.ref a) (.type "ValueError")) true := by
      have LT : PySem.W.Looks (model X.prog X.w) h' (typeOf (.ref a)) (.ref C) := fun A Q E s k q => wpAny_typeOf_ref (k _ _ ho) q
      exact LT.andThen (PySem.W.looks_subIn KX hB)
    refine PySem.W.kxs_getMethod (h := h') (g := s.gens) (d := s.drawn) (t := s.toks) (os := s.os) PySem.W.kxs_ValueError hso (PySem.W.looks_opaque KX S.tst) (l₀ := cd.mro) (fun A Q E s k q => wpAny_bind ((PySem.W.looks_clsIn KX hcl) A _ E s k (wpAny_pure q))) rfl KX hsu hI hxC (by decide) ?_
    have I2 := pin_new (o := PySem.W.kxs_mw "ValueError.__init__" a) (h' := h'.push (PySem.W.kxs_mw "ValueError.__init__" a)) (t' := s.toks + 1) I1 (fun b u z => Heap.get?_push_of_some _ z) (Nat.le_refl _) (Heap.get?_push_at rfl rfl) (fun v z => by cases z)
    refine PySem.W.kxs_callWith1 (i := "ValueError.__init__") (x := a) (h₀ := X.base) (L := X.env.locals) (news := [(h'.objs.size, PySem.W.kxs_mw "ValueError.__init__" a)]) (fun p hp => ?_) (by simp) ?_ he hpl
    · simp at hp
      subst hp
      obtain ⟨g1, g2, g3, _⟩ := I2.pin (h'.objs.size, PySem.W.kxs_mw "ValueError.__init__" a) (by simp)
      refine ⟨g1, g3, ?_⟩
      cases z : X.base.get? h'.objs.size with
      | none => rfl
      | some o => exact absurd (Heap.lt_size (I1.bk _ _ z)) (Nat.lt_irrefl _)
    · refine thn (ha.run cp _ _ σ H _ I2 hq) fun us s3 ⟨vs, H3, I3, r3, q3⟩ => ?_
      obtain ⟨hl, e3, q3⟩ := q3
      have hu := (I3.pin (h'.objs.size, PySem.W.kxs_mw "ValueError.__init__" a) (by simp)).1
      refine ⟨hu, call_mw (t0 := t1) T.ox I3 hu e3 (by rw [← Paired.length r3, sizeLine_eq]; omega) fun s4 I4 => ?_⟩
      exact ⟨σ, H3, unpin I4, q3⟩
/-- super().__init__(..) that comes to an own class's -/
theorem sup_own {CX : CXT} {k2 : Nat} {f2 : Addr} {fd2 : FuncData} {ps2 : List Str} {sp2 : Sp} {Ex : XK} (S : SupF X.prog X.K X.mg name qual st f D fd cda cc) (hX : X.env = envF (supNF qual st cda cc) f L) (I : Inv X pins σ H s)
    (hp : (fd.params.posonlyargs ++ fd.params.args).head? = some ar) (h0 : X.N[0]? = some ar.arg) (hs : σ[0]? = some (some (.ref a))) (T : SupC X.K C D) (e : H a = some (exo a C none))
    (hsu : PySem.W.ks_superIn X.K C D "__init__" = some (some (.ref f2))) (ht : PySem.W.typeIn X.K (.ref f2) = some (.type "function")) (hfn : PySem.W.fnIn X.K f2 = true)
    (F2 : FnOk X.prog X.w X.K X.mg X.base CX k2 f2 fd2 ps2 sp2) (hr : Room k2 X.A) (hb : Binds X.K fd2 ps2 []) (hx : Passes CX X Ex)
    (ha : PA X (e0 :: es) ta) (hks : (defScope st).names.lookup ("super" : Str) = some .globalImplicit) (hkc : (defScope st).names.lookup ("__class__" : Str) = some .free) (hka : (defScope st).names.lookup ar.arg = some .local)
    (hk : (defScope st).kind = .function) (he : starEach (e0 :: es) X.env = (false, eval e0 X.env) :: starEach es X.env) (hpl : (backTo cp (starEach es X.env)).any (·.1) = false)
    (hq : ta σ H fun vs H1 => sp2 (.ref a :: vs) H1 (fun _ H2 => Dn.nx σ H2) Ex)
    (hev : eval (.Call (.Attribute (.Call (.Name "super" p0) [] [] p1) "__init__" ap) (e0 :: es) [] cp) X.env = (do
      let ov ← attributeBase (.Call (.Name "super" p0) [] [] p1) "__init__" X.env (eval (.Call (.Name "super" p0) [] [] p1) X.env)
      standAt ap.atName
      let (f, first) ← holding [ov] (getMethod ov "__init__" pl)
      callWith cp f first (backTo cp (starEach (e0 :: es) X.env)) [])) :
    _root_.PySem.wpAt (model X.prog X.w) X.A (.func body X.env) (exec (.Expr (.Call (.Attribute (.Call (.Name "super" p0) [] [] p1) "__init__" ap) (e0 :: es) [] cp) ep) X.env) (SP X pins Dn) X.xe s := by
  refine PySem.ks_wpAt_Expr_any (PySem.ks_wpAt_MethodCall (sup_node S hX I hp h0 hs e T.sub (by decide) hks hkc hka hk fun so h' k hso => ?_) hev) I.quiet rfl
  have I1 := I.kept (t' := s.toks) k
  obtain ⟨t1, ho⟩ := exo_obj I1 e
  have KX := I1.kIn
  have hxC : a ≠ C := by
    obtain ⟨nm, q, N, bs, bm, sn, sub, ab, col, dd, k0, k1, k2, k3, k5, hC, _⟩ := T.ox.cls
    intro z
    rw [z] at ho
    have := KX _ _ hC
    rw [ho] at this
    cases this
  cases hcl : PySem.W.clsIn X.K C with
  | none => unfold PySem.W.ks_superIn at hsu; rw [hcl] at hsu; cases hsu
  | some cd =>
    unfold PySem.W.ks_superIn at hsu
    rw [hcl] at hsu
    obtain ⟨of, hof, hofc⟩ : ∃ of, h'.get? f2 = some of ∧ of.cls = .type "function" := by
      have ht' : (X.K.lookup f2).map (·.cls) = some (.type "function") := ht
      cases z : X.K.lookup f2 with
      | none => rw [z] at ht'; cases ht'
      | some of => rw [z] at ht'; exact ⟨of, KX _ _ z, Option.some.inj ht'⟩
    refine PySem.ks_wpAny_getMethod_super (h := h') (g := s.gens) (d := s.drawn) (t := s.toks) (os := s.os) hso (PySem.W.looks_opaque KX S.tst) (l₀ := cd.mro) (fun A Q E s k q => wpAny_bind ((PySem.W.looks_clsIn KX hcl) A _ E s k (wpAny_pure q))) rfl KX hsu hof hofc hxC (by decide) ?_
    have I2 := pin_new (o := PySem.W.methodObj (.ref f2) (.ref a)) (h' := h'.push (PySem.W.methodObj (.ref f2) (.ref a))) (t' := s.toks + 1) I1 (fun b u z => Heap.get?_push_of_some _ z) (Nat.le_refl _) (Heap.get?_push_at rfl rfl) (fun v z => by cases z)
    refine PySem.W.callWith_M (K := X.K) (g := f2) (self := .ref a) (h₀ := X.base) (L := X.env.locals) (news := [(h'.objs.size, PySem.W.methodObj (.ref f2) (.ref a))]) I.ok.mod.kin (fun p hp => ?_) (by simp) hfn ?_ he hpl
    · simp at hp
      subst hp
      obtain ⟨g1, g2, g3, _⟩ := I2.pin (h'.objs.size, PySem.W.methodObj (.ref f2) (.ref a)) (by simp)
      refine ⟨g1, g3, ?_⟩
      cases z : X.base.get? h'.objs.size with
      | none => rfl
      | some o => exact absurd (Heap.lt_size (I1.bk _ _ z)) (Nat.lt_irrefl _)
    · refine thn (ha.run cp _ _ σ H _ I2 hq) fun us s3 ⟨vs, H3, I3, r3, q3⟩ => ?_
      have hu := (I3.pin (h'.objs.size, PySem.W.methodObj (.ref f2) (.ref a)) (by simp)).1
      refine ⟨⟨hu, I3.kIn⟩, ?_⟩
      have rr : Vals (V.ref a :: vs) (Value.ref a :: us) := .cons rfl r3
      have hl : (Value.ref a :: us ++ []).length = ps2.length := by
        rw [List.append_nil, ← rr.length]; exact F2.len _ _ _ _ q3
      have hbd := hb s3 (Value.ref a :: us) I3.kIn hl
      rw [List.append_nil] at hbd
      refine wpAny_call (PySem.ks_codeAny_call_bound hu (codeAny_mono (F2.run X.A X.stack s3 H3 ⟨Value.ref a :: us, []⟩ (Value.ref a :: us) (V.ref a :: vs) _ Ex hr I3.env0 hbd rr q3) fun r s' hq' => ?_))
      cases r with
      | error er => exact hx _ σ H3 s3 er s' I3 hq'
      | ok fl =>
        cases fl with
        | ret u =>
          obtain ⟨v, H4, I4, _, q4⟩ := I3.after hq'
          exact ⟨σ, H4, unpin I4, q4⟩
        | next => exact False.elim hq'
        | brk => exact False.elim hq'
        | cont => exact False.elim hq'
end
end

/-! ### such an __init__ keeps its promise -/
/-- the call node's tree: by rfl where the places are written -/
def SupEv (p0 p1 ap cp : Pos) (args : List Expr) (pl : Sem Bool) : Prop := ∀ env : Env, eval (.Call (.Attribute (.Call (.Name "super" p0) [] [] p1) "__init__" ap) args [] cp) env = (do
  let ov ← attributeBase (.Call (.Name "super" p0) [] [] p1) "__init__" env (eval (.Call (.Name "super" p0) [] [] p1) env)
  standAt ap.atName
  let (f, first) ← holding [ov] (getMethod ov "__init__" pl)
  callWith cp f first (backTo cp (starEach args env)) [])
section
variable {P : Program} {w : World} {K : PySem.W.Frag} {mg : Str → Option Value} {base : Heap} {CX : CXT} {name qual : Str} {st : Stmt} {f D : Addr} {fd : FuncData} {cda cc : Addr} {N ps : List Str} {k : Nat} {sp : Sp}
theorem fn_sup (S : SupF P K mg name qual st f D fd cda cc) (NS : NScope N ps ["__class__"] (defScope st)) (len : ∀ vs H Q E, sp vs H Q E → vs.length = ps.length)
    (hbody : ∀ (A : Around) (outer : List Env) (s : Shared) (H : Hp) (vs : List V) (Q : VK) (E : XK), Room k (A.deeper (envF (supNF qual st cda cc) f s.heap.objs.size)) → sp vs H Q E →
      ∀ s1, Inv (ncx CX P w K mg base N (supNF qual st cda cc) f A outer s H E) [] (startF N vs [some (.ref D)]) H s1 →
        _root_.PySem.wpAt (model P w) (A.deeper (envF (supNF qual st cda cc) f s.heap.objs.size)) (.func (defBody st) (envF (supNF qual st cda cc) f s.heap.objs.size)) (execs (defBody st) (envF (supNF qual st cda cc) f s.heap.objs.size))
          (SP (ncx CX P w K mg base N (supNF qual st cda cc) f A outer s H E) [] { nx := fun _ H' => Q .non H', rt := Q }) (ncx CX P w K mg base N (supNF qual st cda cc) f A outer s H E).xe s1) :
    FnOk P w K mg base CX (k + 1) f fd ps sp := by
  refine ⟨len, fun A outer s H args us vs Q E hr e0 hb r hsp => ?_⟩
  obtain ⟨oc, od, dV, kV, doc, pm, an, ct, osl, rfl, lk⟩ := S.ex
  obtain ⟨cl, cld, csl, hcell⟩ := S.ce
  have hl := len _ _ _ _ hsp
  have KX : K.In s.heap := e0.mod.kin.keeps fun b o z => (e0.bs b o z).1
  have lim : s.heap.NoLimit := e0.mod.nolimit.keeps fun b o z => (e0.bs b o z).1
  refine codeAny_call_function hr.depth (KX _ _ lk) rfl NS.co NS.gen rfl (PySem.W.codeRec_of KX S.cd) (hb _ _ _ _ ?_)
  refine wpAny_newFunctionEnv NS.nocell (fun ⟨n, _⟩ hy => NS.par n (List.of_mem_zip hy).1) (fun h₁ hns hsb => ⟨lim.fresh _ hsb, ?_⟩) NS.kind
  refine PySem.ks_codeAny_funcAt (env := envF (supNF qual st cda cc) f s.heap.objs.size) ?_
  have kp : ∀ b o, s.heap.get? b = some o → h₁.get? b = some o := fun b o z => hsb.extBut b o (Nat.ne_of_lt (Heap.lt_size z)) (Heap.get?_push_of_some _ z)
  have C : CellsAt (supNF qual st cda cc).cl ["__class__"] [some (.ref D)] s.heap H := by
    refine ⟨rfl, fun y c z => ?_, fun x y c z1 z2 => ?_, fun i y hi => ?_⟩
    · have z' : List.lookup y [(("__class__" : Str), cc)] = some c := z
      have hc : c = cc := by
        rw [List.lookup_cons] at z'
        split at z'
        · cases z'; rfl
        · cases z'
      subst hc
      exact ⟨(e0.bs _ _ (e0.mod.kin _ _ hcell)).2, _, _, KX _ _ hcell, rfl⟩
    · have one : ∀ {u : Str}, List.lookup u [(("__class__" : Str), cc)] = some c → u = "__class__" := fun {u} q => by
        rw [List.lookup_cons] at q
        split at q
        · rename_i q2; simpa using q2
        · cases q
      rw [one z1, one z2]
    · cases i with
      | zero =>
        cases hi
        refine ⟨cc, rfl, fun v hv => ?_⟩
        cases hv
        exact ⟨_, rfl, _, KX _ _ hcell, rfl⟩
      | succ i => simp at hi
  have I : Inv (ncx CX P w K mg base N (supNF qual st cda cc) f A outer s H E) [] (startF N vs [some (.ref D)]) H { s with heap := h₁, toks := s.toks + (ps.zip us).length } := inv_startN NS hr.hd e0 hl r C hns kp
  refine PySem.ks_wpAt_mono (hbody A outer s H vs Q E (hr.deeper _) hsp _ I) (fun fl s' hs => ?_) fun e s' hs => hs
  have fin : ∀ {σ' : L2.St} {H' : Hp} {v : V} {u : Value}, Inv (ncx CX P w K mg base N (supNF qual st cda cc) f A outer s H E) [] σ' H' s' → L2.RelV v u → Q v H' → CE outer P w H s Q u s' :=
    fun {σ' H' v u} J rv q => ⟨v, H', J.os, J.bare, J.base, J.hok, rv, q⟩
  cases fl with
  | ret u => obtain ⟨v, σ', H', J, rv, q⟩ := hs; exact fin J rv q
  | next => obtain ⟨σ', H', J, q⟩ := hs; exact fin (v := V.non) (u := Value.none) J rfl q
  | brk => obtain ⟨_, _, _, q⟩ := hs; exact False.elim q
  | cont => obtain ⟨_, _, _, q⟩ := hs; exact False.elim q
end

/-! ### FormstripesError and its kin -/
/-- what is known of the class C below the class D whose __init__ is a def of one's own over ValueError -/
structure FormC (K : PySem.W.Frag) (C D : Addr) : Prop extends SupC K C D where
  nP : PySem.W.findIn K (.ref C) "place" = some none
  nN : PySem.W.findIn K (.ref C) "name" = some none
  su : PySem.W.ks_superIn K C D "__init__" = some (some (.builtin "ValueError.__init__"))
  vE : PySem.W.subIn K (.ref C) (.type "ValueError") = some true
/-- the promise of FormstripesError.__init__ -/
def spForm (K : PySem.W.Frag) (D : Addr) : Sp := fun vs H Q _ => ∃ (a C : Addr) (y z : V), vs = [.ref a, y, z] ∧ FormC K C D ∧ H a = some (exo a C none) ∧
  ∀ dx H', H dx = none → dx ≠ a → H' a = some (exo a C (some dx)) → H' dx = some (exd dx [("name", z), ("place", y)]) → (∀ b, b ≠ a → b ≠ dx → H' b = H b) → Q .non H'
/-- .. of a kin's -/
def spKin (K : PySem.W.Frag) (D D0 : Addr) (nm : Str) : Sp := fun vs H Q _ => ∃ (a : Addr) (y : V), vs = [.ref a, y] ∧ H a = some (exo a D none) ∧
  ∀ dx H', H dx = none → dx ≠ a → H' a = some (exo a D (some dx)) → H' dx = some (exd dx [("name", .str nm), ("place", y)]) → (∀ b, b ≠ a → b ≠ dx → H' b = H b) → Q .non H'
section
variable {P : Program} {w : World} {K : PySem.W.Frag} {mg : Str → Option Value} {base : Heap} {CX : CXT} {name qual : Str} {st : Stmt} {f D : Addr} {fd : FuncData} {cda cc : Addr} {ar : Arg} {p0 p1 ap cp ep p2 p3 p4 p5 p6 p7 p8 p9 p10 : Pos}
/-- def __init__(self, place, name): super().__init__(place); self.place = place; self.name = name -/
theorem ok_form (S : SupF P K mg name qual st f D fd cda cc) (NS : NScope ["self", "place", "name", "__class__"] ["self", "place", "name"] ["__class__"] (defScope st))
    (hb : defBody st = [.Expr (.Call (.Attribute (.Call (.Name "super" p0) [] [] p1) "__init__" ap) [.Name "place" p2] [] cp) ep,
      .Assign [.Attribute (.Name "self" p3) "place" p4] (.Name "place" p5) p6, .Assign [.Attribute (.Name "self" p7) "name" p8] (.Name "name" p9) p10]) {pl : Sem Bool} (hev : SupEv p0 p1 ap cp [.Name "place" p2] pl)
    (hp : (fd.params.posonlyargs ++ fd.params.args).head? = some ar) (har : ar.arg = "self") (hks : (defScope st).names.lookup ("super" : Str) = some .globalImplicit) (hkc : (defScope st).names.lookup ("__class__" : Str) = some .free) :
    FnOk P w K mg base CX 1 f fd ["self", "place", "name"] (spForm K D) := by
  refine fn_sup S NS (fun vs H Q E ⟨_, _, _, _, e, _⟩ => by rw [e]; rfl) fun A outer s H vs Q E hr h s1 I => ?_
  obtain ⟨a, C, y, z, rfl, T, e, hq⟩ := h
  rw [hb]
  have hka : (defScope st).names.lookup ("self" : Str) = some .local := NS.par "self" (by simp)
  have hkp : (defScope st).names.lookup ("place" : Str) = some .local := NS.par "place" (by simp)
  have hkn : (defScope st).names.lookup ("name" : Str) = some .local := NS.par "name" (by simp)
  refine PySem.ks_wpAt_execs_cons (PySem.ks_wpAt_mono (sup_base (Dn := ⟨fun σ' H' => σ' = [some (.ref a), some y, some z, some (.ref D)] ∧ H' = H, fun _ _ => False, fun _ _ => False, fun _ _ => False⟩) (ta := tCons (tVar 1) tNil) S rfl I hp (by rw [har]; rfl) rfl T.toSupC e T.su T.vE (pa_cons (pv 1 rfl (.inl hkp)) pa_nil) hks hkc (by rw [har]; exact hka) NS.kind rfl rfl
    ⟨y, rfl, by simp, e, rfl, rfl⟩ (hev _)) (fun fl s' hs => ?_) fun _ _ q => q)
  cases fl with
  | ret u => obtain ⟨_, _, _, _, _, q⟩ := hs; exact False.elim q
  | brk => obtain ⟨_, _, _, q⟩ := hs; exact False.elim q
  | cont => obtain ⟨_, _, _, q⟩ := hs; exact False.elim q
  | next =>
    obtain ⟨σ', H', I', rfl, rfl⟩ := hs
    refine wpAt_of_wpAny ((pss_cons (ps_ost (pv 0 rfl (.inl hka)) (pv 1 rfl (.inl hkp))) (pss_one (ps_ost (pv 0 rfl (.inl hka)) (pv 2 rfl (.inl hkn))))).run [] s' _ _ _ I' ?_)
    refine ⟨y, rfl, .ref a, rfl, a, C, rfl, T.ox, T.nP, .inl ⟨e, fun dx nd ne => ?_⟩⟩
    refine ⟨z, rfl, .ref a, rfl, a, C, rfl, T.ox, T.nN, .inr ⟨dx, [("place", y)], upd_same, by rw [upd_ne ne, upd_same], by simp, ?_⟩⟩
    refine hq dx _ nd ne ?_ upd_same ?_
    · rw [upd_ne (Ne.symm ne), upd_same]
    · intro b h1 h2
      rw [upd_ne h2, upd_ne h1, upd_ne h2]
/-- def __init__(self, place): super().__init__(place, nm) -/
theorem ok_kin {f0 D0 : Addr} {fd0 : FuncData} {nm : Str} {kk : Nat} (S : SupF P K mg name qual st f D fd cda cc) (NS : NScope ["self", "place", "__class__"] ["self", "place"] ["__class__"] (defScope st))
    (hb : defBody st = [.Expr (.Call (.Attribute (.Call (.Name "super" p0) [] [] p1) "__init__" ap) [.Name "place" p2, .Constant (.str nm) kk p3] [] cp) ep]) {pl : Sem Bool} (hev : SupEv p0 p1 ap cp [.Name "place" p2, .Constant (.str nm) kk p3] pl)
    (hp : (fd.params.posonlyargs ++ fd.params.args).head? = some ar) (har : ar.arg = "self") (hks : (defScope st).names.lookup ("super" : Str) = some .globalImplicit) (hkc : (defScope st).names.lookup ("__class__" : Str) = some .free)
    (T : SupC K D D) (T0 : FormC K D D0) (hsu : PySem.W.ks_superIn K D D "__init__" = some (some (.ref f0))) (ht : PySem.W.typeIn K (.ref f0) = some (.type "function")) (hfn : PySem.W.fnIn K f0 = true)
    (F0 : FnOk P w K mg base CX0 1 f0 fd0 ["self", "place", "name"] (spForm K D0)) (hb0 : Binds K fd0 ["self", "place", "name"] []) :
    FnOk P w K mg base CX0 2 f fd ["self", "place"] (spKin K D D0 nm) := by
  refine fn_sup S NS (fun vs H Q E ⟨_, _, e, _⟩ => by rw [e]; rfl) fun A outer s H vs Q E hr h s1 I => ?_
  obtain ⟨a, y, rfl, e, hq⟩ := h
  rw [hb]
  have hka : (defScope st).names.lookup ("self" : Str) = some .local := NS.par "self" (by simp)
  have hkp : (defScope st).names.lookup ("place" : Str) = some .local := NS.par "place" (by simp)
  refine PySem.ks_wpAt_execs_cons (PySem.ks_wpAt_mono (sup_own (Dn := ⟨fun σ' H' => Q .non H', fun _ _ => False, fun _ _ => False, fun _ _ => False⟩) (Ex := E0) (ta := tCons (tVar 1) (tCons (tC (.str nm)) tNil)) S rfl I hp (by rw [har]; rfl) rfl T e hsu ht hfn F0 hr hb0 pass0 (pa_cons (pv 1 rfl (.inl hkp)) (pa_cons pe_str pa_nil)) hks hkc (by rw [har]; exact hka) NS.kind rfl rfl
    ⟨y, rfl, a, D, y, .str nm, rfl, T0, e, hq⟩ (hev _)) (fun fl s' hs => ?_) fun _ _ q => q)
  cases fl with
  | ret u => obtain ⟨_, _, _, _, _, q⟩ := hs; exact False.elim q
  | brk => obtain ⟨_, _, _, q⟩ := hs; exact False.elim q
  | cont => obtain ⟨_, _, _, q⟩ := hs; exact False.elim q
  | next =>
    obtain ⟨σ', H', I', q⟩ := hs
    exact wpAt_of_wpAny (pss_nil.run [] s' σ' H' _ I' q)
end
/-- every parameter is given, though defaults stand -/
theorem binds_dfl {K : PySem.W.Frag} {fd : FuncData} {T : Addr} {o : Obj} {its : Array Value} {n : Nat} {ps : List Str} (lT : K.lookup T = some o) (oT : o.data = .seq its n)
    (h : ∀ us : List Value, us.length = ps.length → ∃ k, bindArgs fd ⟨us, []⟩ = seqItems? (.ref T) >>= k ∧ k (some its) = pure (ps.zip us)) : Binds K fd ps [] := by
  intro s us X hl
  rw [List.append_nil] at hl ⊢
  obtain ⟨k, e1, e2⟩ := h us hl
  refine BindsTo.of_looks fun M => ?_
  rw [e1]
  exact looks_items X lT oT (.of_pure e2)
/-- D(e), a kin made to be raised -/
def tMkF (D : Addr) (nm : Str) (te : TE) : L2.St → Hp → XK → Prop := fun σ H Q => te σ H fun y H1 => ∀ d H', H1 d = none → Same H1 H' → H' d = some (.xd [("name", .str nm), ("place", y)]) → Q (.ref D) (some d) H'
/-- what is asked of X and the class D to make one -/
structure KinE (P : Program) (w : World) (K : PySem.W.Frag) (mg : Str → Option Value) (base : Heap) (x : Str) (D D0 : Addr) (nm : Str) : Prop where
  ex : ∃ (fI : Addr) (fd : FuncData), PySem.W.findIn K (.ref D) "__init__" = some (some (.ref fI)) ∧ PySem.W.typeIn K (.ref fI) = some (.type "function") ∧ FnOk P w K mg base CX0 2 fI fd ["self", "place"] (spKin K D D0 nm) ∧ Binds K fd ["self", "place"] []
  ox : OexC K D
  mg : mg x = some (.ref D)
theorem pmk_kin {X : Cx} {x : Str} {D D0 : Addr} {nm : Str} {p pos : Pos} {e : Expr} {te : TE} (N : KinE X.prog X.w X.K X.mg X.base x D D0 nm) (hr : Room 3 X.A) (hg : Gl X x) (he : PE X e te)
    (hdb : (x == ("__debug__" : Str)) = false := by decide) (hs : starEach (e :: []) X.env = (false, eval e X.env) :: starEach [] X.env := by rfl) (hpl : (backTo pos (starEach [] X.env)).any (·.1) = false := by rfl) :
    PMk X (.Call (.Name x p) [e] [] pos) (tMkF D nm te) := by
  obtain ⟨fI, fd, h1, h2, h3, h4⟩ := N.ex
  intro pins s σ H Q I h
  refine pmk_oex (dvs := []) N.ox h1 h2 h3 hr h4 .nil pass0 hg N.mg (pa_cons (peCl he) pa_nil hs) hdb hs hpl pins s σ H Q I ?_
  refine ⟨_, h, fun y H1 q => ⟨by simp, fun a na => ⟨a, y, rfl, upd_same, fun dx H' nd ne e1 e2 e3 => ⟨rfl, dx, _, e1, e2, ?_, ?_⟩⟩⟩⟩
  · rw [upd_ne ne] at nd
    exact nd
  · rw [upd_ne ne] at nd
    refine q dx _ nd (fun b o hb => ?_) upd_same
    have ba : b ≠ a := ne_of_none hb na
    have bd : b ≠ dx := ne_of_none hb nd
    rw [upd_ne bd, del_ne ba, e3 b ba bd, upd_ne ba]
    exact hb

/-! ### raise, calls that may raise, try -/
def tRs (W : WX) (t : L2.St → Hp → XK → Prop) : TS := fun _ σ H => t σ H fun cls d H' => W cls d σ H'
theorem ps_rs {X : Cx} {W : WX} {e : Expr} {t : L2.St → Hp → XK → Prop} {pos : Pos} (hc : X.calm = true) (tk : Takes X W) (he : PMk X e t) : PS X (.Raise (some e) none pos) (tRs W t) := ps_raise hc tk he
theorem tRs_e {W : WX} {D : Ends} {σ : L2.St} {H : Hp} {t : L2.St → Hp → XK → Prop} : tRs W t D σ H = t σ H fun cls d H' => W cls d σ H' := rfl
def tCallW (sp : Sp) (W : WX) (t : TA) : TE := fun σ H Q => t σ H fun vs H1 => sp vs H1 Q (fun cls d H' => W cls d σ H')
section
variable {X : Cx} {W : WX} {k : Nat} {x : Str} {ps : List Str} {sp : Sp} {p pos : Pos} {e : Expr} {es : List Expr} {t : TA}
theorem pe_fnW (F : FnE X.prog X.w X.K X.mg X.base (L2.CX X.prog X.w) x k ps sp) (hr : Room k X.A) (hg : Gl X x) (tk : Takes X W) (ha : PA X (e :: es) t)
    (hdb : (x == ("__debug__" : Str)) = false := by decide) (he : starEach (e :: es) X.env = (false, eval e X.env) :: starEach es X.env := by rfl) (hp : (backTo pos (starEach es X.env)).any (·.1) = false := by rfl) :
    PE X (.Call (.Name x p) (e :: es) [] pos) (tCallW sp W t) := by
  obtain ⟨f, fd, h1, h2, h3, h4⟩ := F.ex
  refine peImp (pe_callSD (dvs := []) (E := fun σ => WE W σ) h4 hr hg h1 h2 h3 .nil (fun σ => passAt tk σ) ha hdb he hp) fun σ H Q q => ?_
  show t σ H fun vs H1 => sp (vs ++ []) H1 Q (WE W σ)
  simp only [List.append_nil]
  exact q
theorem tCallW_e {σ : L2.St} {H : Hp} {Q : VK} : tCallW sp W t σ H Q = t σ H fun vs H1 => sp vs H1 Q (fun cls d H' => W cls d σ H') := rfl
end
/-- the slots' wish of a try .. except C as n -/
def tTryAs (K : PySem.W.Frag) (c : Value) (i : Nat) (ts : Addr → Value → Option Addr → TS) (Wout : WX) (tb : WX → TS) : TS := fun D σ H => tb (wAs K c i ts Wout D) D σ H
def tTryOnly (K : PySem.W.Frag) (c : Value) (ts : Addr → Value → Option Addr → TS) (Wout : WX) (tb : WX → TS) : TS := fun D σ H => tb (wOnly K c ts Wout D) D σ H
section
variable {X : Cx} {x n : Str} {c : Value} {i : Nat} {body suite : List Stmt} {b₀ : Stmt} {np pos pos' : Pos} {tb : WX → TS} {ts : Addr → Value → Option Addr → TS} {Wout : WX}
theorem ps_tryAs (hs : X.stack = X.env :: X.outer) (hf : X.env.frame = some X.env.locals) (hN : X.N.Nodup) (hi : X.N[i]? = some n) (hln : X.env.kindOf n = some .local) (hc : Names X x c) (tk : Takes X Wout)
    (hb : ∀ (W : WX) (pn : List (Addr × Obj)) (xe : Value → Shared → Prop), Takes (X.tr pn xe) W → PassesOwn (model X.prog X.w) X.A X.env xe → PSs (X.tr pn xe) body (tb W))
    (hsu : ∀ (a : Addr) (oe : Obj) (cls : Value) (d : Option Addr) (pn : List (Addr × Obj)), Zc cls d oe → (∃ vs, oe.data = .fields vs) → PSs (X.suite a ((a, oe) :: pn)) (b₀ :: suite) (ts a cls d)) :
    PS X (.Try body [.ExceptHandler (some (.Name x np)) (some n) (b₀ :: suite) pos'] [] [] pos) (tTryAs X.K c i ts Wout tb) := ps_try_as hs hf hN hi hln hc tk hb hsu
theorem ps_tryOnly (hs : X.stack = X.env :: X.outer) (hf : X.env.frame = some X.env.locals) (hc : Names X x c) (tk : Takes X Wout)
    (hb : ∀ (W : WX) (pn : List (Addr × Obj)) (xe : Value → Shared → Prop), Takes (X.tr pn xe) W → PassesOwn (model X.prog X.w) X.A X.env xe → PSs (X.tr pn xe) body (tb W))
    (hsu : ∀ (a : Addr) (oe : Obj) (cls : Value) (d : Option Addr) (pn : List (Addr × Obj)), Zc cls d oe → (∃ vs, oe.data = .fields vs) → PSs (X.suite a ((a, oe) :: pn)) (b₀ :: suite) (ts a cls d)) :
    PS X (.Try body [.ExceptHandler (some (.Name x np)) none (b₀ :: suite) pos'] [] [] pos) (tTryOnly X.K c ts Wout tb) := ps_try_only hs hf hc tk hb hsu
end
/-- err.f in the suite -/
def tXfU (K : PySem.W.Frag) (a : Addr) (cls : Value) (d : Option Addr) (f : Str) (te : TE) : TE := fun σ H Q => ∃ C, cls = .ref C ∧ XfC K C ∧ PySem.W.findIn K (.ref C) f = some none ∧ te σ H fun x H1 => x = .ref a ∧ ∃ (dd : Addr) (fs : List (Str × V)) (v : V), d = some dd ∧ H1 dd = some (.xd fs) ∧ fs.lookup f = some v ∧ Q v H1
theorem pe_xfU {X : Cx} {a : Addr} {oe : Obj} {cls : Value} {d : Option Addr} {pn : List (Addr × Obj)} {e : Expr} {te : TE} {pos : Pos} {n : Str} (hz : Zc cls d oe) (hf : ∃ vs, oe.data = .fields vs) (he : PE (X.suite a ((a, oe) :: pn)) e te)
    (hb : attributeBase e n X.env (eval e X.env) = eval e X.env := by rfl) : PE (X.suite a ((a, oe) :: pn)) (.Attribute e n pos) (tXfU X.K a cls d n te) := by
  refine ⟨fun pins s σ H Q I ⟨C, ec, T, hno, h⟩ => ?_⟩
  refine (pe_xf T hno hz hf (peCl he) hb).run pins s σ H Q I ⟨_, h, fun x H1 ⟨e1, dd, fs, v, e2, e3, e4, q⟩ => ⟨e1, ec, dd, fs, v, e2, e3, e4, q⟩⟩
/-- isinstance(err, C) in the suite -/
def rIsX (K : PySem.W.Frag) (a : Addr) (cls : Value) (d : Option Addr) : List V → Hp → VK → Prop := fun xs H Q => match xs with
  | [.ref a', .ref C'] => a' = a ∧ ∃ D dd fs, cls = .ref D ∧ d = some dd ∧ H dd = some (.xd fs) ∧ ExcC K D ∧ (match PySem.W.kitOne K (.ref D) (.ref C') with | some b => Q (.bl b) H | none => False)
  | [.ref a', .ty T] => a' = a ∧ ∃ D dd fs, cls = .ref D ∧ d = some dd ∧ H dd = some (.xd fs) ∧ ExcC K D ∧ (match PySem.W.kitOne K (.ref D) (.type T) with | some b => Q (.bl b) H | none => False)
  | _ => False
theorem c_isX {X : Cx} {a : Addr} {oe : Obj} {cls : Value} {d : Option Addr} {pn : List (Addr × Obj)} (hz : Zc cls d oe) (hf : ∃ vs, oe.data = .fields vs) : CallR (X.suite a ((a, oe) :: pn)) (.builtin "isinstance") (rIsX X.K a cls d) := by
  intro pins s σ H xs us Q I r h
  have key : ∀ (D dd : Addr) (fs : List (Str × V)) (cv : Value) (b : Bool), cls = .ref D → d = some dd → H dd = some (.xd fs) → ExcC X.K D → PySem.W.kitOne X.K (.ref D) cv = some b → Q (.bl b) H →
      wpAny (model X.prog X.w) (X.A.mark (some (.ref a))) (call (.builtin "isinstance") [.ref a, cv]) (EP (X.suite a ((a, oe) :: pn)) pins σ Q) (fun _ _ => False) s := by
    intro D dd fs cv b e1 e2 e3 C e4 q
    subst e1 e2
    obtain ⟨hget, _⟩ := I.pin (a, oe) (List.mem_append.mpr (.inl List.mem_cons_self))
    obtain ⟨vs, hv⟩ := hf
    have hx : ObjOk X.prog X.w H s.heap dd (.xd fs) := I.hok dd _ e3
    obtain ⟨mA, ⟨od, es, ep, hod, _⟩, _⟩ := hx
    have J : PySem.W.InstAt s.heap a oe D (some od) := by
      obtain ⟨oc, odd, oda, osl⟩ := oe
      obtain ⟨h1, h2⟩ := hz
      dsimp only at h1 h2 hv
      subst h1 h2 hv
      exact ⟨hget, rfl, rfl, hod⟩
    have hcl : (PySem.W.clsIn X.K D).isSome = true := by
      have z := C.hd
      unfold PySem.W.hasDictIn at z
      cases e : PySem.W.clsIn X.K D with
      | none => rw [e] at z; cases z
      | some cd => rfl
    exact PySem.W.kia_one (PySem.W.kitx_exc hcl C.hg C.hk C.hs C.ha C.hn C.ht C.hm) I.kIn J e4 (fun z => nomatch z) fun tk => ⟨.bl b, H, I.kept (t' := tk) fun _ _ z => z, rfl, q⟩
  unfold rIsX at h
  split at h
  · obtain ⟨rfl, D, dd, fs, e1, e2, e3, C, q⟩ := h
    split at q
    · obtain ⟨u1, u2, rfl, r1, r2⟩ := vals2 r
      cases r1
      cases r2
      exact key D dd fs _ _ e1 e2 e3 C ‹_› q
    · exact q.elim
  · obtain ⟨rfl, D, dd, fs, e1, e2, e3, C, q⟩ := h
    split at q
    · obtain ⟨u1, u2, rfl, r1, r2⟩ := vals2 r
      cases r1
      cases r2
      exact key D dd fs _ _ e1 e2 e3 C ‹_› q
    · exact q.elim
  · exact h.elim
/-- nothing is let out -/
abbrev W0 : WX := fun _ _ _ _ => False
/-! ### the same data -/
theorem rNe_same {K : PySem.W.Frag} {H : Hp} {Q : VK} {x y : V} (d : PyData) (hr : (isRef x || isRef y) = true) (hx : Dp K H x d) (hy : Dp K H y d) (sh : SeqAt.shaped d = true) (q : Q (.bl false) H) : rNeU K x y H Q := by
  unfold rNeU
  rw [if_pos hr]
  refine ⟨d, d, hx, hy, sh, sh, ?_⟩
  rw [SeqAt.eqv_refl d (SeqAt.canLay_of_shaped sh)]
  exact q
theorem rEq_same {K : PySem.W.Frag} {H : Hp} {Q : VK} {x y : V} (d : PyData) (hr : (isRef x || isRef y) = true) (hx : Dp K H x d) (hy : Dp K H y d) (sh : SeqAt.shaped d = true) (q : Q (.bl true) H) : rEqU K x y H Q := by
  unfold rEqU
  rw [if_pos hr]
  refine ⟨d, d, hx, hy, sh, sh, ?_⟩
  rw [SeqAt.eqv_refl d (SeqAt.canLay_of_shaped sh)]
  exact q
theorem rIsX_i {K : PySem.W.Frag} {a C C' d : Addr} {fs : List (Str × V)} {b : Bool} {H : Hp} {Q : VK} (hd : H d = some (.xd fs)) (hx : ExcC K C) (hk : PySem.W.kitOne K (.ref C) (.ref C') = some b) (q : Q (.bl b) H) : rIsX K a (.ref C) (some d) [.ref a, .ref C'] H Q := by
  refine ⟨rfl, C, d, fs, rfl, rfl, hd, hx, ?_⟩
  rw [hk]
  exact q
/-! ### rows of octets -/
theorem cutV_map {α : Type} (f : α → V) (xs : List α) (lo hi : Option Int) : ∃ ys : List α, cutV (xs.map f) lo hi = ys.map f ∧ ys.length ≤ xs.length ∧ ∀ y ∈ ys, y ∈ xs := by
  refine ⟨(xs.drop (HT.sIx xs.length 0 lo)).take (HT.sIx xs.length xs.length hi - HT.sIx xs.length 0 lo), ?_, ?_, ?_⟩
  · unfold cutV
    rw [List.map_take, List.map_drop, List.length_map]
  · rw [List.length_take, List.length_drop]; omega
  · intro y hy
    exact List.mem_of_mem_drop (List.mem_of_mem_take hy)
theorem cut_octs (ns : List Nat) (lo hi : Option Int) : ∃ ms : List Nat, cutV (octs ns) lo hi = octs ms ∧ ms.length ≤ ns.length ∧ ∀ m ∈ ms, m ∈ ns := cutV_map _ ns lo hi
theorem octs_get {ns : List Nat} {i : Nat} {n : Nat} (h : ns[i]? = some n) : atI (octs ns) (i : Int) = some (.int n) := by
  have hi : i < ns.length := (List.getElem?_eq_some_iff.mp h).1
  unfold atI ixN
  rw [if_pos (by omega), octs_len, if_pos (by omega)]
  unfold octs
  simp [h]
theorem oat {ns : List Nat} {j : Int} (h0 : 0 ≤ j) (h : j < ns.length) : ∃ n : Nat, ns[j.toNat]? = some n ∧ atI (octs ns) j = some (.int n) := by
  refine ⟨ns[j.toNat]'(by omega), by simp, ?_⟩
  have := octs_get (ns := ns) (i := j.toNat) (n := ns[j.toNat]'(by omega)) (by simp)
  rw [show ((j.toNat : Nat) : Int) = j by omega] at this
  exact this
section
variable {K : PySem.W.Frag} {a : Addr} {g : TG} {tt : TT} {te : TE} {vs : List Nat} {σ : L2.St} {H1 : Hp} {Q : VK}
theorem lcO {ns : List Nat} (f : Nat → Nat) (hx : ∀ H', Same H1 H' → lstv K H' a = some (octs ns)) (hz : ns.length ≤ 10000000)
    (step : ∀ n ∈ ns, ∀ H', Same H1 H' → ∀ (Qy : VK) (Qn : Hp → Prop), (∀ H'', Same H' H'' → Qy (.int (f n)) H'') → LTurn g tt te vs σ (.int n) H' Qy Qn)
    (hq : ∀ p H', H1 p = none → Same H1 H' → H' p = some (.lst (octs (ns.map f))) → Q (.ref p) H') : LcGo (Itl K a) g tt te vs σ H1 Q := by
  refine lcL (xs := octs ns) (fun v => match v with | .int i => some (.int (f i.toNat)) | _ => none) hx (by rw [octs_len]; exact sz _ hz) ?_ ?_
  · intro x hx H' s Qy Qn hy hn
    obtain ⟨n, hn2, rfl⟩ := List.mem_map.mp hx
    exact step n hn2 H' s Qy Qn fun H'' s2 => hy _ (by simp) H'' s2
  · intro p H' h0 s e
    refine hq p H' h0 s ?_
    rw [e]
    congr 2
    unfold octs
    rw [List.filterMap_map, List.map_map]
    rw [← List.filterMap_eq_map]
    congr 1
end
/-! ### more of texts and lists -/
def rOrd : List V → Hp → VK → Prop := fun xs H Q => match xs with
  | [.str x] => x.length = 1 ∧ Q (.int (x.cps.getD 0 0 : Nat)) H
  | _ => False
theorem c_ord {X : Cx} : CallR X (.builtin "ord") rOrd := callImp call_ord fun xs H Q q => by
  unfold rOrd at q
  split at q
  · exact ⟨_, rfl, q.1, q.2⟩
  · exact q.elim
def rSidx : V → List V → Hp → VK → Prop := fun x xs H Q => match x, xs with
  | .str a, [.str b] => (match Builtin.Str.occurrences a b 0 a.length 1 with
    | i :: _ => Q (.int (i : Nat)) H
    | [] => False)
  | _, _ => False
noncomputable def rJoin (K : PySem.W.Frag) : V → List V → Hp → VK → Prop := fun x xs H Q => match x, xs with
  | .str a, [.ref p] => (match sqv K H p with
    | some vs => ∃ ys : List Str, vs = ys.map V.str ∧ (ys.map (·.length)).sum + ys.length * a.length ≤ 16777216 ∧ Q (.str (Txt.join a ys)) H
    | none => False)
  | _, _ => False
section
variable {X : Cx} {o e : Expr} {es : List Expr} {to : TE} {t : TA} {apos pos : Pos}
theorem pe_sindex (ho : PE X o to) (ha : PA X (e :: es) t)
    (hb : attributeBase o "index" X.env (eval o X.env) = eval o X.env := by rfl)
    (hf : ((backTo pos (starEach (e :: es) X.env)).all (fun x => !x.1) && (backToKw pos (keywordEach [] X.env)).all (fun x => x.1.isSome) && decide ((e :: es).length + ([] : List Keyword).length + (if ([] : List Keyword).isEmpty then 0 else 1) < 30)) = true := by rfl)
    (hl : (apos.endLine == pos.line) = true := by rfl) (hs : starEach (e :: es) X.env = (false, eval e X.env) :: starEach es X.env := by rfl) (hp : (backTo pos (starEach es X.env)).any (·.1) = false := by rfl) :
    PE X (.Call (.Attribute o "index" apos) (e :: es) [] pos) (tMS rSidx to t) := pe_ms PySem.F.plainAttrs_str PySem.F.slot_str_index PySem.F.type_str_index (mtImp mt_sindex fun x xs H Q q => by
      unfold rSidx at q
      split at q
      · split at q
        · exact ⟨_, _, _, _, rfl, rfl, ‹_›, q⟩
        · exact q.elim
      · exact q.elim) ho ha hb hf hl hs hp
theorem pe_sjoin (ho : PE X o to) (ha : PA X (e :: es) t)
    (hb : attributeBase o "join" X.env (eval o X.env) = eval o X.env := by rfl)
    (hf : ((backTo pos (starEach (e :: es) X.env)).all (fun x => !x.1) && (backToKw pos (keywordEach [] X.env)).all (fun x => x.1.isSome) && decide ((e :: es).length + ([] : List Keyword).length + (if ([] : List Keyword).isEmpty then 0 else 1) < 30)) = true := by rfl)
    (hl : (apos.endLine == pos.line) = true := by rfl) (hs : starEach (e :: es) X.env = (false, eval e X.env) :: starEach es X.env := by rfl) (hp : (backTo pos (starEach es X.env)).any (·.1) = false := by rfl) :
    PE X (.Call (.Attribute o "join" apos) (e :: es) [] pos) (tMS (rJoin X.K) to t) := pe_ms PySem.F.plainAttrs_str PySem.F.slot_str_join PySem.F.type_str_join (mtImp mt_join fun x xs H Q q => by
      unfold rJoin at q
      split at q
      · split at q
        · rename_i hq
          obtain ⟨ys, rfl, z, q⟩ := q
          exact ⟨_, _, ys, rfl, rfl, sqv_sq hq, z, q⟩
        · exact q.elim
      · exact q.elim) ho ha hb hf hl hs hp
end
/-- l[i] = v -/
def rSetLU : TSet := fun o i v H Q => match o, i with
  | .ref p, .int k => (match H p with
    | some (.lst xs) => (match ixN xs.length k with
      | some j => Q (upd H p (.lst (xs.set j v)))
      | none => False)
    | _ => False)
  | _, _ => False
theorem set_lstU {X : Cx} : PSet X rSetLU := by
  intro pins s σ H o i v ov iv u Q I ro ri rv h
  refine set_list pins s σ H o i v ov iv u Q I ro ri rv ?_
  unfold rSetLU at h
  split at h
  · split at h
    · split at h
      · exact ⟨_, _, _, _, rfl, rfl, ‹_›, ‹_›, h⟩
      · exact h.elim
    · exact h.elim
  · exact h.elim
theorem gSub_e {to ti : TE} {t : TSet} {v : V} {σ : L2.St} {H : Hp} {Q : L2.St → Hp → Prop} : gSub to ti t v σ H Q = to σ H fun o H1 => ti σ H1 fun i H2 => t o i v H2 fun H3 => Q σ H3 := rfl
theorem rSetLU_ref {p : Addr} {k : Int} {v : V} {H : Hp} {Q : Hp → Prop} {xs : List V} (h : H p = some (.lst xs)) : rSetLU (.ref p) (.int k) v H Q = (match ixN xs.length k with
      | some j => Q (upd H p (.lst (xs.set j v)))
      | none => False) := by unfold rSetLU; simp only [h]
theorem rOrd_str {x : Str} {H : Hp} {Q : VK} : rOrd [.str x] H Q = (x.length = 1 ∧ Q (.int (x.cps.getD 0 0 : Nat)) H) := rfl
theorem rSidx_str {a b : Str} {H : Hp} {Q : VK} : rSidx (.str a) [.str b] H Q = (match Builtin.Str.occurrences a b 0 a.length 1 with
    | i :: _ => Q (.int (i : Nat)) H
    | [] => False) := rfl
theorem rJoin_lst {K : PySem.W.Frag} {a : Str} {p : Addr} {H : Hp} {Q : VK} {ys : List Str} (h : lstv K H p = some (ys.map V.str)) (hz : (ys.map (·.length)).sum + ys.length * a.length ≤ 16777216) (q : Q (.str (Txt.join a ys)) H) : rJoin K (.str a) [.ref p] H Q := by
  unfold rJoin
  simp only [sqv_l h]
  exact ⟨ys, rfl, hz, q⟩
/-- a comprehension over a range whose turns may write -/
theorem lcRI {lo : Int} {n : Nat} {g : TG} {tt : TT} {te : TE} {vs : List Nat} {σ : L2.St} {H1 : Hp} {Q : VK} (Pv : Nat → Addr → Hp → Prop)
    (h0 : ∀ D, H1 D = none → Pv 0 D (upd H1 D (.lst [])))
    (step : ∀ D i H, H1 D = none → i < n → Pv i D H → LTurn g tt te vs σ (.int (lo + i)) H (fun y H4 => ∃ acc, H4 D = some (.lst acc) ∧ acc.length < sizeLine ∧ Pv (i + 1) D (upd H4 D (.lst (acc ++ [y])))) (fun H3 => Pv (i + 1) D H3))
    (hq : ∀ D H, H1 D = none → Pv n D H → Q (.ref D) H) : LcGo (Itr lo n) g tt te vs σ H1 Q := by
  intro D hD
  exact lc_range (fun i H => Pv i D H) (h0 D hD) (fun i H hi p => step D i H hD hi p) (fun H p => hq D H hD p)
/-! ### a text's signs walked -/
section
variable {z : Str} {l : List Nat} {g : TG} {tb : TS} {D : Ends} {σ : L2.St} {H : Hp} {tt : TT} {te : TE} {vs : List Nat} {H1 : Hp} {Q : VK}
theorem goesS (hz : z.cps.toList = l) (Pv : Nat → L2.St → Hp → Prop) (h0 : Pv 0 σ H)
    (hs : ∀ i c σ H, l[i]? = some c → Pv i σ H → g (.str ⟨#[c]⟩) σ H fun σ2 H2 => tb { D with nx := Pv (i + 1), ct := Pv (i + 1), bk := D.nx } σ2 H2) (hd : ∀ σ H, Pv l.length σ H → D.nx σ H) : Goes (Its z) g tb D σ H := by
  have hn : z.cps.size = l.length := by rw [← hz]; simp
  refine for_it walk_str Pv h0 (fun _ _ _ _ _ => True.intro) ?_ (by rw [hn]; exact hd)
  rintro i x σ H H' hi p ⟨rfl, c, hc, rfl⟩
  exact hs i c σ _ (by rw [← hz]; simpa using hc) p
theorem lcS (hz : z.cps.toList = l) (F : Nat → Option V) (hz2 : l.length ≤ 10000000)
    (step : ∀ c ∈ l, ∀ H', Same H1 H' → ∀ (Qy : VK) (Qn : Hp → Prop), (∀ y, F c = some y → ∀ H'', Same H' H'' → Qy y H'') → (F c = none → ∀ H'', Same H' H'' → Qn H'') → LTurn g tt te vs σ (.str ⟨#[c]⟩) H' Qy Qn)
    (hq : ∀ p H', H1 p = none → Same H1 H' → H' p = some (.lst (l.filterMap F)) → Q (.ref p) H') : LcGo (Its z) g tt te vs σ H1 Q := by
  intro D hD
  have hn : z.cps.size = l.length := by rw [← hz]; simp
  refine lc_it walk_str (fun i H => Same H1 H ∧ H D = some (.lst ((l.take i).filterMap F))) ⟨Same.new hD, by rw [upd_same]; rfl⟩ (fun _ _ _ _ => True.intro) ?_ (fun H h => ?_)
  · rintro i x H H' hi ⟨h1, h2⟩ ⟨rfl, c, hc, rfl⟩
    have hi2 : l[i]? = some c := by rw [← hz]; simpa using hc
    have hlt : i < l.length := by omega
    refine step c (List.mem_of_getElem? hi2) _ h1 _ _ (fun y hy H2 s2 => ?_) (fun hy H2 s2 => ?_)
    · refine ⟨_, s2 _ _ h2, Nat.lt_of_lt_of_le (Nat.lt_of_le_of_lt (List.length_filterMap_le _ _) (by rw [List.length_take]; omega : (l.take i).length < l.length)) (sz _ hz2), fun b o hb => ?_, ?_⟩
      · rw [upd_ne (ne_of_none hb hD)]
        exact s2 _ _ (h1 _ _ hb)
      · rw [upd_same, take_snoc hi2, filterMap_snoc, hy]
    · refine ⟨h1.trans s2, ?_⟩
      rw [s2 _ _ h2, take_snoc hi2, filterMap_snoc, hy, List.append_nil]
  · rw [hn, List.take_length] at h
    exact hq D H hD h.1 h.2
end
theorem tMS_e {r : V → List V → Hp → VK → Prop} {to : TE} {t : TA} {σ : L2.St} {H : Hp} {Q : VK} : tMS r to t σ H Q = to σ H fun x H1 => match x with
  | .str z => t σ H1 fun vs H2 => r (.str z) vs H2 Q
  | _ => False := rfl
theorem lstv_chg {K : PySem.W.Frag} {H H' : Hp} {p st : Addr} {xs : List V} (s : ∀ b o, b ≠ st → H b = some o → H' b = some o) (ne : p ≠ st) (ap : Apart K H') (h : lstv K H p = some xs) : lstv K H' p = some xs := by
  unfold lstv at h
  split at h
  · cases h; exact lstv_of (s _ _ ne ‹_›)
  · cases h; exact lstv_frz (s _ _ ne ‹_›)
  · obtain ⟨o, q⟩ := klst_in h
    unfold lstv
    rw [ap _ _ q]
    exact h
  · cases h
theorem lstv_ne {K : PySem.W.Frag} {H H' : Hp} {a p : Addr} {xs : List V} {o : HO} (hp : H p = none) (e : H' p = some o) (ap : Apart K H') (h : lstv K H a = some xs) : a ≠ p := by
  rintro rfl
  unfold lstv at h
  rw [hp] at h
  obtain ⟨o', q⟩ := klst_in h
  rw [ap _ _ q] at e
  cases e
theorem rIs_e {x : V} {H : Hp} {Q : VK} : rIsU x .non H Q = Q (.bl (decide (x = .non))) H := by cases x <;> rfl
theorem rIsN_e {x : V} {H : Hp} {Q : VK} : rIsNU x .non H Q = Q (.bl (!decide (x = .non))) H := by cases x <;> rfl
end R

/-! escaped texts: plain law -/
namespace N62
open PySem
def S (l : List Nat) : Str := ⟨l.toArray⟩
theorem S_app (a b : List Nat) : S a ++ S b = S (a ++ b) := Str.ext' (by rw [Str.cps_append]; simp [S])
theorem S_len (a : List Nat) : (S a).length = a.length := by simp [S, Str.length]
theorem S_inj {a b : List Nat} : S a = S b ↔ a = b := by
  constructor
  · intro h
    have := congrArg (fun x : Str => x.cps.toList) h
    simpa [S] using this
  · intro h; rw [h]
theorem S_cps (a : List Nat) : (S a).cps.toList = a := rfl
theorem S_one (c : Nat) : (⟨#[c]⟩ : Str) = S [c] := rfl
theorem S_of (z : Str) : z = S z.cps.toList := Str.ext' (by simp [S])
abbrev PL : Str := "abcdefghijklmnopqrstuvwxyzABCDEFGHIJKLMNOPQRSTUVWXYZ0123456789-_."
abbrev HX : Str := "0123456789abcdef"
abbrev BF : Str := " !\"#$"
abbrev BH : Str := "&'()*+,-./0123456789:;<=>?@ABCDEFGHIJKLMNOPQRSTUVWXYZ[\\]^_`abcdefghijklmnopqrstuvwxyz{|}~"
abbrev G0 : Str := " !#$&'()*+,-./0123456789:;<=>?@ABCDEFGHIJKLMNOPQRSTUVWXYZ[]^_`abcdefghijklmnopqrstuvwxyz{|}~"
def SG0 : List Nat := G0.cps.toList ++ [34] ++ [92]
def SG : List Nat := SG0 ++ [10, 9]
def plain (c : Nat) : Bool := decide (c ∈ PL.cps.toList)
def ishex (c : Nat) : Bool := decide (c ∈ HX.cps.toList)
def hx (n : Nat) : Nat := HX.cps.toList.getD n 0
def hv (c : Nat) : Nat := if c < 97 then c - 48 else c - 87
def okc (c : Nat) : Bool := c == 9 || c == 10 || (decide (32 ≤ c) && decide (c ≤ 126) && c != 37)
def esc1 (c : Nat) : List Nat := if plain c then [c] else [126, hx (c / 16), hx (c % 16)]
def esc (l : List Nat) : List Nat := l.flatMap esc1
theorem okc_lt {c : Nat} (h : okc c = true) : c < 127 := by
  unfold okc at h
  simp at h
  omega
theorem at_S (l : List Nat) (i : Nat) (c : Nat) (h : l[i]? = some c) : L2.atI (S l).cps.toList (i : Int) = some c := by
  have hi : i < l.length := (List.getElem?_eq_some_iff.mp h).1
  unfold L2.atI L2.ixN
  rw [S_cps, if_pos (by omega), if_pos (by omega)]
  simpa using h
/-! facts told by looking at all signs -/
theorem f_bf : ∀ c < 37, 32 ≤ c → (Builtin.Str.occurrences BF ⟨#[c]⟩ 0 BF.length 1) = [c - 32] := by decide +kernel
theorem f_bf0 : ∀ c < 127, 32 ≤ c → decide (c ∈ BF.cps.toList) = decide (c < 37) := by decide +kernel
theorem f_bf2 (c : Nat) (h : c < 127) (h2 : 32 ≤ c) : R.inS (S [c]) BF = decide (c < 37) := by
  rw [← S_one, R.inS_one]
  exact f_bf0 c h h2
theorem f_pl (c : Nat) : R.inS (S [c]) PL = plain c := by rw [← S_one, R.inS_one]; rfl
theorem f_ishex (c : Nat) : R.inS (S [c]) HX = ishex c := by rw [← S_one, R.inS_one]; rfl
theorem f_bh : ∀ c < 127, 37 < c → (Builtin.Str.occurrences BH ⟨#[c]⟩ 0 BH.length 1).head? = some (c - 38) := by decide +kernel
theorem f_hxi : ∀ c < 127, ishex c = true → (Builtin.Str.occurrences HX ⟨#[c]⟩ 0 HX.length 1).head? = some (hv c) := by decide +kernel
theorem hex_lt : ∀ c ∈ HX.cps.toList, c < 127 ∧ hv c < 16 := by decide +kernel
theorem f_hx : ∀ n : Nat, n < 16 → L2.atI HX.cps.toList (n : Int) = some (hx n) := by decide +kernel
theorem f_cbf : ∀ n : Nat, n < 5 → L2.atI BF.cps.toList (n : Int) = some (n + 32) := by decide +kernel
theorem f_cbh : ∀ n : Nat, n < 89 → L2.atI BH.cps.toList (n : Int) = some (n + 38) := by decide +kernel
theorem l_bf : BF.length = 5 := by decide +kernel
theorem l_bh : BH.length = 89 := by decide +kernel
theorem l_hx : HX.length = 16 := by decide +kernel
theorem sg_ok : ∀ c ∈ SG, okc c = true := by decide +kernel
theorem pl_lt : ∀ c ∈ PL.cps.toList, c < 256 ∧ c ≠ 126 := by decide +kernel
theorem plain_lt {c : Nat} (h : plain c = true) : c < 256 ∧ c ≠ 126 := pl_lt c (of_decide_eq_true h)
theorem f_esc : ∀ c < 127, okc c = true → plain c = false → ishex (hx (c / 16)) = true ∧ ishex (hx (c % 16)) = true ∧ hv (hx (c / 16)) * 16 + hv (hx (c % 16)) = c ∧ SG.find? (fun s => esc1 s == [126, hx (c / 16), hx (c % 16)]) = some c := by decide +kernel
theorem p126 : plain 126 = false := by decide +kernel
/-! readers -/
def pr : List Nat → Option (List Nat)
  | [] => some []
  | c :: r => if plain c then (pr r).map (c :: ·) else if c = 126 ∧ 2 ≤ r.length ∧ ishex (r.getD 0 0) = true ∧ ishex (r.getD 1 0) = true then (pr (r.drop 2)).map ((hv (r.getD 0 0) * 16 + hv (r.getD 1 0)) :: ·) else none
termination_by l => l.length
decreasing_by all_goals (simp; try omega)
def rp : List Nat → Option (List Nat)
  | [] => some []
  | c :: r => if c ≠ 126 then (rp r).map (c :: ·) else match SG.find? (fun s => esc1 s == c :: r.take 2) with
    | none => none
    | some s => (rp (r.drop 2)).map (s :: ·)
termination_by l => l.length
theorem pr_esc1 {c : Nat} (r : List Nat) (h : okc c = true) : pr (esc1 c ++ r) = (pr r).map (c :: ·) := by
  unfold esc1
  by_cases hp : plain c = true
  · rw [if_pos hp]
    show pr (c :: r) = _
    rw [pr, if_pos hp]
  · obtain ⟨h1, h2, h3, h4⟩ := f_esc c (okc_lt h) h (by simpa using hp)
    rw [if_neg hp]
    show pr (126 :: hx (c / 16) :: hx (c % 16) :: r) = _
    rw [pr, if_neg (by simp [p126])]
    simp only [List.getD_cons_zero, List.getD_cons_succ, List.length_cons, List.drop_succ_cons, List.drop_zero]
    rw [if_pos ⟨by simp, by omega, h1, h2⟩, h3]
theorem rp_esc1 {c : Nat} (r : List Nat) (h : okc c = true) : rp (esc1 c ++ r) = (rp r).map (c :: ·) := by
  unfold esc1
  by_cases hp : plain c = true
  · rw [if_pos hp]
    show rp (c :: r) = _
    rw [rp, if_pos (plain_lt hp).2]
  · obtain ⟨h1, h2, h3, h4⟩ := f_esc c (okc_lt h) h (by simpa using hp)
    rw [if_neg hp]
    show rp (126 :: hx (c / 16) :: hx (c % 16) :: r) = _
    rw [rp, if_neg (by simp)]
    simp only [List.take_succ_cons, List.take_zero, h4, List.drop_succ_cons, List.drop_zero]
theorem pr_esc : ∀ l : List Nat, (∀ c ∈ l, okc c = true) → pr (esc l) = some l
  | [], _ => by rw [esc, List.flatMap_nil, pr]
  | c :: l, h => by
    rw [esc, List.flatMap_cons, pr_esc1 _ (h c (by simp)), ← esc, pr_esc l fun d hd => h d (by simp [hd])]
    rfl
theorem rp_esc : ∀ l : List Nat, (∀ c ∈ l, okc c = true) → rp (esc l) = some l
  | [], _ => by rw [esc, List.flatMap_nil, rp]
  | c :: l, h => by
    rw [esc, List.flatMap_cons, rp_esc1 _ (h c (by simp)), ← esc, rp_esc l fun d hd => h d (by simp [hd])]
    rfl
theorem esc_len (l : List Nat) : (esc l).length ≤ 3 * l.length := by
  induction l with
  | nil => simp [esc]
  | cons c l ih =>
    rw [esc, List.flatMap_cons, ← esc, List.length_append]
    have : (esc1 c).length ≤ 3 := by unfold esc1; split <;> simp
    simp only [List.length_cons]
    omega
theorem rp_ok : ∀ (n : Nat) (z f : List Nat), z.length ≤ n → (∀ c ∈ z, okc c = true) → rp z = some f → (∀ c ∈ f, okc c = true) ∧ f.length ≤ z.length
  | n, [], f, hn, h, e => by rw [rp] at e; cases e; simp
  | 0, c :: r, f, hn, h, e => by simp at hn
  | n + 1, c :: r, f, hn, h, e => by
    simp at hn
    rw [rp] at e
    split at e
    · cases e2 : rp r with
      | none => rw [e2] at e; cases e
      | some g =>
        rw [e2] at e; cases e
        obtain ⟨h1, h2⟩ := rp_ok n r g hn (fun d hd => h d (by simp [hd])) e2
        refine ⟨fun d hd => ?_, by simp; exact h2⟩
        rcases List.mem_cons.mp hd with rfl | hd
        · exact h d (by simp)
        · exact h1 d hd
    · split at e
      · cases e
      · rename_i s hs
        cases e2 : rp (r.drop 2) with
        | none => rw [e2] at e; cases e
        | some g =>
          rw [e2] at e; cases e
          obtain ⟨h1, h2⟩ := rp_ok n (r.drop 2) g (by simp; omega) (fun d hd => h d (by simp [List.mem_of_mem_drop hd])) e2
          refine ⟨fun d hd => ?_, by simp at h2 ⊢; omega⟩
          rcases List.mem_cons.mp hd with rfl | hd
          · exact sg_ok _ (List.mem_of_find?_eq_some hs)
          · exact h1 d hd
theorem pr_lt : ∀ (n : Nat) (z f : List Nat), z.length ≤ n → pr z = some f → (∀ c ∈ f, c < 256) ∧ f.length ≤ z.length
  | n, [], f, hn, e => by rw [pr] at e; cases e; simp
  | 0, c :: r, f, hn, e => by simp at hn
  | n + 1, c :: r, f, hn, e => by
    simp at hn
    rw [pr] at e
    split at e
    · rename_i hp
      cases e2 : pr r with
      | none => rw [e2] at e; cases e
      | some g =>
        rw [e2] at e; cases e
        obtain ⟨h1, h2⟩ := pr_lt n r g hn e2
        refine ⟨fun d hd => ?_, by simp; exact h2⟩
        rcases List.mem_cons.mp hd with rfl | hd
        · exact (plain_lt hp).1
        · exact h1 d hd
    · split at e
      · rename_i hh
        cases e2 : pr (r.drop 2) with
        | none => rw [e2] at e; cases e
        | some g =>
          rw [e2] at e; cases e
          obtain ⟨h1, h2⟩ := pr_lt n (r.drop 2) g (by simp; omega) e2
          refine ⟨fun d hd => ?_, by simp at h2 ⊢; omega⟩
          rcases List.mem_cons.mp hd with rfl | hd
          · have x1 := (hex_lt _ (of_decide_eq_true hh.2.2.1)).2
            have x2 := (hex_lt _ (of_decide_eq_true hh.2.2.2)).2
            omega
          · exact h1 d hd
      · cases e
def inv (z : List Nat) : Option (List Nat) := match pr z with
  | none => none
  | some ns => if ns.all okc = true ∧ esc ns = z then some ns else none
theorem inv_esc (l : List Nat) (h : ∀ c ∈ l, okc c = true) : inv (esc l) = some l := by
  unfold inv
  rw [pr_esc l h]
  simp only
  rw [if_pos ⟨List.all_eq_true.mpr h, by simp⟩]
theorem inv_rp (z : List Nat) (h : ∀ c ∈ z, okc c = true) : (match rp z with | none => none | some f => if esc f = z then some f else none) = inv z := by
  cases e : rp z with
  | none =>
    unfold inv
    cases e2 : pr z with
    | none => rfl
    | some ns =>
      simp only
      split
      · rename_i hh
        rw [← hh.2, rp_esc ns (List.all_eq_true.mp hh.1)] at e
        cases e
      · rfl
  | some f =>
    simp only
    have hf := (rp_ok z.length z f (Nat.le_refl _) h e).1
    split
    · rename_i hh
      rw [← hh, inv_esc f hf]
    · rename_i hh
      unfold inv
      cases e2 : pr z with
      | none => rfl
      | some ns =>
        simp only
        split
        · rename_i h2
          rw [← h2.2, rp_esc ns (List.all_eq_true.mp h2.1)] at e
          cases e
          exact (hh h2.2).elim
        · rfl
theorem join_S : ∀ l : List Nat, Txt.join (S []) (l.map fun c => S [c]) = S l := by
  intro l
  rw [TL.join_eq]
  induction l with
  | nil => rfl
  | cons c l ih =>
    cases l with
    | nil => rfl
    | cons d l =>
      show S [c] ++ S [] ++ Str.join (S []) ((d :: l).map fun c => S [c]) = _
      rw [ih, S_app, S_app]
      rfl
end N62

namespace My
open PySem PySem.Spec PyProof.Rows L2 R
/-! ### the text by places -/
def top (i : Nat) : Stmt := PySem.Challenge.pw_formstripes_k62_escaped_texts.main.body.getD i (.Pass ⟨0, 0, 0, 0⟩)
abbrev s_char_of : Stmt := top 9
abbrev N_char_of : List Str := ["code"]
theorem sc_char_of : FnScope N_char_of ["code"] (defScope s_char_of) := ⟨rfl, rfl, rfl, by decide +kernel, rfl, by decide +kernel, by decide +kernel⟩
abbrev s_code_of : Stmt := top 10
abbrev N_code_of : List Str := ["char"]
theorem sc_code_of : FnScope N_code_of ["char"] (defScope s_code_of) := ⟨rfl, rfl, rfl, by decide +kernel, rfl, by decide +kernel, by decide +kernel⟩
abbrev s_encode_text : Stmt := top 11
abbrev N_encode_text : List Str := ["text", "char"]
theorem sc_encode_text : FnScope N_encode_text ["text"] (defScope s_encode_text) := ⟨rfl, rfl, rfl, by decide +kernel, rfl, by decide +kernel, by decide +kernel⟩
abbrev s_decode_text : Stmt := top 12
abbrev N_decode_text : List Str := ["octets", "chars", "at", "char"]
theorem sc_decode_text : FnScope N_decode_text ["octets"] (defScope s_decode_text) := ⟨rfl, rfl, rfl, by decide +kernel, rfl, by decide +kernel, by decide +kernel⟩
abbrev s_escape : Stmt := top 18
abbrev N_escape : List Str := ["text", "found", "code"]
theorem sc_escape : FnScope N_escape ["text"] (defScope s_escape) := ⟨rfl, rfl, rfl, by decide +kernel, rfl, by decide +kernel, by decide +kernel⟩
abbrev s_escaped_octets : Stmt := top 19
abbrev N_escaped_octets : List Str := ["text", "octets", "at"]
theorem sc_escaped_octets : FnScope N_escaped_octets ["text"] (defScope s_escaped_octets) := ⟨rfl, rfl, rfl, by decide +kernel, rfl, by decide +kernel, by decide +kernel⟩
abbrev s_unescape : Stmt := top 20
abbrev N_unescape : List Str := ["text", "octets", "found"]
theorem sc_unescape : FnScope N_unescape ["text"] (defScope s_unescape) := ⟨rfl, rfl, rfl, by decide +kernel, rfl, by decide +kernel, by decide +kernel⟩
abbrev s__law_refill : Stmt := top 23
abbrev N__law_refill : List Str := ["script", "k", "cell"]
theorem sc__law_refill : FnScope N__law_refill ["script", "k"] (defScope s__law_refill) := ⟨rfl, rfl, rfl, by decide +kernel, rfl, by decide +kernel, by decide +kernel⟩
abbrev s__law_draw : Stmt := top 24
abbrev N__law_draw : List Str := ["state", "script", "size", "digit"]
theorem sc__law_draw : FnScope N__law_draw ["state", "script", "size"] (defScope s__law_draw) := ⟨rfl, rfl, rfl, by decide +kernel, rfl, by decide +kernel, by decide +kernel⟩
abbrev s__law_pick : Stmt := top 25
abbrev N__law_pick : List Str := ["state", "script", "signs", "k"]
theorem sc__law_pick : FnScope N__law_pick ["state", "script", "signs"] (defScope s__law_pick) := ⟨rfl, rfl, rfl, by decide +kernel, rfl, by decide +kernel, by decide +kernel⟩
abbrev s__law_signs : Stmt := top 26
abbrev N__law_signs : List Str := []
theorem sc__law_signs : FnScope N__law_signs [] (defScope s__law_signs) := ⟨rfl, rfl, rfl, by decide +kernel, rfl, by decide +kernel, by decide +kernel⟩
abbrev s__law_code : Stmt := top 27
abbrev N__law_code : List Str := ["sign"]
theorem sc__law_code : FnScope N__law_code ["sign"] (defScope s__law_code) := ⟨rfl, rfl, rfl, by decide +kernel, rfl, by decide +kernel, by decide +kernel⟩
abbrev s__law_text : Stmt := top 28
abbrev N__law_text : List Str := ["state", "script", "least", "most", "signs", "kind", "k"]
theorem sc__law_text : FnScope N__law_text ["state", "script", "least", "most"] (defScope s__law_text) := ⟨rfl, rfl, rfl, by decide +kernel, rfl, by decide +kernel, by decide +kernel⟩
abbrev s__law_escaped : Stmt := top 30
abbrev N__law_escaped : List Str := ["text", "found", "sign", "code"]
theorem sc__law_escaped : FnScope N__law_escaped ["text"] (defScope s__law_escaped) := ⟨rfl, rfl, rfl, by decide +kernel, rfl, by decide +kernel, by decide +kernel⟩
abbrev s__law_read : Stmt := top 31
abbrev N__law_read : List Str := ["text", "found", "at", "k", "codes", "sign"]
theorem sc__law_read : FnScope N__law_read ["text"] (defScope s__law_read) := ⟨rfl, rfl, rfl, by decide +kernel, rfl, by decide +kernel, by decide +kernel⟩
abbrev s_law : Stmt := top 32
abbrev N_law : List Str := ["script", "state", "text", "told", "other", "k", "one"]
theorem sc_law : FnScope N_law ["script"] (defScope s_law) := ⟨rfl, rfl, rfl, by decide +kernel, rfl, by decide +kernel, by decide +kernel⟩
/-- the written part, the classes -/
abbrev s_FormstripesError___init__ : Stmt := inClass (top 1) 0
abbrev s_InvalidText___init__ : Stmt := inClass (top 2) 0
structure GG where
  K : PySem.W.Frag
  c_FormstripesError : Addr
  c_InvalidText : Addr
structure Top (P : Program) (w : World) (G : GG) (mg : Str → Option Value) (base : Heap) : Prop where
  triv : True
  n_int : mg "int" = none
  n_len : mg "len" = none
  n_ord : mg "ord" = none
  n_range : mg "range" = none
  c_BEFORE : Cst mg "BEFORE" (.str " !\"#$")
  c_BEHIND : Cst mg "BEHIND" (.str "&'()*+,-./0123456789:;<=>?@ABCDEFGHIJKLMNOPQRSTUVWXYZ[\\]^_`abcdefghijklmnopqrstuvwxyz{|}~")
  c_FIRST_BEHIND : Cst mg "FIRST_BEHIND" (.int 38)
  c_HEXADECIMAL : Cst mg "HEXADECIMAL" (.str "0123456789abcdef")
  c_LINE_FEED : Cst mg "LINE_FEED" (.int 10)
  c_PLAIN : Cst mg "PLAIN" (.str "abcdefghijklmnopqrstuvwxyzABCDEFGHIJKLMNOPQRSTUVWXYZ0123456789-_.")
  c_TAB : Cst mg "TAB" (.int 9)
  cl_FormstripesError : mg "FormstripesError" = some (.ref G.c_FormstripesError)
  cl_InvalidText : mg "InvalidText" = some (.ref G.c_InvalidText)
  e_InvalidText : KinE P w G.K mg base "InvalidText" G.c_InvalidText G.c_FormstripesError "InvalidText"
  xf_InvalidText : XfC G.K G.c_InvalidText
  xc_InvalidText : ExcC G.K G.c_InvalidText
  np_InvalidText : PySem.W.findIn G.K (.ref G.c_InvalidText) "place" = some none
  nn_InvalidText : PySem.W.findIn G.K (.ref G.c_InvalidText) "name" = some none
  em_InvalidText_FormstripesError : PySem.W.exmOne G.K (.ref G.c_InvalidText) (.ref G.c_FormstripesError) = some true
  ko_InvalidText_FormstripesError : PySem.W.kitOne G.K (.ref G.c_InvalidText) (.ref G.c_FormstripesError) = some true
  em_InvalidText_InvalidText : PySem.W.exmOne G.K (.ref G.c_InvalidText) (.ref G.c_InvalidText) = some true
  ko_InvalidText_InvalidText : PySem.W.kitOne G.K (.ref G.c_InvalidText) (.ref G.c_InvalidText) = some true
/-! ### promises -/
open N62
def NL (H : Hp) (Q : VK) (ns : List Nat) : Prop := ∀ p H', Same H H' → H' p = some (.lst (octs ns)) → Q (.ref p) H'
def oV : Option (List Nat) → V
  | none => .non
  | some l => .str (S l)
def sp_char_of (_ : GG) : Sp := fun vs H Q _ => ∃ c : Nat, vs = [.int c] ∧ c < 256 ∧ Q (if okc c = true then .str (S [c]) else .non) H
def sp_code_of (_ : GG) : Sp := fun vs H Q _ => ∃ c : Nat, vs = [.str (S [c])] ∧ okc c = true ∧ Q (.int c) H
def sp_encode_text (_ : GG) : Sp := fun vs H Q _ => ∃ l, vs = [.str (S l)] ∧ (∀ c ∈ l, okc c = true) ∧ l.length ≤ 1000 ∧ NL H Q l
noncomputable def sp_decode_text (G : GG) : Sp := fun vs H Q E => ∃ (a : Addr) (ns : List Nat), vs = [.ref a] ∧ H a = some (.lst (octs ns)) ∧ (∀ c ∈ ns, c < 256) ∧ ns.length ≤ 1000 ∧ (ns.all okc = true → ∀ H', Same H H' → Q (.str (S ns)) H') ∧
  (ns.all okc = false → ∀ d H' v, Same H H' → H' d = some (.xd [("name", .str "InvalidText"), ("place", v)]) → E (.ref G.c_InvalidText) (some d) H')
def sp_escape (_ : GG) : Sp := fun vs H Q _ => ∃ l, vs = [.str (S l)] ∧ (∀ c ∈ l, okc c = true) ∧ l.length ≤ 500 ∧ ∀ H', Same H H' → Q (.str (S (esc l))) H'
def sp_escaped_octets (_ : GG) : Sp := fun vs H Q _ => ∃ z, vs = [.str (S z)] ∧ z.length ≤ 500 ∧ match pr z with
  | none => ∀ H', Same H H' → Q .non H'
  | some ns => NL H Q ns
def sp_unescape (_ : GG) : Sp := fun vs H Q _ => ∃ z, vs = [.str (S z)] ∧ z.length ≤ 500 ∧ ∀ H', Same H H' → Q (oV (inv z)) H'
def sp__law_code (_ : GG) : Sp := fun vs H Q _ => ∃ c : Nat, vs = [.str (S [c])] ∧ Q (.int c) H
def sp__law_escaped (_ : GG) : Sp := fun vs H Q _ => ∃ l, vs = [.str (S l)] ∧ (∀ c ∈ l, okc c = true) ∧ l.length ≤ 500 ∧ Q (.str (S (esc l))) H
def sp__law_read (_ : GG) : Sp := fun vs H Q _ => ∃ z, vs = [.str (S z)] ∧ (∀ c ∈ z, okc c = true) ∧ z.length ≤ 500 ∧ ∀ H', Same H H' → Q (oV (inv z)) H'
def sp__law_signs (_ : GG) : Sp := fun vs H Q _ => vs = [] ∧ Q (.str (S SG0)) H
noncomputable def sp__law_refill (G : GG) : Sp := fun vs H Q _ => ∃ (a : Addr) (ns : List Int) (k : Int), vs = [.ref a, .int k] ∧ lstv G.K H a = some (ns.map V.int) ∧ ns.length ≤ 63 ∧ ∀ i, Q (.int i) H
/-- the state's list is written, the rest stays -/
def Chg (st : Addr) (H H' : Hp) : Prop := (∀ b o, b ≠ st → H b = some o → H' b = some o) ∧ ∃ k c : Int, H' st = some (.lst [.int k, .int c])
theorem Chg.refl {st : Addr} {H : Hp} {k c : Int} (h : H st = some (.lst [.int k, .int c])) : Chg st H H := ⟨fun _ _ _ e => e, k, c, h⟩
theorem Chg.trans {st : Addr} {H H1 H2 : Hp} (s : Chg st H H1) (t : Chg st H1 H2) : Chg st H H2 := ⟨fun b o n e => t.1 b o n (s.1 b o n e), t.2⟩
theorem Chg.upd {st : Addr} {H H1 : Hp} {k c : Int} (s : Chg st H H1) : Chg st H (L2.upd H1 st (.lst [.int k, .int c])) := ⟨fun b o n e => by rw [upd_ne n]; exact s.1 b o n e, k, c, upd_same⟩
theorem Chg.same {st : Addr} {H H1 H2 : Hp} (s : Chg st H H1) (t : Same H1 H2) : Chg st H H2 := ⟨fun b o n e => t _ _ (s.1 b o n e), s.2.elim fun k ⟨c, e⟩ => ⟨k, c, t _ _ e⟩⟩
/-- the script's list stays to be read -/
def LS (K : PySem.W.Frag) (H : Hp) (st a : Addr) (xs : List V) : Prop := Apart K H → a ≠ st ∧ lstv K H a = some xs
theorem LS.chg {K : PySem.W.Frag} {H H' : Hp} {st a : Addr} {xs : List V} (h : LS K H st a xs) (s : Chg st H H') : LS K H' st a xs := fun ap => by
  obtain ⟨k, c, e⟩ := s.2
  have ap0 : Apart K H := fun b o hb => by
    by_cases hst : b = st
    · subst hst; rw [ap b o hb] at e; cases e
    · cases e2 : H b with
      | none => rfl
      | some o2 => have := s.1 b o2 hst e2; rw [ap b o hb] at this; cases this
  obtain ⟨h1, h2⟩ := h ap0
  exact ⟨h1, lstv_chg s.1 h1 ap h2⟩
theorem LS.new {K : PySem.W.Frag} {H H' : Hp} {st a : Addr} {xs : List V} {o : HO} (h : lstv K H a = some xs) (hs : H st = none) (s : Same H H') (e : H' st = some o) : LS K H' st a xs := fun ap => ⟨lstv_ne hs e ap h, lstv_mono s ap h⟩
noncomputable def sp__law_draw (G : GG) : Sp := fun vs H Q _ => ∃ (st a : Addr) (ns : List Int) (k c n : Int), vs = [.ref st, .ref a, .int n] ∧ 0 < n ∧ n < 1000 ∧ H st = some (.lst [.int k, .int c]) ∧ LS G.K H st a (ns.map V.int) ∧ ns.length ≤ 63 ∧
  ∀ d H', 0 ≤ d → d < n → Chg st H H' → Q (.int d) H'
noncomputable def sp__law_pick (G : GG) : Sp := fun vs H Q _ => ∃ (st a : Addr) (ns : List Int) (k c : Int) (z : List Nat), vs = [.ref st, .ref a, .str (S z)] ∧ z ≠ [] ∧ z.length < 1000 ∧ H st = some (.lst [.int k, .int c]) ∧ LS G.K H st a (ns.map V.int) ∧ ns.length ≤ 63 ∧
  ∀ x ∈ z, ∀ H', Chg st H H' → Q (.str (S [x])) H'
noncomputable def sp__law_text (G : GG) : Sp := fun vs H Q _ => ∃ (st a : Addr) (ns : List Int) (k c : Int) (least most : Int), vs = [.ref st, .ref a, .int least, .int most] ∧ 0 ≤ least ∧ least ≤ most ∧ most ≤ 60 ∧ H st = some (.lst [.int k, .int c]) ∧ LS G.K H st a (ns.map V.int) ∧ ns.length ≤ 63 ∧
  ∀ z : List Nat, (∀ x ∈ z, okc x = true) → z.length ≤ 60 → ∀ H', Chg st H H' → Q (.str (S z)) H'
noncomputable abbrev sp_law : GG → Sp := fun G => spLaw G.K

noncomputable def t_char_of_1 (G : GG) : TS := tAp G.K (tRet (tC .non))
noncomputable def t_char_of_2 (G : GG) : TS := tAp G.K (tSeq (tIfS (tTest (tOp (rEqU G.K) (tVar 0) (tC (.int 9)))) (tRet (tC (.str "\t"))) tNext)
    (t_char_of_1 G))
noncomputable def t_char_of_3 (G : GG) : TS := tAp G.K (tSeq (tIfS (tTest (tOp (rEqU G.K) (tVar 0) (tC (.int 10)))) (tRet (tC (.str "\n"))) tNext)
    (t_char_of_2 G))
noncomputable def t_char_of_4 (G : GG) : TS := tAp G.K (tSeq (tIfS (tTest (tChain rLeU rLtU (tC (.int 38)) (tVar 0) (tOp rAddU (tC (.int 38)) (tCB (rLenU G.K) (tCons (tC (.str "&'()*+,-./0123456789:;<=>?@ABCDEFGHIJKLMNOPQRSTUVWXYZ[\\]^_`abcdefghijklmnopqrstuvwxyz{|}~")) tNil))))) (tRet (tOp (rIxU G.K) (tC (.str "&'()*+,-./0123456789:;<=>?@ABCDEFGHIJKLMNOPQRSTUVWXYZ[\\]^_`abcdefghijklmnopqrstuvwxyz{|}~")) (tOp rSubI (tVar 0) (tC (.int 38))))) tNext)
    (t_char_of_3 G))
noncomputable def t_char_of (G : GG) : TS := tAp G.K (tSeq (tIfS (tTest (tChain rLeU rLtU (tC (.int 32)) (tVar 0) (tOp rAddU (tC (.int 32)) (tCB (rLenU G.K) (tCons (tC (.str " !\"#$")) tNil))))) (tRet (tOp (rIxU G.K) (tC (.str " !\"#$")) (tOp rSubI (tVar 0) (tC (.int 32))))) tNext)
    (t_char_of_4 G))
theorem dv_char_of {P : Program} {w : World} {G : GG} {mg : Str → Option Value} {base : Heap} {f : Addr} {cdv : Value} {A : Around} {outer : List Env} {s : Shared} {H : Hp} {E : XK} (T : Top P w G mg base) (hr : Room 0 (A.deeper (envOfC "char_of" (defScope s_char_of) s.heap.objs.size f cdv))) :
    PSs (cxOf CX0 P w G.K mg base N_char_of "char_of" (defScope s_char_of) f cdv A outer s H E).nox (defBody s_char_of) (t_char_of G) :=
  (pssAp (pss_cons (ps_if (pt_chain u_le u_lt pe_int (pv 0) (pe_op u_add pe_int (pe_callB c_len rfl T.n_len bt_len (pa_cons (pe_cst T.c_BEFORE rfl) pa_nil)))) (pss_one (ps_ret (pe_ix u_ix (pe_cst T.c_BEFORE rfl) (pe_op u_sub (pv 0) pe_int) (fun _ _ => rfl)))) pss_nil)
    (pssAp (pss_cons (ps_if (pt_chain u_le u_lt (pe_cst T.c_FIRST_BEHIND rfl) (pv 0) (pe_op u_add (pe_cst T.c_FIRST_BEHIND rfl) (pe_callB c_len rfl T.n_len bt_len (pa_cons (pe_cst T.c_BEHIND rfl) pa_nil)))) (pss_one (ps_ret (pe_ix u_ix (pe_cst T.c_BEHIND rfl) (pe_op u_sub (pv 0) (pe_cst T.c_FIRST_BEHIND rfl)) (fun _ _ => rfl)))) pss_nil)
    (pssAp (pss_cons (ps_if (pt_cmpR (u_eq hr.units) (pv 0) (pe_cst T.c_LINE_FEED rfl) rfl) (pss_one (ps_ret pe_str)) pss_nil)
    (pssAp (pss_cons (ps_if (pt_cmpR (u_eq hr.units) (pv 0) (pe_cst T.c_TAB rfl) rfl) (pss_one (ps_ret pe_str)) pss_nil)
    (pssAp (pss_one (ps_ret pe_non)))))))))))
noncomputable def t_code_of_1 (G : GG) : TS := tAp G.K (tRet (tOp rAddU (tC (.int 38)) (tMS rSidx (tC (.str "&'()*+,-./0123456789:;<=>?@ABCDEFGHIJKLMNOPQRSTUVWXYZ[\\]^_`abcdefghijklmnopqrstuvwxyz{|}~")) (tCons (tVar 0) tNil))))
noncomputable def t_code_of_2 (G : GG) : TS := tAp G.K (tSeq (tIfS (tTest (tOp (rInU G.K false) (tVar 0) (tC (.str " !\"#$")))) (tRet (tOp rAddU (tC (.int 32)) (tMS rSidx (tC (.str " !\"#$")) (tCons (tVar 0) tNil)))) tNext)
    (t_code_of_1 G))
noncomputable def t_code_of_3 (G : GG) : TS := tAp G.K (tSeq (tIfS (tTest (tOp (rEqU G.K) (tVar 0) (tC (.str "\t")))) (tRet (tC (.int 9))) tNext)
    (t_code_of_2 G))
noncomputable def t_code_of (G : GG) : TS := tAp G.K (tSeq (tIfS (tTest (tOp (rEqU G.K) (tVar 0) (tC (.str "\n")))) (tRet (tC (.int 10))) tNext)
    (t_code_of_3 G))
theorem dv_code_of {P : Program} {w : World} {G : GG} {mg : Str → Option Value} {base : Heap} {f : Addr} {cdv : Value} {A : Around} {outer : List Env} {s : Shared} {H : Hp} {E : XK} (T : Top P w G mg base) (hr : Room 0 (A.deeper (envOfC "code_of" (defScope s_code_of) s.heap.objs.size f cdv))) :
    PSs (cxOf CX0 P w G.K mg base N_code_of "code_of" (defScope s_code_of) f cdv A outer s H E).nox (defBody s_code_of) (t_code_of G) :=
  (pssAp (pss_cons (ps_if (pt_cmpR (u_eq hr.units) (pv 0) pe_str rfl) (pss_one (ps_ret (pe_cst T.c_LINE_FEED rfl))) pss_nil)
    (pssAp (pss_cons (ps_if (pt_cmpR (u_eq hr.units) (pv 0) pe_str rfl) (pss_one (ps_ret (pe_cst T.c_TAB rfl))) pss_nil)
    (pssAp (pss_cons (ps_if (pt_cmpR u_in (pv 0) (pe_cst T.c_BEFORE rfl) rfl) (pss_one (ps_ret (pe_op u_add pe_int (pe_sindex (pe_cst T.c_BEFORE rfl) (pa_cons (pv 0) pa_nil))))) pss_nil)
    (pssAp (pss_one (ps_ret (pe_op u_add (pe_cst T.c_FIRST_BEHIND rfl) (pe_sindex (pe_cst T.c_BEHIND rfl) (pa_cons (pv 0) pa_nil))))))))))))
noncomputable def t_encode_text (G : GG) : TS := tAp G.K (tRet (tLcU (iSt (tVar 0)) (gName 1) tYes (tCall (sp_code_of G) [] E0 (tCons (tVar 1) tNil)) [1]))
theorem dv_encode_text {P : Program} {w : World} {G : GG} {mg : Str → Option Value} {base : Heap} {f : Addr} {cdv : Value} {A : Around} {outer : List Env} {s : Shared} {H : Hp} {E : XK} (T : Top P w G mg base) (F_code_of : FnE P w G.K mg base CX0 "code_of" 1 ["char"] (sp_code_of G)) (hr : Room 1 (A.deeper (envOfC "encode_text" (defScope s_encode_text) s.heap.objs.size f cdv))) :
    PSs (cxOf CX0 P w G.K mg base N_encode_text "encode_text" (defScope s_encode_text) f cdv A outer s H E).nox (defBody s_encode_text) (t_encode_text G) :=
  (pssAp (pss_one (ps_ret (pe_lc (own := [("char", 1)]) (g := (gName 1)) (tt := tYes) rfl sc_encode_text.nd (pi_st (pv 0)) (blkOk_by (N := N_encode_text) (sc := defScope s_encode_text) (by decide +kernel)) (fun _ _ _ _ _ => pg_name (i := 1) sc_encode_text.nd rfl (Or.inl rfl)) (fun _ _ _ _ _ => pts_nil) (fun _ _ _ _ _ => (pe_fn F_code_of (hr.mono (by decide)) rfl pass0 (pa_cons (pv 1) pa_nil)))))))
noncomputable def t_decode_text_1 (G : GG) (W : WX) : TS := tAp G.K (tDrop (tML G.K rApp (tVar 1) (tCons (tVar 3) tNil)))
noncomputable def t_decode_text_2 (G : GG) (W : WX) : TS := tAp G.K (tSeq (tAsg (tCall (sp_char_of G) [] E0 (tCons (tOp (rIxU G.K) (tVar 0) (tVar 2)) tNil)) (gName 3))
    (tSeq (tIfS (tTest (tOp rIsU (tVar 3) (tC .non))) (tRs W (tMkF G.c_InvalidText "InvalidText" (tVar 2))) tNext)
    (t_decode_text_1 G W)))
noncomputable def t_decode_text_3 (G : GG) (W : WX) : TS := tAp G.K (tRet (tMS (rJoin G.K) (tC (.str "")) (tCons (tVar 1) tNil)))
noncomputable def t_decode_text (G : GG) (W : WX) : TS := tAp G.K (tSeq (tAsg (tLst tNil) (gName 1))
    (tSeq (tForU (iRng1 (tCons (tCB (rLenU G.K) (tCons (tVar 0) tNil)) tNil)) (gName 2) (t_decode_text_2 G W))
    (t_decode_text_3 G W)))
theorem dv_decode_text {P : Program} {w : World} {G : GG} {mg : Str → Option Value} {base : Heap} {f : Addr} {cdv : Value} {A : Around} {outer : List Env} {s : Shared} {H : Hp} {E : XK} (T : Top P w G mg base) (F_char_of : FnE P w G.K mg base CX0 "char_of" 1 ["code"] (sp_char_of G)) (hr : Room 3 (A.deeper (envOfC "decode_text" (defScope s_decode_text) s.heap.objs.size f cdv))) :
    PSs (cxOf (L2.CX P w) P w G.K mg base N_decode_text "decode_text" (defScope s_decode_text) f cdv A outer s H E) (defBody s_decode_text) (t_decode_text G (fun cls d _ H => E cls d H)) :=
  (pssAp (pss_cons (ps_set (i := 1) sc_decode_text.nd rfl (Or.inl rfl) (pe_lst pa_nil))
    (pss_cons (ps_for (passes_of rfl) rfl (pi_range1 rfl T.n_range (pa_cons (pe_callB c_len rfl T.n_len bt_len (pa_cons (pv 0) pa_nil)) pa_nil)) (pg_name (i := 2) sc_decode_text.nd rfl (Or.inl rfl)) (pssAp (pss_cons (ps_set (i := 3) sc_decode_text.nd rfl (Or.inl rfl) (pe_fn F_char_of (hr.mono (by decide)) rfl pass0 (pa_cons (pe_ix u_ix (pv 0) (pv 2) (fun _ _ => rfl)) pa_nil)))
    (pss_cons (ps_if (pt_cmpR u_is (pv 3) pe_non rfl) (pss_one (ps_rs rfl (takes_of rfl rfl rfl rfl) (pmk_kin T.e_InvalidText (hr.mono (by decide)) rfl (pv 2)))) pss_nil)
    (pssAp (pss_one (ps_expr (pe_append (pv 1) (pa_cons (pv 3) pa_nil)))))))))
    (pssAp (pss_one (ps_ret (pe_sjoin pe_str (pa_cons (pv 1) pa_nil))))))))
noncomputable def t_escape_1 (G : GG) : TS := tAp G.K (tIfS (tTest (tOp (rInU G.K false) (tCall (sp_char_of G) [] E0 (tCons (tVar 2) tNil)) (tC (.str "abcdefghijklmnopqrstuvwxyzABCDEFGHIJKLMNOPQRSTUVWXYZ0123456789-_.")))) (tAug 1 (tCall (sp_char_of G) [] E0 (tCons (tVar 2) tNil)) rIaddU) (tAug 1 (tOp rAddU (tOp rAddU (tC (.str "~")) (tOp (rIxU G.K) (tC (.str "0123456789abcdef")) (tOp rShr (tVar 2) (tC (.int 4))))) (tOp (rIxU G.K) (tC (.str "0123456789abcdef")) (tOp rAndB (tVar 2) (tC (.int 15))))) rIaddU))
noncomputable def t_escape_2 (G : GG) : TS := tAp G.K (tRet (tVar 1))
noncomputable def t_escape (G : GG) : TS := tAp G.K (tSeq (tAsg (tC (.str "")) (gName 1))
    (tSeq (tForU (iLst G.K (tCall (sp_encode_text G) [] E0 (tCons (tVar 0) tNil))) (gName 2) (t_escape_1 G))
    (t_escape_2 G)))
theorem dv_escape {P : Program} {w : World} {G : GG} {mg : Str → Option Value} {base : Heap} {f : Addr} {cdv : Value} {A : Around} {outer : List Env} {s : Shared} {H : Hp} {E : XK} (T : Top P w G mg base) (F_char_of : FnE P w G.K mg base CX0 "char_of" 1 ["code"] (sp_char_of G)) (F_encode_text : FnE P w G.K mg base CX0 "encode_text" 2 ["text"] (sp_encode_text G)) (hr : Room 2 (A.deeper (envOfC "escape" (defScope s_escape) s.heap.objs.size f cdv))) :
    PSs (cxOf CX0 P w G.K mg base N_escape "escape" (defScope s_escape) f cdv A outer s H E).nox (defBody s_escape) (t_escape G) :=
  (pssAp (pss_cons (ps_set (i := 1) sc_escape.nd rfl (Or.inl rfl) pe_str)
    (pss_cons (ps_for PassesOwn.never rfl (pi_lst (pe_fn F_encode_text (hr.mono (by decide)) rfl pass0 (pa_cons (pv 0) pa_nil))) (pg_name (i := 2) sc_escape.nd rfl (Or.inl rfl)) (pssAp (pss_one (ps_if (pt_cmpR u_in (pe_fn F_char_of (hr.mono (by decide)) rfl pass0 (pa_cons (pv 2) pa_nil)) (pe_cst T.c_PLAIN rfl) rfl) (pss_one (ps_aug (i := 1) sc_escape.nd rfl (Or.inl rfl) (pe_fn F_char_of (hr.mono (by decide)) rfl pass0 (pa_cons (pv 2) pa_nil)) i_add)) (pss_one (ps_aug (i := 1) sc_escape.nd rfl (Or.inl rfl) (pe_op u_add (pe_op u_add pe_str (pe_ix u_ix (pe_cst T.c_HEXADECIMAL rfl) (pe_op u_shr (pv 2) pe_int) (fun _ _ => rfl))) (pe_ix u_ix (pe_cst T.c_HEXADECIMAL rfl) (pe_op u_and (pv 2) pe_int) (fun _ _ => rfl))) i_add))))))
    (pssAp (pss_one (ps_ret (pv 1)))))))
noncomputable def t_escaped_octets_1 (G : GG) : TS := tAp G.K (tSeq (tDrop (tML G.K rApp (tVar 1) (tCons (tCB rOrd (tCons (tOp (rIxU G.K) (tVar 0) (tVar 2)) tNil)) tNil)))
    (tAug 2 (tC (.int 1)) rIaddU))
noncomputable def t_escaped_octets_2 (G : GG) : TS := tAp G.K (tSeq (tDrop (tML G.K rApp (tVar 1) (tCons (tOp rAddU (tOp rMulU (tMS rSidx (tC (.str "0123456789abcdef")) (tCons (tOp (rIxU G.K) (tVar 0) (tOp rAddU (tVar 2) (tC (.int 1)))) tNil)) (tC (.int 16))) (tMS rSidx (tC (.str "0123456789abcdef")) (tCons (tOp (rIxU G.K) (tVar 0) (tOp rAddU (tVar 2) (tC (.int 2)))) tNil))) tNil)))
    (tAug 2 (tC (.int 3)) rIaddU))
noncomputable def t_escaped_octets_3 (G : GG) : TS := tAp G.K (tIfS (tTest (tOp (rInU G.K false) (tOp (rIxU G.K) (tVar 0) (tVar 2)) (tC (.str "abcdefghijklmnopqrstuvwxyzABCDEFGHIJKLMNOPQRSTUVWXYZ0123456789-_.")))) (t_escaped_octets_1 G) (tIfS (tAnd (tTest (tOp (rEqU G.K) (tOp (rIxU G.K) (tVar 0) (tVar 2)) (tC (.str "~")))) (tAnd (tTest (tOp rLtU (tOp rAddU (tVar 2) (tC (.int 2))) (tCB (rLenU G.K) (tCons (tVar 0) tNil)))) (tAnd (tTest (tOp (rInU G.K false) (tOp (rIxU G.K) (tVar 0) (tOp rAddU (tVar 2) (tC (.int 1)))) (tC (.str "0123456789abcdef")))) (tTest (tOp (rInU G.K false) (tOp (rIxU G.K) (tVar 0) (tOp rAddU (tVar 2) (tC (.int 2)))) (tC (.str "0123456789abcdef"))))))) (t_escaped_octets_2 G) (tRet (tC .non))))
noncomputable def t_escaped_octets_4 (G : GG) : TS := tAp G.K (tRet (tVar 1))
noncomputable def t_escaped_octets (G : GG) : TS := tAp G.K (tSeq (tAsg (tLst tNil) (gName 1))
    (tSeq (tAsg (tC (.int 0)) (gName 2))
    (tSeq (tWhile (tTest (tOp rLtU (tVar 2) (tCB (rLenU G.K) (tCons (tVar 0) tNil)))) (t_escaped_octets_3 G))
    (t_escaped_octets_4 G))))
theorem dv_escaped_octets {P : Program} {w : World} {G : GG} {mg : Str → Option Value} {base : Heap} {f : Addr} {cdv : Value} {A : Around} {outer : List Env} {s : Shared} {H : Hp} {E : XK} (T : Top P w G mg base) (hr : Room 0 (A.deeper (envOfC "escaped_octets" (defScope s_escaped_octets) s.heap.objs.size f cdv))) :
    PSs (cxOf CX0 P w G.K mg base N_escaped_octets "escaped_octets" (defScope s_escaped_octets) f cdv A outer s H E).nox (defBody s_escaped_octets) (t_escaped_octets G) :=
  (pssAp (pss_cons (ps_set (i := 1) sc_escaped_octets.nd rfl (Or.inl rfl) (pe_lst pa_nil))
    (pss_cons (ps_set (i := 2) sc_escaped_octets.nd rfl (Or.inl rfl) pe_int)
    (pss_cons (ps_while PassesOwn.never (pt_cmpR u_lt (pv 2) (pe_callB c_len rfl T.n_len bt_len (pa_cons (pv 0) pa_nil)) rfl) (pssAp (pss_one (ps_if (pt_cmpR u_in (pe_ix u_ix (pv 0) (pv 2) (fun _ _ => rfl)) (pe_cst T.c_PLAIN rfl) rfl) (pssAp (pss_cons (ps_expr (pe_append (pv 1) (pa_cons (pe_callB c_ord rfl T.n_ord bt_ord (pa_cons (pe_ix u_ix (pv 0) (pv 2) (fun _ _ => rfl)) pa_nil)) pa_nil)))
    (pss_one (ps_aug (i := 2) sc_escaped_octets.nd rfl (Or.inl rfl) pe_int i_add)))) (pss_one (ps_if (PW.pt (pw_and (pt_cmpR (u_eq hr.units) (pe_ix u_ix (pv 0) (pv 2) (fun _ _ => rfl)) pe_str rfl) (pw_and (pt_cmpR u_lt (pe_op u_add (pv 2) pe_int) (pe_callB c_len rfl T.n_len bt_len (pa_cons (pv 0) pa_nil)) rfl) (pw_and (pt_cmpR u_in (pe_ix u_ix (pv 0) (pe_op u_add (pv 2) pe_int) (fun _ _ => rfl)) (pe_cst T.c_HEXADECIMAL rfl) rfl) (pw_and1 (pt_cmpR u_in (pe_ix u_ix (pv 0) (pe_op u_add (pv 2) pe_int) (fun _ _ => rfl)) (pe_cst T.c_HEXADECIMAL rfl) rfl)))))) (pssAp (pss_cons (ps_expr (pe_append (pv 1) (pa_cons (pe_op u_add (pe_op u_mul (pe_sindex (pe_cst T.c_HEXADECIMAL rfl) (pa_cons (pe_ix u_ix (pv 0) (pe_op u_add (pv 2) pe_int) (fun _ _ => rfl)) pa_nil)) pe_int) (pe_sindex (pe_cst T.c_HEXADECIMAL rfl) (pa_cons (pe_ix u_ix (pv 0) (pe_op u_add (pv 2) pe_int) (fun _ _ => rfl)) pa_nil))) pa_nil)))
    (pss_one (ps_aug (i := 2) sc_escaped_octets.nd rfl (Or.inl rfl) pe_int i_add)))) (pss_one (ps_ret pe_non))))))))
    (pssAp (pss_one (ps_ret (pv 1))))))))
noncomputable def t_unescape_1 (G : GG) : TS := tAp G.K (tRet (tIf (tTest (tOp (rEqU G.K) (tCall (sp_escape G) [] E0 (tCons (tVar 2) tNil)) (tVar 0))) (tVar 2) (tC .non)))
noncomputable def t_unescape_2 (G : GG) : TS := tAp G.K (tSeq (tTryOnly G.K (.ref G.c_InvalidText) (fun a cls d => (tRet (tC .non))) W0 (fun W => (tAsg (tCallW (sp_decode_text G) W (tCons (tVar 1) tNil)) (gName 2))))
    (t_unescape_1 G))
noncomputable def t_unescape (G : GG) : TS := tAp G.K (tSeq (tAsg (tCall (sp_escaped_octets G) [] E0 (tCons (tVar 0) tNil)) (gName 1))
    (tSeq (tIfS (tTest (tOp rIsU (tVar 1) (tC .non))) (tRet (tC .non)) tNext)
    (t_unescape_2 G)))
theorem dv_unescape {P : Program} {w : World} {G : GG} {mg : Str → Option Value} {base : Heap} {f : Addr} {cdv : Value} {A : Around} {outer : List Env} {s : Shared} {H : Hp} {E : XK} (T : Top P w G mg base) (F_decode_text : FnE P w G.K mg base (L2.CX P w) "decode_text" 4 ["octets"] (sp_decode_text G)) (F_escape : FnE P w G.K mg base CX0 "escape" 3 ["text"] (sp_escape G)) (F_escaped_octets : FnE P w G.K mg base CX0 "escaped_octets" 1 ["text"] (sp_escaped_octets G)) (hr : Room 4 (A.deeper (envOfC "unescape" (defScope s_unescape) s.heap.objs.size f cdv))) :
    PSs (cxOf CX0 P w G.K mg base N_unescape "unescape" (defScope s_unescape) f cdv A outer s H E).nox (defBody s_unescape) (t_unescape G) :=
  (pssAp (pss_cons (ps_set (i := 1) sc_unescape.nd rfl (Or.inl rfl) (pe_fn F_escaped_octets (hr.mono (by decide)) rfl pass0 (pa_cons (pv 0) pa_nil)))
    (pss_cons (ps_if (pt_cmpR u_is (pv 1) pe_non rfl) (pss_one (ps_ret pe_non)) pss_nil)
    (pssAp (pss_cons (ps_tryOnly rfl rfl ⟨rfl, by decide, .inl T.cl_InvalidText⟩ takes0 (fun W pn xe tk po => (pss_one (ps_set (i := 2) sc_unescape.nd rfl (Or.inl rfl) (pe_fnW F_decode_text (hr.mono (by decide)) rfl tk (pa_cons (pv 1) pa_nil))))) (fun a oe cls d pn hz hf => (pss_one (ps_ret pe_non))))
    (pssAp (pss_one (ps_ret (pe_ifExp (pt_cmpR (u_eq hr.units) (pe_fn F_escape (hr.mono (by decide)) rfl pass0 (pa_cons (pv 2) pa_nil)) (pv 0) rfl) (pv 2) pe_non)))))))))
noncomputable def t__law_refill_1 (G : GG) : TS := tAp G.K (tRet (tOp rMod (tCB rInt (tCons (tOp rAddU (tOp rMulU (tCB rInt (tCons (tOp rAddU (tOp rAddU (tOp rMulU (tVar 2) (tC (.int 48271))) (tOp rMulU (tVar 1) (tC (.int 69621)))) (tC (.int 12345))) tNil)) (tC (.int 40692))) (tC (.int 7))) tNil)) (tC (.int 2147483399))))
noncomputable def t__law_refill_2 (G : GG) : TS := tAp G.K (tSeq (tIfS (tAnd (tTest (tOp rGeU (tVar 2) (tOp rPow (tC (.int 10)) (tC (.int 18))))) (tTest (tOp rLtU (tVar 1) (tCB (rLenU G.K) (tCons (tVar 0) tNil))))) (tRet (tVar 2)) tNext)
    (t__law_refill_1 G))
noncomputable def t__law_refill_3 (G : GG) : TS := tAp G.K (tSeq (tIfS (tTest (tOp rLtU (tVar 2) (tC (.int 0)))) (tAsg (tOp rSubI (tC (.int 1)) (tOp rMulU (tC (.int 2)) (tVar 2))) (gName 2)) tNext)
    (t__law_refill_2 G))
noncomputable def t__law_refill (G : GG) : TS := tAp G.K (tSeq (tAsg (tC (.int 0)) (gName 2))
    (tSeq (tIfS (tTr G.K (tVar 0)) (tAsg (tOp (rIxU G.K) (tVar 0) (tOp rMod (tVar 1) (tCB (rLenU G.K) (tCons (tVar 0) tNil)))) (gName 2)) tNext)
    (t__law_refill_3 G)))
theorem dv__law_refill {P : Program} {w : World} {G : GG} {mg : Str → Option Value} {base : Heap} {f : Addr} {cdv : Value} {A : Around} {outer : List Env} {s : Shared} {H : Hp} {E : XK} (T : Top P w G mg base) (hr : Room 0 (A.deeper (envOfC "_law_refill" (defScope s__law_refill) s.heap.objs.size f cdv))) :
    PSs (cxOf CX0 P w G.K mg base N__law_refill "_law_refill" (defScope s__law_refill) f cdv A outer s H E).nox (defBody s__law_refill) (t__law_refill G) :=
  (pssAp (pss_cons (ps_set (i := 2) sc__law_refill.nd rfl (Or.inl rfl) pe_int)
    (pss_cons (ps_if (pt_tr (pv 0)) (pss_one (ps_set (i := 2) sc__law_refill.nd rfl (Or.inl rfl) (pe_ix u_ix (pv 0) (pe_op u_mod (pv 1) (pe_callB c_len rfl T.n_len bt_len (pa_cons (pv 0) pa_nil))) (fun _ _ => rfl)))) pss_nil)
    (pssAp (pss_cons (ps_if (pt_cmpR u_lt (pv 2) pe_int rfl) (pss_one (ps_set (i := 2) sc__law_refill.nd rfl (Or.inl rfl) (pe_op u_sub pe_int (pe_op u_mul pe_int (pv 2))))) pss_nil)
    (pssAp (pss_cons (ps_if (PW.pt (pw_and (pt_cmpR u_ge (pv 2) (pe_op u_pow pe_int pe_int) rfl) (pw_and1 (pt_cmpR u_lt (pv 1) (pe_callB c_len rfl T.n_len bt_len (pa_cons (pv 0) pa_nil)) rfl)))) (pss_one (ps_ret (pv 2))) pss_nil)
    (pssAp (pss_one (ps_ret (pe_op u_mod (pe_callTy c_int rfl T.n_int bt_int (pa_cons (pe_op u_add (pe_op u_mul (pe_callTy c_int rfl T.n_int bt_int (pa_cons (pe_op u_add (pe_op u_add (pe_op u_mul (pv 2) pe_int) (pe_op u_mul (pv 1) pe_int)) pe_int) pa_nil)) pe_int) pe_int) pa_nil)) pe_int)))))))))))
noncomputable def t__law_draw_1 (G : GG) : TS := tAp G.K (tSeq (tAsg (tCall (sp__law_refill G) [] E0 (tCons (tVar 1) (tCons (tOp (rIxU G.K) (tVar 0) (tC (.int 0))) tNil))) (gSub (tVar 0) (tC (.int 1)) rSetLU))
    (tAsg (tOp rAddU (tOp (rIxU G.K) (tVar 0) (tC (.int 0))) (tC (.int 1))) (gSub (tVar 0) (tC (.int 0)) rSetLU)))
noncomputable def t__law_draw_2 (G : GG) : TS := tAp G.K (tSeq (tAsg (tOp rMod (tCB rInt (tCons (tOp (rIxU G.K) (tVar 0) (tC (.int 1))) tNil)) (tVar 2)) (gName 3))
    (tSeq (tAsg (tOp rFdiv (tOp (rIxU G.K) (tVar 0) (tC (.int 1))) (tVar 2)) (gSub (tVar 0) (tC (.int 1)) rSetLU))
    (tRet (tVar 3))))
noncomputable def t__law_draw (G : GG) : TS := tAp G.K (tSeq (tIfS (tTest (tOp (rEqU G.K) (tOp (rIxU G.K) (tVar 0) (tC (.int 1))) (tC (.int 0)))) (t__law_draw_1 G) tNext)
    (t__law_draw_2 G))
theorem dv__law_draw {P : Program} {w : World} {G : GG} {mg : Str → Option Value} {base : Heap} {f : Addr} {cdv : Value} {A : Around} {outer : List Env} {s : Shared} {H : Hp} {E : XK} (T : Top P w G mg base) (F__law_refill : FnE P w G.K mg base CX0 "_law_refill" 1 ["script", "k"] (sp__law_refill G)) (hr : Room 1 (A.deeper (envOfC "_law_draw" (defScope s__law_draw) s.heap.objs.size f cdv))) :
    PSs (cxOf CX0 P w G.K mg base N__law_draw "_law_draw" (defScope s__law_draw) f cdv A outer s H E).nox (defBody s__law_draw) (t__law_draw G) :=
  (pssAp (pss_cons (ps_if (pt_cmpR (u_eq hr.units) (pe_ix u_ix (pv 0) pe_int (fun _ _ => rfl)) pe_int rfl) (pssAp (pss_cons (ps_asg (pe_fn F__law_refill (hr.mono (by decide)) rfl pass0 (pa_cons (pv 1) (pa_cons (pe_ix u_ix (pv 0) pe_int (fun _ _ => rfl)) pa_nil))) (pg_sub (pv 0) pe_int set_lstU))
    (pss_one (ps_asg (pe_op u_add (pe_ix u_ix (pv 0) pe_int (fun _ _ => rfl)) pe_int) (pg_sub (pv 0) pe_int set_lstU))))) pss_nil)
    (pssAp (pss_cons (ps_set (i := 3) sc__law_draw.nd rfl (Or.inl rfl) (pe_op u_mod (pe_callTy c_int rfl T.n_int bt_int (pa_cons (pe_ix u_ix (pv 0) pe_int (fun _ _ => rfl)) pa_nil)) (pv 2)))
    (pss_cons (ps_asg (pe_op u_fdiv (pe_ix u_ix (pv 0) pe_int (fun _ _ => rfl)) (pv 2)) (pg_sub (pv 0) pe_int set_lstU))
    (pss_one (ps_ret (pv 3))))))))
noncomputable def t__law_pick (G : GG) : TS := tAp G.K (tSeq (tAsg (tCall (sp__law_draw G) [] E0 (tCons (tVar 0) (tCons (tVar 1) (tCons (tCB (rLenU G.K) (tCons (tVar 2) tNil)) tNil)))) (gName 3))
    (tRet (tSl (rSlU G.K) (tVar 2) (tPart (tVar 3)) (tPart (tOp rAddU (tVar 3) (tC (.int 1)))))))
theorem dv__law_pick {P : Program} {w : World} {G : GG} {mg : Str → Option Value} {base : Heap} {f : Addr} {cdv : Value} {A : Around} {outer : List Env} {s : Shared} {H : Hp} {E : XK} (T : Top P w G mg base) (F__law_draw : FnE P w G.K mg base CX0 "_law_draw" 2 ["state", "script", "size"] (sp__law_draw G)) (hr : Room 2 (A.deeper (envOfC "_law_pick" (defScope s__law_pick) s.heap.objs.size f cdv))) :
    PSs (cxOf CX0 P w G.K mg base N__law_pick "_law_pick" (defScope s__law_pick) f cdv A outer s H E).nox (defBody s__law_pick) (t__law_pick G) :=
  (pssAp (pss_cons (ps_set (i := 3) sc__law_pick.nd rfl (Or.inl rfl) (pe_fn F__law_draw (hr.mono (by decide)) rfl pass0 (pa_cons (pv 0) (pa_cons (pv 1) (pa_cons (pe_callB c_len rfl T.n_len bt_len (pa_cons (pv 2) pa_nil)) pa_nil)))))
    (pss_one (ps_ret (pe_slice u_sl (pv 2) (po_some (pv 3)) (po_some (pe_op u_add (pv 3) pe_int)))))))
noncomputable def t__law_signs (G : GG) : TS := tAp G.K (tRet (tOp rAddU (tOp rAddU (tC (.str " !#$&'()*+,-./0123456789:;<=>?@ABCDEFGHIJKLMNOPQRSTUVWXYZ[]^_`abcdefghijklmnopqrstuvwxyz{|}~")) (tC (.str "\""))) (tC (.str "\\"))))
theorem dv__law_signs {P : Program} {w : World} {G : GG} {mg : Str → Option Value} {base : Heap} {f : Addr} {cdv : Value} {A : Around} {outer : List Env} {s : Shared} {H : Hp} {E : XK} (T : Top P w G mg base) (hr : Room 0 (A.deeper (envOfC "_law_signs" (defScope s__law_signs) s.heap.objs.size f cdv))) :
    PSs (cxOf CX0 P w G.K mg base N__law_signs "_law_signs" (defScope s__law_signs) f cdv A outer s H E).nox (defBody s__law_signs) (t__law_signs G) :=
  (pssAp (pss_one (ps_ret (pe_op u_add (pe_op u_add pe_str pe_str) pe_str))))
noncomputable def t__law_code_1 (G : GG) : TS := tAp G.K (tRet (tCB rOrd (tCons (tVar 0) tNil)))
noncomputable def t__law_code_2 (G : GG) : TS := tAp G.K (tSeq (tIfS (tTest (tOp (rEqU G.K) (tVar 0) (tC (.str "\t")))) (tRet (tC (.int 9))) tNext)
    (t__law_code_1 G))
noncomputable def t__law_code (G : GG) : TS := tAp G.K (tSeq (tIfS (tTest (tOp (rEqU G.K) (tVar 0) (tC (.str "\n")))) (tRet (tC (.int 10))) tNext)
    (t__law_code_2 G))
theorem dv__law_code {P : Program} {w : World} {G : GG} {mg : Str → Option Value} {base : Heap} {f : Addr} {cdv : Value} {A : Around} {outer : List Env} {s : Shared} {H : Hp} {E : XK} (T : Top P w G mg base) (hr : Room 0 (A.deeper (envOfC "_law_code" (defScope s__law_code) s.heap.objs.size f cdv))) :
    PSs (cxOf CX0 P w G.K mg base N__law_code "_law_code" (defScope s__law_code) f cdv A outer s H E).nox (defBody s__law_code) (t__law_code G) :=
  (pssAp (pss_cons (ps_if (pt_cmpR (u_eq hr.units) (pv 0) pe_str rfl) (pss_one (ps_ret pe_int)) pss_nil)
    (pssAp (pss_cons (ps_if (pt_cmpR (u_eq hr.units) (pv 0) pe_str rfl) (pss_one (ps_ret pe_int)) pss_nil)
    (pssAp (pss_one (ps_ret (pe_callB c_ord rfl T.n_ord bt_ord (pa_cons (pv 0) pa_nil)))))))))
noncomputable def t__law_text_1 (G : GG) : TS := tAp G.K (tRet (tMS (rJoin G.K) (tC (.str "")) (tCons (tLcU (iRng1 (tCons (tOp rAddU (tVar 2) (tCall (sp__law_draw G) [] E0 (tCons (tVar 0) (tCons (tVar 1) (tCons (tOp rAddU (tOp rSubI (tVar 3) (tVar 2)) (tC (.int 1))) tNil))))) tNil)) (gName 6) tYes (tCall (sp__law_pick G) [] E0 (tCons (tVar 0) (tCons (tVar 1) (tCons (tVar 4) tNil)))) [6]) tNil)))
noncomputable def t__law_text_2 (G : GG) : TS := tAp G.K (tSeq (tIfS (tTest (tOp (rEqU G.K) (tVar 5) (tC (.int 2)))) (tAsg (tC (.str "a /~?\n")) (gName 4)) tNext)
    (t__law_text_1 G))
noncomputable def t__law_text (G : GG) : TS := tAp G.K (tSeq (tAsg (tOp rAddU (tCall (sp__law_signs G) [] E0 tNil) (tC (.str "\n\t"))) (gName 4))
    (tSeq (tAsg (tCall (sp__law_draw G) [] E0 (tCons (tVar 0) (tCons (tVar 1) (tCons (tC (.int 3)) tNil)))) (gName 5))
    (tSeq (tIfS (tTest (tOp (rEqU G.K) (tVar 5) (tC (.int 1)))) (tAsg (tC (.str "abcXYZ019-_.")) (gName 4)) tNext)
    (t__law_text_2 G))))
theorem dv__law_text {P : Program} {w : World} {G : GG} {mg : Str → Option Value} {base : Heap} {f : Addr} {cdv : Value} {A : Around} {outer : List Env} {s : Shared} {H : Hp} {E : XK} (T : Top P w G mg base) (F__law_draw : FnE P w G.K mg base CX0 "_law_draw" 2 ["state", "script", "size"] (sp__law_draw G)) (F__law_pick : FnE P w G.K mg base CX0 "_law_pick" 3 ["state", "script", "signs"] (sp__law_pick G)) (F__law_signs : FnE P w G.K mg base CX0 "_law_signs" 1 [] (sp__law_signs G)) (hr : Room 3 (A.deeper (envOfC "_law_text" (defScope s__law_text) s.heap.objs.size f cdv))) :
    PSs (cxOf CX0 P w G.K mg base N__law_text "_law_text" (defScope s__law_text) f cdv A outer s H E).nox (defBody s__law_text) (t__law_text G) :=
  (pssAp (pss_cons (ps_set (i := 4) sc__law_text.nd rfl (Or.inr rfl) (pe_op u_add (pe_fn0 F__law_signs (hr.mono (by decide)) rfl pass0) pe_str))
    (pss_cons (ps_set (i := 5) sc__law_text.nd rfl (Or.inl rfl) (pe_fn F__law_draw (hr.mono (by decide)) rfl pass0 (pa_cons (pv 0) (pa_cons (pv 1) (pa_cons pe_int pa_nil)))))
    (pss_cons (ps_if (pt_cmpR (u_eq hr.units) (pv 5) pe_int rfl) (pss_one (ps_set (i := 4) sc__law_text.nd rfl (Or.inr rfl) pe_str)) pss_nil)
    (pssAp (pss_cons (ps_if (pt_cmpR (u_eq hr.units) (pv 5) pe_int rfl) (pss_one (ps_set (i := 4) sc__law_text.nd rfl (Or.inr rfl) pe_str)) pss_nil)
    (pssAp (pss_one (ps_ret (pe_sjoin pe_str (pa_cons (pe_lc (own := [("k", 6)]) (g := (gName 6)) (tt := tYes) rfl sc__law_text.nd (pi_range1 rfl T.n_range (pa_cons (pe_op u_add (pv 2) (pe_fn F__law_draw (hr.mono (by decide)) rfl pass0 (pa_cons (pv 0) (pa_cons (pv 1) (pa_cons (pe_op u_add (pe_op u_sub (pv 3) (pv 2)) pe_int) pa_nil))))) pa_nil)) (blkOk_by (N := N__law_text) (sc := defScope s__law_text) (by decide +kernel)) (fun _ _ _ _ _ => pg_name (i := 6) sc__law_text.nd rfl (Or.inl rfl)) (fun _ _ _ _ _ => pts_nil) (fun _ _ _ _ _ => (pe_fn F__law_pick (hr.mono (by decide)) rfl pass0 (pa_cons (pv 0) (pa_cons (pv 1) (pa_cons (pv 4) pa_nil)))))) pa_nil)))))))))))
noncomputable def t__law_escaped_1 (G : GG) : TS := tAp G.K (tSeq (tAsg (tCall (sp__law_code G) [] E0 (tCons (tVar 2) tNil)) (gName 3))
    (tIfS (tTest (tOp (rInU G.K false) (tVar 2) (tC (.str "abcdefghijklmnopqrstuvwxyzABCDEFGHIJKLMNOPQRSTUVWXYZ0123456789-_.")))) (tAsg (tOp rAddU (tVar 1) (tVar 2)) (gName 1)) (tAsg (tOp rAddU (tOp rAddU (tOp rAddU (tVar 1) (tC (.str "~"))) (tOp (rIxU G.K) (tC (.str "0123456789abcdef")) (tOp rFdiv (tVar 3) (tC (.int 16))))) (tOp (rIxU G.K) (tC (.str "0123456789abcdef")) (tOp rSubI (tVar 3) (tOp rMulU (tOp rFdiv (tVar 3) (tC (.int 16))) (tC (.int 16)))))) (gName 1))))
noncomputable def t__law_escaped_2 (G : GG) : TS := tAp G.K (tRet (tVar 1))
noncomputable def t__law_escaped (G : GG) : TS := tAp G.K (tSeq (tAsg (tC (.str "")) (gName 1))
    (tSeq (tForU (iSt (tVar 0)) (gName 2) (t__law_escaped_1 G))
    (t__law_escaped_2 G)))
theorem dv__law_escaped {P : Program} {w : World} {G : GG} {mg : Str → Option Value} {base : Heap} {f : Addr} {cdv : Value} {A : Around} {outer : List Env} {s : Shared} {H : Hp} {E : XK} (T : Top P w G mg base) (F__law_code : FnE P w G.K mg base CX0 "_law_code" 1 ["sign"] (sp__law_code G)) (hr : Room 1 (A.deeper (envOfC "_law_escaped" (defScope s__law_escaped) s.heap.objs.size f cdv))) :
    PSs (cxOf CX0 P w G.K mg base N__law_escaped "_law_escaped" (defScope s__law_escaped) f cdv A outer s H E).nox (defBody s__law_escaped) (t__law_escaped G) :=
  (pssAp (pss_cons (ps_set (i := 1) sc__law_escaped.nd rfl (Or.inl rfl) pe_str)
    (pss_cons (ps_for PassesOwn.never rfl (pi_st (pv 0)) (pg_name (i := 2) sc__law_escaped.nd rfl (Or.inl rfl)) (pssAp (pss_cons (ps_set (i := 3) sc__law_escaped.nd rfl (Or.inl rfl) (pe_fn F__law_code (hr.mono (by decide)) rfl pass0 (pa_cons (pv 2) pa_nil)))
    (pss_one (ps_if (pt_cmpR u_in (pv 2) pe_str rfl) (pss_one (ps_set (i := 1) sc__law_escaped.nd rfl (Or.inl rfl) (pe_op u_add (pv 1) (pv 2)))) (pss_one (ps_set (i := 1) sc__law_escaped.nd rfl (Or.inl rfl) (pe_op u_add (pe_op u_add (pe_op u_add (pv 1) pe_str) (pe_ix u_ix pe_str (pe_op u_fdiv (pv 3) pe_int) (fun _ _ => rfl))) (pe_ix u_ix pe_str (pe_op u_sub (pv 3) (pe_op u_mul (pe_op u_fdiv (pv 3) pe_int) pe_int)) (fun _ _ => rfl))))))))))
    (pssAp (pss_one (ps_ret (pv 1)))))))
noncomputable def t__law_read_1 (G : GG) : TS := tAp G.K (tSeq (tAsg (tOp rAddU (tVar 1) (tOp (rIxU G.K) (tVar 0) (tVar 2))) (gName 1))
    (tAsg (tOp rAddU (tVar 2) (tC (.int 1))) (gName 2)))
noncomputable def t__law_read_2 (G : GG) : TS := tAp G.K (tSeq (tAsg (tOp rAddU (tVar 1) (tOp (rIxU G.K) (tVar 4) (tC (.int 0)))) (gName 1))
    (tAsg (tOp rAddU (tVar 2) (tC (.int 3))) (gName 2)))
noncomputable def t__law_read_3 (G : GG) : TS := tAp G.K (tSeq (tAsg (tLcU (iSt (tOp rAddU (tCall (sp__law_signs G) [] E0 tNil) (tC (.str "\n\t")))) (gName 5) (tTest (tOp (rEqU G.K) (tCall (sp__law_escaped G) [] E0 (tCons (tVar 5) tNil)) (tSl (rSlU G.K) (tVar 0) (tPart (tVar 2)) (tPart (tOp rAddU (tVar 2) (tC (.int 3))))))) (tVar 5) [5]) (gName 4))
    (tSeq (tIfS (tNot (tTr G.K (tVar 4))) (tRet (tC .non)) tNext)
    (t__law_read_2 G)))
noncomputable def t__law_read_4 (G : GG) : TS := tAp G.K (tIfS (tTest (tOp rLtU (tVar 2) (tCB (rLenU G.K) (tCons (tVar 0) tNil)))) (tIfS (tTest (tOp (rNeU G.K) (tOp (rIxU G.K) (tVar 0) (tVar 2)) (tC (.str "~")))) (t__law_read_1 G) (t__law_read_3 G)) tNext)
noncomputable def t__law_read_5 (G : GG) : TS := tAp G.K (tRet (tVar 1))
noncomputable def t__law_read_6 (G : GG) : TS := tAp G.K (tSeq (tIfS (tTest (tOp (rNeU G.K) (tCall (sp__law_escaped G) [] E0 (tCons (tVar 1) tNil)) (tVar 0))) (tRet (tC .non)) tNext)
    (t__law_read_5 G))
noncomputable def t__law_read (G : GG) : TS := tAp G.K (tSeq (tAsg (tC (.str "")) (gName 1))
    (tSeq (tAsg (tC (.int 0)) (gName 2))
    (tSeq (tForU (iRng1 (tCons (tCB (rLenU G.K) (tCons (tVar 0) tNil)) tNil)) (gName 3) (t__law_read_4 G))
    (t__law_read_6 G))))
theorem dv__law_read {P : Program} {w : World} {G : GG} {mg : Str → Option Value} {base : Heap} {f : Addr} {cdv : Value} {A : Around} {outer : List Env} {s : Shared} {H : Hp} {E : XK} (T : Top P w G mg base) (F__law_escaped : FnE P w G.K mg base CX0 "_law_escaped" 2 ["text"] (sp__law_escaped G)) (F__law_signs : FnE P w G.K mg base CX0 "_law_signs" 1 [] (sp__law_signs G)) (hr : Room 2 (A.deeper (envOfC "_law_read" (defScope s__law_read) s.heap.objs.size f cdv))) :
    PSs (cxOf CX0 P w G.K mg base N__law_read "_law_read" (defScope s__law_read) f cdv A outer s H E).nox (defBody s__law_read) (t__law_read G) :=
  (pssAp (pss_cons (ps_set (i := 1) sc__law_read.nd rfl (Or.inl rfl) pe_str)
    (pss_cons (ps_set (i := 2) sc__law_read.nd rfl (Or.inr rfl) pe_int)
    (pss_cons (ps_for PassesOwn.never rfl (pi_range1 rfl T.n_range (pa_cons (pe_callB c_len rfl T.n_len bt_len (pa_cons (pv 0) pa_nil)) pa_nil)) (pg_name (i := 3) sc__law_read.nd rfl (Or.inl rfl)) (pssAp (pss_one (ps_if (pt_cmpR u_lt (pv 2) (pe_callB c_len rfl T.n_len bt_len (pa_cons (pv 0) pa_nil)) rfl) (pss_one (ps_if (pt_cmpR (u_ne hr.units) (pe_ix u_ix (pv 0) (pv 2) (fun _ _ => rfl)) pe_str rfl) (pssAp (pss_cons (ps_set (i := 1) sc__law_read.nd rfl (Or.inl rfl) (pe_op u_add (pv 1) (pe_ix u_ix (pv 0) (pv 2) (fun _ _ => rfl))))
    (pss_one (ps_set (i := 2) sc__law_read.nd rfl (Or.inr rfl) (pe_op u_add (pv 2) pe_int))))) (pssAp (pss_cons (ps_setLc (i := 4) (own := [("sign", 5)]) (g := (gName 5)) (tt := (tTest (tOp (rEqU G.K) (tCall (sp__law_escaped G) [] E0 (tCons (tVar 5) tNil)) (tSl (rSlU G.K) (tVar 0) (tPart (tVar 2)) (tPart (tOp rAddU (tVar 2) (tC (.int 3)))))))) rfl sc__law_read.nd rfl rfl (sw_true rfl rfl rfl (by decide +kernel)) (pi_st (pe_op u_add (pe_fn0 F__law_signs (hr.mono (by decide)) rfl pass0) pe_str)) (blkOk_by (N := N__law_read) (sc := defScope s__law_read) (by decide +kernel)) (fun _ _ _ _ _ => pg_name (i := 5) sc__law_read.nd rfl (Or.inl rfl)) (fun _ _ _ _ _ => pts_one (pt_cmpR (u_eq hr.units) (pe_fn F__law_escaped (hr.mono (by decide)) rfl pass0 (pa_cons (pv 5) pa_nil)) (pe_slice u_sl (pv 0) (po_some (pv 2)) (po_some (pe_op u_add (pv 2) pe_int))) rfl)) (fun _ _ _ _ _ => (pv 5)))
    (pss_cons (ps_if (pt_not (pt_tr (pv 4))) (pss_one (ps_ret pe_non)) pss_nil)
    (pssAp (pss_cons (ps_set (i := 1) sc__law_read.nd rfl (Or.inl rfl) (pe_op u_add (pv 1) (pe_ix u_ix (pv 4) pe_int (fun _ _ => rfl))))
    (pss_one (ps_set (i := 2) sc__law_read.nd rfl (Or.inr rfl) (pe_op u_add (pv 2) pe_int)))))))))) pss_nil))))
    (pssAp (pss_cons (ps_if (pt_cmpR (u_ne hr.units) (pe_fn F__law_escaped (hr.mono (by decide)) rfl pass0 (pa_cons (pv 1) pa_nil)) (pv 0) rfl) (pss_one (ps_ret pe_non)) pss_nil)
    (pssAp (pss_one (ps_ret (pv 1))))))))))
noncomputable def t_law_1 (G : GG) : TS := tAp G.K (tAsg (tOp rAddU (tVar 4) (tOp (rIxU G.K) (tLst (tCons (tC (.str "~20")) (tCons (tC (.str "~2F")) (tCons (tC (.str "~2f")) (tCons (tC (.str "~")) (tCons (tC (.str "a")) (tCons (tC (.str "0")) (tCons (tC (.str "~41")) (tCons (tC (.str "~0a")) (tCons (tC (.str "~25")) (tCons (tC (.str "~7f")) (tCons (tC (.str "~ff")) (tCons (tC (.str "/")) (tCons (tC (.str " ")) (tCons (tC (.str "~7e")) (tCons (tC (.str "_")) (tCons (tC (.str "~80")) tNil))))))))))))))))) (tCall (sp__law_draw G) [] E0 (tCons (tVar 1) (tCons (tVar 0) (tCons (tC (.int 16)) tNil)))))) (gName 4))
noncomputable def t_law_2 (G : GG) : TS := tAp G.K (tIfS (tTest (tOp (rNeU G.K) (tCall (sp_unescape G) [] E0 (tCons (tVar 6) tNil)) (tCall (sp__law_read G) [] E0 (tCons (tVar 6) tNil)))) (tRet (tC (.bl false))) tNext)
noncomputable def t_law_3 (G : GG) : TS := tAp G.K (tRet (tOp (rEqU G.K) (tCall (sp_unescape G) [] E0 (tCons (tC (.str "")) tNil)) (tC (.str ""))))
noncomputable def t_law_4 (G : GG) : TS := tAp G.K (tSeq (tForU (iLst G.K (tLst (tCons (tVar 4) (tCons (tSl (rSlU G.K) (tVar 3) tNoPart (tPart (tUn (mU fun i => .int (-i)) (tC (.int 1))))) (tCons (tVar 2) tNil))))) (gName 6) (t_law_2 G))
    (t_law_3 G))
noncomputable def t_law_5 (G : GG) : TS := tAp G.K (tSeq (tAsg (tC (.str "")) (gName 4))
    (tSeq (tForU (iRng1 (tCons (tCall (sp__law_draw G) [] E0 (tCons (tVar 1) (tCons (tVar 0) (tCons (tC (.int 13)) tNil)))) tNil)) (gName 5) (t_law_1 G))
    (t_law_4 G)))
noncomputable def t_law (G : GG) : TS := tAp G.K (tSeq (tAsg (tLst (tCons (tC (.int 0)) (tCons (tC (.int 0)) tNil))) (gName 1))
    (tSeq (tAsg (tCall (sp__law_text G) [] E0 (tCons (tVar 1) (tCons (tVar 0) (tCons (tC (.int 0)) (tCons (tC (.int 60)) tNil))))) (gName 2))
    (tSeq (tAsg (tCall (sp_escape G) [] E0 (tCons (tVar 2) tNil)) (gName 3))
    (tSeq (tIfS (tOr (tTest (tOp (rNeU G.K) (tVar 3) (tCall (sp__law_escaped G) [] E0 (tCons (tVar 2) tNil)))) (tTest (tOp (rNeU G.K) (tCall (sp_unescape G) [] E0 (tCons (tVar 3) tNil)) (tVar 2)))) (tRet (tC (.bl false))) tNext)
    (t_law_5 G)))))
theorem dv_law {P : Program} {w : World} {G : GG} {mg : Str → Option Value} {base : Heap} {f : Addr} {cdv : Value} {A : Around} {outer : List Env} {s : Shared} {H : Hp} {E : XK} (T : Top P w G mg base) (F__law_draw : FnE P w G.K mg base CX0 "_law_draw" 2 ["state", "script", "size"] (sp__law_draw G)) (F__law_escaped : FnE P w G.K mg base CX0 "_law_escaped" 2 ["text"] (sp__law_escaped G)) (F__law_read : FnE P w G.K mg base CX0 "_law_read" 3 ["text"] (sp__law_read G)) (F__law_text : FnE P w G.K mg base CX0 "_law_text" 4 ["state", "script", "least", "most"] (sp__law_text G)) (F_escape : FnE P w G.K mg base CX0 "escape" 3 ["text"] (sp_escape G)) (F_unescape : FnE P w G.K mg base CX0 "unescape" 5 ["text"] (sp_unescape G)) (hr : Room 5 (A.deeper (envOfC "law" (defScope s_law) s.heap.objs.size f cdv))) :
    PSs (cxOf CX0 P w G.K mg base N_law "law" (defScope s_law) f cdv A outer s H E).nox (defBody s_law) (t_law G) :=
  (pssAp (pss_cons (ps_set (i := 1) sc_law.nd rfl (Or.inl rfl) (pe_lst (pa_cons pe_int (pa_cons pe_int pa_nil))))
    (pss_cons (ps_set (i := 2) sc_law.nd rfl (Or.inl rfl) (pe_fn F__law_text (hr.mono (by decide)) rfl pass0 (pa_cons (pv 1) (pa_cons (pv 0) (pa_cons pe_int (pa_cons pe_int pa_nil))))))
    (pss_cons (ps_set (i := 3) sc_law.nd rfl (Or.inl rfl) (pe_fn F_escape (hr.mono (by decide)) rfl pass0 (pa_cons (pv 2) pa_nil)))
    (pss_cons (ps_if (PW.pt (pw_or (pt_cmpR (u_ne hr.units) (pv 3) (pe_fn F__law_escaped (hr.mono (by decide)) rfl pass0 (pa_cons (pv 2) pa_nil)) rfl) (pw_or1 (pt_cmpR (u_ne hr.units) (pe_fn F_unescape (hr.mono (by decide)) rfl pass0 (pa_cons (pv 3) pa_nil)) (pv 2) rfl)))) (pss_one (ps_ret pe_bl)) pss_nil)
    (pssAp (pss_cons (ps_set (i := 4) sc_law.nd rfl (Or.inl rfl) pe_str)
    (pss_cons (ps_for PassesOwn.never rfl (pi_range1 rfl T.n_range (pa_cons (pe_fn F__law_draw (hr.mono (by decide)) rfl pass0 (pa_cons (pv 1) (pa_cons (pv 0) (pa_cons pe_int pa_nil)))) pa_nil)) (pg_name (i := 5) sc_law.nd rfl (Or.inl rfl)) (pssAp (pss_one (ps_set (i := 4) sc_law.nd rfl (Or.inl rfl) (pe_op u_add (pv 4) (pe_ix u_ix (pe_lst (pa_cons pe_str (pa_cons pe_str (pa_cons pe_str (pa_cons pe_str (pa_cons pe_str (pa_cons pe_str (pa_cons pe_str (pa_cons pe_str (pa_cons pe_str (pa_cons pe_str (pa_cons pe_str (pa_cons pe_str (pa_cons pe_str (pa_cons pe_str (pa_cons pe_str (pa_cons pe_str pa_nil))))))))))))))))) (pe_fn F__law_draw (hr.mono (by decide)) rfl pass0 (pa_cons (pv 1) (pa_cons (pv 0) (pa_cons pe_int pa_nil)))) (fun _ _ => rfl)))))))
    (pssAp (pss_cons (ps_for PassesOwn.never rfl (pi_lst (pe_lst (pa_cons (pv 4) (pa_cons (pe_slice u_sl (pv 3) po_none (po_some (pe_un u_neg pe_int))) (pa_cons (pv 2) pa_nil))))) (pg_name (i := 6) sc_law.nd rfl (Or.inl rfl)) (pssAp (pss_one (ps_if (pt_cmpR (u_ne hr.units) (pe_fn F_unescape (hr.mono (by decide)) rfl pass0 (pa_cons (pv 6) pa_nil)) (pe_fn F__law_read (hr.mono (by decide)) rfl pass0 (pa_cons (pv 6) pa_nil)) rfl) (pss_one (ps_ret pe_bl)) pss_nil))))
    (pssAp (pss_one (ps_ret (pe_cmpR (u_eq hr.units) (pe_fn F_unescape (hr.mono (by decide)) rfl pass0 (pa_cons pe_str pa_nil)) pe_str rfl))))))))))))))
end My

namespace My
open PySem PySem.Spec PyProof.Rows L2 R
local macro_rules | `(tactic| walk_at "rs") => `(tactic| ((try simp only [tSeq, tAp_e, tAsg, gName, tv0, tvs, tC, tOp, tUn, tTest, tAnd, tOr, tNot, tIf, tIfS, tRet, tRetN, tNext, tDrop, tCB, tCons, tNil, tAug_e, tCall, tAndV, tOrV, tChain, tTr, tNotU, tML, tMS, tForU, iLst, iTp, iSt, iRng1, iRng2, tLcU, tLst_e, tTup_e, tSl, tPart_e, tNoPart, tYes, tBreak, tCont, tRs_e, tCallW_e, tMkF, gSub_e, rIs_e, rIsN_e, decide_true, decide_false, rOrd_str, rSidx_str,   rSub_int, rFdiv_int, rMod_int, rShl_int, rShr_int, rXor_int, rAndB_int, rOrB_int, rPow_int, rAddU_int, rAddU_str, rMul_int, rIadd_int, rIadd_str, rLt_int, rLe_int, rGt_int, rGe_int, rEqU_int, rNeU_int, rEqU_str, rNeU_str, rEqU_bl, rNeU_bl, rInt_int, rAbs_int, rMax2_int, rMin2_int, mU_int, truV_bl, truV_int, truV_non, exBl, exInt, exInt2, exIntV, rLen_str, rIx_str, rSl_str, rInU_str,    List.set_cons_zero, List.set_cons_succ, List.append_nil, List.nil_append, List.cons_append, List.length_cons, List.length_nil, if_true, if_false, ite_true, ite_false, Bool.false_eq_true, decide_eq_true_eq, Bool.not_true, Bool.not_false, Bool.not_eq_true, Bool.not_eq_false, exists_eq_left', exists_eq_left, V.bl.injEq, V.int.injEq, V.str.injEq, V.ref.injEq, reduceCtorEq, and_true, true_and, ↓reduceIte]); (try with_reducible intro (ap : R.Apart _ _))))
local macro_rules | `(tactic| walk_at "rh") => `(tactic| ((try simp only [tSeq, tAp_e, tAsg, gName, tv0, tvs, tC, tOp, tUn, tTest, tAnd, tOr, tNot, tIf, tIfS, tRet, tRetN, tNext, tDrop, tCB, tCons, tNil, tAug_e, tCall, tAndV, tOrV, tChain, tTr, tNotU, tML, tMS, tForU, iLst, iTp, iSt, iRng1, iRng2, tLcU, tLst_e, tTup_e, tSl, tPart_e, tNoPart, tYes, tBreak, tCont, tRs_e, tCallW_e, tMkF, gSub_e, rIs_e, rIsN_e, decide_true, decide_false, rOrd_str, rSidx_str,   rSub_int, rFdiv_int, rMod_int, rShl_int, rShr_int, rXor_int, rAndB_int, rOrB_int, rPow_int, rAddU_int, rAddU_str, rMul_int, rIadd_int, rIadd_str, rLt_int, rLe_int, rGt_int, rGe_int, rEqU_int, rNeU_int, rEqU_str, rNeU_str, rEqU_bl, rNeU_bl, rInt_int, rAbs_int, rMax2_int, rMin2_int, mU_int, truV_bl, truV_int, truV_non, exBl, exInt, exInt2, exIntV, rLen_str, rIx_str, rSl_str, rInU_str,    List.set_cons_zero, List.set_cons_succ, List.append_nil, List.nil_append, List.cons_append, List.length_cons, List.length_nil, if_true, if_false, ite_true, ite_false, Bool.false_eq_true, decide_eq_true_eq, Bool.not_true, Bool.not_false, Bool.not_eq_true, Bool.not_eq_false, exists_eq_left', exists_eq_left, V.bl.injEq, V.int.injEq, V.str.injEq, V.ref.injEq, reduceCtorEq, and_true, true_and, ↓reduceIte]); (try with_reducible intro (ap : R.Apart _ _)); (try simp only [tSeq, tAp_e, tAsg, gName, tv0, tvs, tC, tOp, tUn, tTest, tAnd, tOr, tNot, tIf, tIfS, tRet, tRetN, tNext, tDrop, tCB, tCons, tNil, tAug_e, tCall, tAndV, tOrV, tChain, tTr, tNotU, tML, tMS, tForU, iLst, iTp, iSt, iRng1, iRng2, tLcU, tLst_e, tTup_e, tSl, tPart_e, tNoPart, tYes, tBreak, tCont, tRs_e, tCallW_e, tMkF, gSub_e, rIs_e, rIsN_e, decide_true, decide_false, rOrd_str, rSidx_str,   rSub_int, rFdiv_int, rMod_int, rShl_int, rShr_int, rXor_int, rAndB_int, rOrB_int, rPow_int, rAddU_int, rAddU_str, rMul_int, rIadd_int, rIadd_str, rLt_int, rLe_int, rGt_int, rGe_int, rEqU_int, rNeU_int, rEqU_str, rNeU_str, rEqU_bl, rNeU_bl, rInt_int, rAbs_int, rMax2_int, rMin2_int, mU_int, truV_bl, truV_int, truV_non, exBl, exInt, exInt2, exIntV, rLen_str, rIx_str, rSl_str, rInU_str,    List.set_cons_zero, List.set_cons_succ, List.append_nil, List.nil_append, List.cons_append, List.length_cons, List.length_nil, if_true, if_false, ite_true, ite_false, Bool.false_eq_true, decide_eq_true_eq, Bool.not_true, Bool.not_false, Bool.not_eq_true, Bool.not_eq_false, exists_eq_left', exists_eq_left, V.bl.injEq, V.int.injEq, V.str.injEq, V.ref.injEq, reduceCtorEq, and_true, true_and, ↓reduceIte, sqv_e, rLenU_ref, rListOf_ref, rIxU_ref, rSlU_ref, rApp_ref, rAddU_ref, truV_ref, rInU_ref, rMulU_ref, true_implies, forall_const, *])))

open N62
theorem strS (l : List Nat) : (V.str (S l)) = V.str (S l) := rfl
theorem szS {l : List Nat} (h : l.length ≤ 10000000) : (S l).length ≤ sizeLine := by rw [S_len]; exact sz _ h
theorem s_n : (Str.ofString "\n") = S [10] := by decide +kernel
theorem s_t : (Str.ofString "\t") = S [9] := by decide +kernel
theorem s_e : (Str.ofString "") = S [] := by decide +kernel
theorem s_tl : (Str.ofString "~") = S [126] := by decide +kernel
section
variable {P : Program} {w : World} {G : GG} {mg : Str → Option Value} {base : Heap} (T : Top P w G mg base) {vs : List V} {H : Hp} {Q : VK} {E : XK}
include T
theorem rd_char_of (h : sp_char_of G vs H Q E) : t_char_of G {nx := fun _ H' => Q .non H', rt := Q} (start N_char_of vs) H := by
  obtain ⟨c, rfl, hc, hq⟩ := h
  show t_char_of G _ [some (.int c)] H
  have t3 : ¬((32 ≤ c ∧ c < 37) ∨ (38 ≤ c ∧ c < 127)) → t_char_of_3 G {nx := fun _ H' => Q .non H', rt := Q} [some (.int c)] H := by
    intro h1
    unfold t_char_of_3 t_char_of_2 t_char_of_1
    walk_at "rs"
    have hok : okc c = (c == 10 || c == 9) := by
      unfold okc
      rcases Nat.lt_or_ge c 32 with h | h
      · simp [show ¬ 32 ≤ c by omega, Bool.or_comm]
      · have : (decide (32 ≤ c) && decide (c ≤ 126) && c != 37) = false := by
          by_cases h3 : c ≤ 126
          · have : c = 37 := by omega
            subst this; decide
          · simp [h3]
        rw [this]; simp [Bool.or_comm]
    rw [hok] at hq
    split
    · have : c = 10 := by omega
      subst this
      rw [s_n]
      exact hq
    · intro _
      split
      · have : c = 9 := by omega
        subst this
        rw [s_t]
        exact hq
      · have h1 : (c == 10) = false := by simp; omega
        have h2 : (c == 9) = false := by simp; omega
        rw [h1, h2] at hq
        intro _
        exact hq
  have t4 : ¬(32 ≤ c ∧ c < 37) → t_char_of_4 G {nx := fun _ H' => Q .non H', rt := Q} [some (.int c)] H := by
    intro h1
    unfold t_char_of_4
    walk_at "rs"
    simp only [l_bh]
    split
    · refine ⟨sz 89 (by decide), ?_⟩
      split
      · refine ⟨sz 89 (by decide), ?_⟩
        have ho : okc c = true := by unfold okc; simp; omega
        rw [show (c : Int) - 38 = ((c - 38 : Nat) : Int) by omega, f_cbh (c - 38) (by omega)]
        simp only [S_one, show c - 38 + 38 = c by omega]
        rw [if_pos ho] at hq
        exact hq
      · exact t3 (by omega)
    · exact t3 (by omega)
  unfold t_char_of
  walk_at "rs"
  simp only [l_bf]
  split
  · refine ⟨sz 5 (by decide), ?_⟩
    split
    · refine ⟨sz 5 (by decide), ?_⟩
      have ho : okc c = true := by unfold okc; simp; omega
      rw [show (c : Int) - 32 = ((c - 32 : Nat) : Int) by omega, f_cbf (c - 32) (by omega)]
      simp only [S_one, show c - 32 + 32 = c by omega]
      rw [if_pos ho] at hq
      exact hq
    · exact t4 (by omega)
  · exact t4 (by omega)
theorem rd_code_of (h : sp_code_of G vs H Q E) : t_code_of G {nx := fun _ H' => Q .non H', rt := Q} (start N_code_of vs) H := by
  obtain ⟨c, rfl, ho, hq⟩ := h
  have hlt := okc_lt ho
  show t_code_of G _ [some (.str (S [c]))] H
  unfold t_code_of
  walk_at "rs"
  simp only [s_n, S_inj, List.cons.injEq, and_true]
  split
  · rename_i e; subst e; exact hq
  · unfold t_code_of_3
    walk_at "rs"
    simp only [s_t, S_inj, List.cons.injEq, and_true]
    split
    · rename_i e; subst e; exact hq
    · rename_i n10 n9
      have h2 : 32 ≤ c ∧ c ≤ 126 ∧ c ≠ 37 := by
        unfold okc at ho
        simp at ho
        omega
      unfold t_code_of_2
      walk_at "rs"
      simp only [f_bf2 c hlt h2.1]
      split
      · rename_i h3
        have h3 : c < 37 := by simpa using h3
        rw [← S_one, f_bf c h3 h2.1]
        walk_at "rs"
        rw [show (32 : Int) + ((c - 32 : Nat) : Int) = c by omega]
        exact hq
      · rename_i h3
        have h3 : ¬ c < 37 := by simpa using h3
        unfold t_code_of_1
        walk_at "rs"
        have hb := f_bh c hlt (by omega)
        rw [← S_one]
        cases e : Builtin.Str.occurrences BH ⟨#[c]⟩ 0 BH.length 1 with
        | nil => rw [e] at hb; cases hb
        | cons i r =>
          rw [e] at hb
          cases hb
          walk_at "rs"
          rw [show (38 : Int) + ((c - 38 : Nat) : Int) = c by omega]
          exact hq
theorem rd__law_code (h : sp__law_code G vs H Q E) : t__law_code G {nx := fun _ H' => Q .non H', rt := Q} (start N__law_code vs) H := by
  obtain ⟨c, rfl, hq⟩ := h
  show t__law_code G _ [some (.str (S [c]))] H
  unfold t__law_code
  walk_at "rs"
  simp only [s_n, S_inj, List.cons.injEq, and_true]
  split
  · rename_i e; subst e; exact hq
  · unfold t__law_code_2
    walk_at "rs"
    simp only [s_t, S_inj, List.cons.injEq, and_true]
    split
    · rename_i e; subst e; exact hq
    · unfold t__law_code_1
      walk_at "rs"
      exact ⟨rfl, hq⟩
theorem rd__law_signs (h : sp__law_signs G vs H Q E) : t__law_signs G {nx := fun _ H' => Q .non H', rt := Q} (start N__law_signs vs) H := by
  obtain ⟨rfl, hq⟩ := h
  show t__law_signs G _ [] H
  unfold t__law_signs
  walk_at "rs"
  have e : (Str.ofString " !#$&'()*+,-./0123456789:;<=>?@ABCDEFGHIJKLMNOPQRSTUVWXYZ[]^_`abcdefghijklmnopqrstuvwxyz{|}~" ++ Str.ofString "\"" ++ Str.ofString "\\") = S SG0 := by decide +kernel
  rw [e]
  refine ⟨sz _ (by decide +kernel), sz _ (by decide +kernel), hq⟩
theorem rd_encode_text (h : sp_encode_text G vs H Q E) : t_encode_text G {nx := fun _ H' => Q .non H', rt := Q} (start N_encode_text vs) H := by
  obtain ⟨l, rfl, ho, hz, hq⟩ := h
  show t_encode_text G _ [some (.str (S l)), none] H
  unfold t_encode_text
  walk_at "rs"
  refine lcS (l := l) rfl (fun c => some (.int c)) (by omega) ?_ ?_
  · intro c hc H' s1 Qy Qn hy hn
    show gName 1 _ _ _ _
    simp only [wipe, List.foldl, List.set_cons_zero, List.set_cons_succ]
    walk_at "rs"
    refine ⟨c, rfl, ho c hc, ?_⟩
    exact hy _ rfl _ (Same.refl _)
  · intro p H' hp s1 e1
    refine hq p H' s1 ?_
    rw [e1, List.filterMap_eq_map']
    rfl
theorem rd_decode_text (h : sp_decode_text G vs H Q E) : t_decode_text G (fun cls d _ H' => E cls d H') {nx := fun _ H' => Q .non H', rt := Q} (start N_decode_text vs) H := by
  obtain ⟨a, ns, rfl, hl, hlt, hz, hq, he⟩ := h
  show t_decode_text G _ _ [some (.ref a), none, none, none] H
  unfold t_decode_text
  walk_at "rs"
  refine ⟨sz 0 (by decide), nw fun l H1 hl1 s1 e1 => ?_⟩
  have la1 : lstv G.K H1 a = some (octs ns) := lstv_of (s1 _ _ hl)
  simp only [rLen_lst la1, octs_len]
  refine ⟨_, rfl, by omega, by omega, ?_⟩
  refine goesR (n := ns.length) (fun i σ H' => Same H H' ∧ H' l = some (.lst ((ns.take i).map fun c => V.str (S [c]))) ∧ (ns.take i).all okc = true ∧ ∃ v w, σ = [some (.ref a), some (.ref l), v, w]) ⟨s1, e1, rfl, _, _, rfl⟩ ?_ ?_
  · rintro i σ H' hi ⟨s2, e2, hok, v, w, rfl⟩
    have la2 : lstv G.K H' a = some (octs ns) := lstv_of (s2 _ _ hl)
    obtain ⟨c, hc, ic⟩ := oat (ns := ns) (j := 0 + (i : Int)) (by omega) (by omega)
    rw [show (0 + (i : Int)).toNat = i by omega] at hc
    unfold t_decode_text_2
    walk_at "rs"
    simp only [rIx_lst la2, ic]
    refine ⟨c, rfl, hlt c (List.mem_of_getElem? hc), ?_⟩
    by_cases ho : okc c = true
    · rw [if_pos ho]
      walk_at "rs"
      unfold t_decode_text_1
      walk_at "rs"
      have l2 : lstv G.K H' l = some ((ns.take i).map fun c => V.str (S [c])) := lstv_of e2
      simp only [l2, rApp_lst e2]
      refine ⟨szl _ (by rw [List.length_map, List.length_take]; omega), Same.upd s2 hl1, ?_, ?_, _, _, rfl⟩
      · rw [upd_same, take_snoc hc, List.map_append]; rfl
      · rw [take_snoc hc, List.all_append, hok]; simp [ho]
    · rw [if_neg ho]
      walk_at "rs"
      intro d H3 hd s3 e3
      refine he ?_ d H3 _ (s2.trans s3) e3
      rw [Bool.eq_false_iff]
      intro hall
      exact ho (List.all_eq_true.mp hall c (List.mem_of_getElem? hc))
  · rintro σ H' ⟨s2, e2, hok, v, w, rfl⟩
    unfold t_decode_text_3
    rw [List.take_length] at hok e2
    walk_at "rs"
    have l2 : lstv G.K H' l = some ((ns.map fun c => S [c]).map V.str) := by rw [List.map_map]; exact lstv_of e2
    refine rJoin_lst l2 ?_ ?_
    · rw [s_e, S_len, List.map_map, List.length_map]
      have : ∀ l : List Nat, (l.map ((fun x : Str => x.length) ∘ fun c => S [c])).sum = l.length := by
        intro l
        induction l with
        | nil => rfl
        | cons c l ih => simp only [List.map_cons, List.sum_cons, ih, List.length_cons]; simp [S_len]; omega
      rw [this]
      simp
      omega
    · rw [s_e, join_S]
      exact hq hok H' s2
theorem rd__law_escaped (h : sp__law_escaped G vs H Q E) : t__law_escaped G {nx := fun _ H' => Q .non H', rt := Q} (start N__law_escaped vs) H := by
  obtain ⟨l, rfl, ho, hz, hq⟩ := h
  show t__law_escaped G _ [some (.str (S l)), none, none, none] H
  unfold t__law_escaped
  walk_at "rs"
  refine goesS (l := l) rfl (fun i σ H' => H' = H ∧ ∃ v w, σ = [some (.str (S l)), some (.str (S (esc (l.take i)))), v, w]) ⟨rfl, _, _, rfl⟩ ?_ ?_
  · rintro i c σ H' hi ⟨rfl, v, w, rfl⟩
    have hc := ho c (List.mem_of_getElem? hi)
    have hlt := okc_lt hc
    have hil : i < l.length := (List.getElem?_eq_some_iff.mp hi).1
    have hlen : (esc (l.take i)).length ≤ 1500 := by
      have := esc_len (l.take i)
      rw [List.length_take] at this
      omega
    have e1 : esc (l.take (i + 1)) = esc (l.take i) ++ esc1 c := by rw [take_snoc hi]; simp [esc]
    rw [e1]
    unfold t__law_escaped_1
    walk_at "rs"
    refine ⟨c, rfl, ?_⟩
    walk_at "rs"
    simp only [S_one, f_pl]
    have hd : (c : Int) / 16 = ((c / 16 : Nat) : Int) := by omega
    have hm : (c : Int) - (c : Int) / 16 * 16 = ((c % 16 : Nat) : Int) := by omega
    split
    · rename_i hp
      rw [show esc1 c = [c] by unfold esc1; rw [if_pos hp]]
      refine ⟨sz _ (by rw [S_len, S_len]; simp; omega), some (.str (S [c])), some (.int c), ?_⟩
      rw [S_app]
    · rename_i hp
      rw [show esc1 c = [126, hx (c / 16), hx (c % 16)] by unfold esc1; rw [if_neg hp]]
      rw [hm, hd, f_hx (c / 16) (by omega)]
      simp only
      rw [f_hx (c % 16) (by omega)]
      simp only [S_one, s_tl, S_app, S_len, l_hx]
      refine ⟨sz _ (by simp; omega), cd_small (by decide) (by decide), sz 16 (by decide), sz _ (by simp; omega), cd_small (by decide) (by decide), cm_r (by decide) (by decide), sz 16 (by decide), sz _ (by simp; omega), some (.str (S [c])), some (.int c), ?_⟩
      simp
  · rintro σ H' ⟨rfl, v, w, rfl⟩
    unfold t__law_escaped_2
    walk_at "rs"
    rw [List.take_length]
    exact hq
end

end My

namespace My
open PySem PySem.Spec PyProof.Rows L2 R
local macro_rules | `(tactic| walk_at "rs") => `(tactic| ((try simp only [tSeq, tAp_e, tAsg, gName, tv0, tvs, tC, tOp, tUn, tTest, tAnd, tOr, tNot, tIf, tIfS, tRet, tRetN, tNext, tDrop, tCB, tCons, tNil, tAug_e, tCall, tAndV, tOrV, tChain, tTr, tNotU, tML, tMS, tForU, iLst, iTp, iSt, iRng1, iRng2, tLcU, tLst_e, tTup_e, tSl, tPart_e, tNoPart, tYes, tBreak, tCont, tRs_e, tCallW_e, tMkF, gSub_e, rIs_e, rIsN_e, decide_true, decide_false, rOrd_str, rSidx_str,   rSub_int, rFdiv_int, rMod_int, rShl_int, rShr_int, rXor_int, rAndB_int, rOrB_int, rPow_int, rAddU_int, rAddU_str, rMul_int, rIadd_int, rIadd_str, rLt_int, rLe_int, rGt_int, rGe_int, rEqU_int, rNeU_int, rEqU_str, rNeU_str, rEqU_bl, rNeU_bl, rInt_int, rAbs_int, rMax2_int, rMin2_int, mU_int, truV_bl, truV_int, truV_non, exBl, exInt, exInt2, exIntV, rLen_str, rIx_str, rSl_str, rInU_str,    List.set_cons_zero, List.set_cons_succ, List.append_nil, List.nil_append, List.cons_append, List.length_cons, List.length_nil, if_true, if_false, ite_true, ite_false, Bool.false_eq_true, decide_eq_true_eq, Bool.not_true, Bool.not_false, Bool.not_eq_true, Bool.not_eq_false, exists_eq_left', exists_eq_left, V.bl.injEq, V.int.injEq, V.str.injEq, V.ref.injEq, reduceCtorEq, and_true, true_and, ↓reduceIte]); (try with_reducible intro (ap : R.Apart _ _))))
local macro_rules | `(tactic| walk_at "rh") => `(tactic| ((try simp only [tSeq, tAp_e, tAsg, gName, tv0, tvs, tC, tOp, tUn, tTest, tAnd, tOr, tNot, tIf, tIfS, tRet, tRetN, tNext, tDrop, tCB, tCons, tNil, tAug_e, tCall, tAndV, tOrV, tChain, tTr, tNotU, tML, tMS, tForU, iLst, iTp, iSt, iRng1, iRng2, tLcU, tLst_e, tTup_e, tSl, tPart_e, tNoPart, tYes, tBreak, tCont, tRs_e, tCallW_e, tMkF, gSub_e, rIs_e, rIsN_e, decide_true, decide_false, rOrd_str, rSidx_str,   rSub_int, rFdiv_int, rMod_int, rShl_int, rShr_int, rXor_int, rAndB_int, rOrB_int, rPow_int, rAddU_int, rAddU_str, rMul_int, rIadd_int, rIadd_str, rLt_int, rLe_int, rGt_int, rGe_int, rEqU_int, rNeU_int, rEqU_str, rNeU_str, rEqU_bl, rNeU_bl, rInt_int, rAbs_int, rMax2_int, rMin2_int, mU_int, truV_bl, truV_int, truV_non, exBl, exInt, exInt2, exIntV, rLen_str, rIx_str, rSl_str, rInU_str,    List.set_cons_zero, List.set_cons_succ, List.append_nil, List.nil_append, List.cons_append, List.length_cons, List.length_nil, if_true, if_false, ite_true, ite_false, Bool.false_eq_true, decide_eq_true_eq, Bool.not_true, Bool.not_false, Bool.not_eq_true, Bool.not_eq_false, exists_eq_left', exists_eq_left, V.bl.injEq, V.int.injEq, V.str.injEq, V.ref.injEq, reduceCtorEq, and_true, true_and, ↓reduceIte]); (try with_reducible intro (ap : R.Apart _ _)); (try simp only [tSeq, tAp_e, tAsg, gName, tv0, tvs, tC, tOp, tUn, tTest, tAnd, tOr, tNot, tIf, tIfS, tRet, tRetN, tNext, tDrop, tCB, tCons, tNil, tAug_e, tCall, tAndV, tOrV, tChain, tTr, tNotU, tML, tMS, tForU, iLst, iTp, iSt, iRng1, iRng2, tLcU, tLst_e, tTup_e, tSl, tPart_e, tNoPart, tYes, tBreak, tCont, tRs_e, tCallW_e, tMkF, gSub_e, rIs_e, rIsN_e, decide_true, decide_false, rOrd_str, rSidx_str,   rSub_int, rFdiv_int, rMod_int, rShl_int, rShr_int, rXor_int, rAndB_int, rOrB_int, rPow_int, rAddU_int, rAddU_str, rMul_int, rIadd_int, rIadd_str, rLt_int, rLe_int, rGt_int, rGe_int, rEqU_int, rNeU_int, rEqU_str, rNeU_str, rEqU_bl, rNeU_bl, rInt_int, rAbs_int, rMax2_int, rMin2_int, mU_int, truV_bl, truV_int, truV_non, exBl, exInt, exInt2, exIntV, rLen_str, rIx_str, rSl_str, rInU_str,    List.set_cons_zero, List.set_cons_succ, List.append_nil, List.nil_append, List.cons_append, List.length_cons, List.length_nil, if_true, if_false, ite_true, ite_false, Bool.false_eq_true, decide_eq_true_eq, Bool.not_true, Bool.not_false, Bool.not_eq_true, Bool.not_eq_false, exists_eq_left', exists_eq_left, V.bl.injEq, V.int.injEq, V.str.injEq, V.ref.injEq, reduceCtorEq, and_true, true_and, ↓reduceIte, sqv_e, rLenU_ref, rListOf_ref, rIxU_ref, rSlU_ref, rApp_ref, rAddU_ref, truV_ref, rInU_ref, rMulU_ref, true_implies, forall_const, *])))

open N62
theorem occ_hx {c : Nat} (h : ishex c = true) : ∃ r, Builtin.Str.occurrences HX (S [c]) 0 HX.length 1 = hv c :: r := by
  have := f_hxi c (hex_lt c (of_decide_eq_true h)).1 h
  rw [S_one] at this
  cases e : Builtin.Str.occurrences HX (S [c]) 0 HX.length 1 with
  | nil => rw [e] at this; cases this
  | cons i r => rw [e] at this; cases this; exact ⟨r, rfl⟩
section
variable {P : Program} {w : World} {G : GG} {mg : Str → Option Value} {base : Heap} (T : Top P w G mg base) {vs : List V} {H : Hp} {Q : VK} {E : XK}
include T
theorem rd_escape (h : sp_escape G vs H Q E) : t_escape G {nx := fun _ H' => Q .non H', rt := Q} (start N_escape vs) H := by
  obtain ⟨l, rfl, ho, hz, hq⟩ := h
  show t_escape G _ [some (.str (S l)), none, none] H
  unfold t_escape
  walk_at "rs"
  refine ⟨l, rfl, ho, by omega, fun a H1 s1 e1 => ?_⟩
  simp only [lstv_of (K := G.K) e1]
  refine goesL (xs := octs l) (fun i σ H' => H' = H1 ∧ ∃ v, σ = [some (.str (S l)), some (.str (S (esc (l.take i)))), v]) ⟨rfl, _, by rw [s_e]; rfl⟩ (fun i σ H' _ q => by rw [q.1]; exact lstv_of e1) ?_ ?_
  · rintro i x σ H' hi ⟨rfl, v, rfl⟩
    obtain ⟨c, hc, rfl⟩ := octs_at hi
    have hok := ho c (List.mem_of_getElem? hc)
    have hlt := okc_lt hok
    have hil : i < l.length := (List.getElem?_eq_some_iff.mp hc).1
    have hlen : (esc (l.take i)).length ≤ 1500 := by
      have := esc_len (l.take i)
      rw [List.length_take] at this
      omega
    have e1 : esc (l.take (i + 1)) = esc (l.take i) ++ esc1 c := by rw [take_snoc hc]; simp [esc]
    rw [e1]
    unfold t_escape_1
    walk_at "rs"
    refine ⟨c, rfl, by omega, ?_⟩
    rw [if_pos hok]
    walk_at "rs"
    simp only [f_pl]
    have hd : (c : Int) / 2 ^ Int.toNat 4 = ((c / 16 : Nat) : Int) := by
      rw [show (2 : Int) ^ Int.toNat 4 = 16 from rfl]; omega
    have hm : Builtin.bitAnd (c : Int) 15 = ((c % 16 : Nat) : Int) := by
      rw [PyProof.Rows.bitAnd_m4]; omega
    split
    · rename_i hp
      rw [show esc1 c = [c] by unfold esc1; rw [if_pos hp]]
      refine ⟨c, rfl, by omega, ?_⟩
      rw [if_pos hok]
      walk_at "rs"
      simp only [S_app, S_len]
      refine ⟨sz _ (by simp; omega), ?_⟩
      first | exact ⟨rfl, _, rfl⟩ | exact ⟨_, rfl⟩
    · rename_i hp
      rw [show esc1 c = [126, hx (c / 16), hx (c % 16)] by unfold esc1; rw [if_neg hp]]
      rw [hm, hd, f_hx (c / 16) (by omega)]
      simp only
      rw [f_hx (c % 16) (by omega)]
      simp only [S_one, s_tl, S_app, S_len, l_hx]
      refine ⟨by decide, sz 16 (by decide), sz 2 (by decide), sz 16 (by decide), sz 3 (by decide), sz _ (by simp; omega), some (.int c), ?_⟩
      simp
  · rintro σ H' ⟨rfl, v, rfl⟩
    unfold t_escape_2
    walk_at "rs"
    rw [octs_len, List.take_length]
    exact hq _ s1
theorem rd_escaped_octets (h : sp_escaped_octets G vs H Q E) : t_escaped_octets G {nx := fun _ H' => Q .non H', rt := Q} (start N_escaped_octets vs) H := by
  obtain ⟨z, rfl, hz, hq⟩ := h
  show t_escaped_octets G _ [some (.str (S z)), none, none] H
  unfold t_escaped_octets
  walk_at "rs"
  refine ⟨sz 0 (by decide), nw fun l H1 hl s1 e1 => ?_⟩
  refine ⟨fun m σ H' => ∃ (at_ : Nat) (acc : List Nat), m = z.length - at_ ∧ σ = [some (.str (S z)), some (.ref l), some (.int at_)] ∧ at_ ≤ z.length ∧ acc.length ≤ at_ ∧ H' l = some (.lst (octs acc)) ∧ Same H H' ∧ (pr (z.drop at_)).map (acc ++ ·) = pr z, ⟨_, 0, [], rfl, rfl, by omega, by simp, e1, s1, by simp⟩, ?_⟩
  rintro m σ H' ⟨at_, acc, rfl, rfl, hle, hal, e2, s2, hpr⟩
  have l2 : lstv G.K H' l = some (octs acc) := lstv_of e2
  walk_at "rs"
  simp only [S_len]
  refine ⟨sz _ (by omega), ?_⟩
  split <;> rename_i hc
  · have hlt : at_ < z.length := by omega
    obtain ⟨c, hc⟩ : ∃ c, z[at_]? = some c := ⟨z[at_], by simp [hlt]⟩
    have hdrop : z.drop at_ = c :: z.drop (at_ + 1) := by
      rw [List.drop_eq_getElem_cons hlt]
      congr 1
      simpa [hlt] using hc
    refine ⟨_, fun _ _ h => h, ?_⟩
    rw [hdrop, pr] at hpr
    unfold t_escaped_octets_3
    walk_at "rs"
    simp only [at_S z at_ c hc, S_one, f_pl, S_len]
    refine ⟨sz _ (by omega), ?_⟩
    split <;> rename_i hp
    · rw [if_pos hp] at hpr
      unfold t_escaped_octets_1
      walk_at "rs"
      simp only [l2, S_len, at_S z at_ c hc, S_one]
      refine ⟨sz _ (by omega), rfl, ?_⟩
      rw [rApp_lst e2]
      refine ⟨szl _ (by rw [octs_len]; omega), z.length - (at_ + 1), by omega, at_ + 1, acc ++ [c], rfl, by simp, by omega, by simp; omega, ?_, Same.upd s2 hl, ?_⟩
      · rw [upd_same]
        exact congrArg (fun x => some (HO.lst x)) (octs_snoc (n := c) rfl)
      · rw [← hpr, Option.map_map]
        congr 1
        funext y
        simp
    · rw [if_neg hp] at hpr
      have hrl : (z.drop (at_ + 1)).length = z.length - (at_ + 1) := by simp
      have bad : ¬(c = 126 ∧ 2 ≤ (z.drop (at_ + 1)).length ∧ ishex ((z.drop (at_ + 1)).getD 0 0) = true ∧ ishex ((z.drop (at_ + 1)).getD 1 0) = true) → Q .non H' := fun hn => by
        rw [if_neg hn] at hpr
        simp at hpr
        rw [← hpr] at hq
        exact hq H' s2
      simp only [s_tl, S_inj, List.cons.injEq, and_true]
      refine ⟨sz _ (by omega), ?_⟩
      split <;> rename_i h1
      · refine ⟨sz _ (by omega), ?_⟩
        split <;> rename_i h2
        · obtain ⟨a, ha⟩ : ∃ a, z[at_ + 1]? = some a := ⟨z[at_ + 1]'(by omega), by simp⟩
          obtain ⟨b, hb⟩ : ∃ b, z[at_ + 2]? = some b := ⟨z[at_ + 2]'(by omega), by simp⟩
          have ga : (z.drop (at_ + 1)).getD 0 0 = a := by simp [List.getD_eq_getElem?_getD, ha]
          have gb : (z.drop (at_ + 1)).getD 1 0 = b := by simp [List.getD_eq_getElem?_getD, show at_ + 1 + 1 = at_ + 2 by omega, hb]
          have ia := at_S z _ a ha
          have ib := at_S z _ b hb
          rw [show ((at_ + 1 : Nat) : Int) = (at_ : Int) + 1 by omega] at ia
          rw [show ((at_ + 2 : Nat) : Int) = (at_ : Int) + 2 by omega] at ib
          rw [ga, gb] at bad hpr
          simp only [ia, ib, S_one, f_ishex]
          refine ⟨sz _ (by omega), ?_⟩
          split <;> rename_i h3
          · refine ⟨sz _ (by omega), ?_⟩
            split <;> rename_i h4
            · rw [if_pos ⟨h1, by omega, h3, h4⟩] at hpr
              obtain ⟨r1, o1⟩ := occ_hx h3
              obtain ⟨r2, o2⟩ := occ_hx h4
              unfold t_escaped_octets_2
              walk_at "rs"
              simp only [l2, ia, ib, S_one, S_len, o1, o2]
              rw [rApp_lst e2]
              refine ⟨sz _ (by omega), cm_r (by decide) (by decide), sz _ (by omega), szl _ (by rw [octs_len]; omega), z.length - (at_ + 3), by omega, at_ + 3, acc ++ [hv a * 16 + hv b], rfl, by simp, by omega, by simp; omega, ?_, Same.upd s2 hl, ?_⟩
              · rw [upd_same, octs_snoc (n := hv a * 16 + hv b) (by omega)]
              · rw [← hpr, Option.map_map, List.drop_drop, show at_ + 1 + 2 = at_ + 3 by omega]
                congr 1
                funext y
                simp
            · exact bad (by rintro ⟨_, _, _, h⟩; exact h4 h)
          · exact bad (by rintro ⟨_, _, h, _⟩; exact h3 h)
        · exact bad (by omega)
      · exact bad (by rintro ⟨h, _⟩; exact h1 h)
  · unfold t_escaped_octets_4
    walk_at "rs"
    have : at_ = z.length := by omega
    subst this
    rw [List.drop_length, pr] at hpr
    simp at hpr
    rw [← hpr] at hq
    exact hq l H' s2 e2
theorem rd_unescape (h : sp_unescape G vs H Q E) : t_unescape G {nx := fun _ H' => Q .non H', rt := Q} (start N_unescape vs) H := by
  obtain ⟨z, rfl, hz, hq⟩ := h
  show t_unescape G _ [some (.str (S z)), none, none] H
  unfold t_unescape
  walk_at "rs"
  refine ⟨z, rfl, hz, ?_⟩
  unfold inv at hq
  cases e : pr z with
  | none =>
    rw [e] at hq
    intro H1 s1
    walk_at "rs"
    exact hq H1 s1
  | some ns =>
    rw [e] at hq
    simp only at hq
    obtain ⟨hlt, hln⟩ := pr_lt _ z ns (Nat.le_refl _) e
    intro a H1 s1 e1
    walk_at "rs"
    unfold t_unescape_2 tTryOnly
    walk_at "rs"
    refine ⟨a, ns, rfl, e1, hlt, by omega, fun hall H2 s2 => ?_, fun hall d H2 v s2 e2 => ?_⟩
    · unfold t_unescape_1
      walk_at "rs"
      refine ⟨ns, rfl, List.all_eq_true.mp hall, by omega, fun H3 s3 => ?_⟩
      walk_at "rs"
      rw [hall] at hq
      have hq := hq H3 (s1.trans (s2.trans s3))
      simp only [S_inj]
      split
      · rename_i hc
        rw [if_pos ⟨rfl, hc⟩] at hq
        walk_at "rs"
        exact hq
      · rename_i hc
        rw [if_neg (fun h => hc h.2)] at hq
        exact hq
    · refine ⟨true, T.em_InvalidText_InvalidText, fun _ a h0 => ?_, fun z => nomatch z⟩
      walk_at "rs"
      rw [hall] at hq
      have hq := hq H2 (s1.trans s2)
      rw [if_neg (fun h => nomatch h.1)] at hq
      exact hq
end

end My

namespace My
open PySem PySem.Spec PyProof.Rows L2 R
local macro_rules | `(tactic| walk_at "rs") => `(tactic| ((try simp only [tSeq, tAp_e, tAsg, gName, tv0, tvs, tC, tOp, tUn, tTest, tAnd, tOr, tNot, tIf, tIfS, tRet, tRetN, tNext, tDrop, tCB, tCons, tNil, tAug_e, tCall, tAndV, tOrV, tChain, tTr, tNotU, tML, tMS, tForU, iLst, iTp, iSt, iRng1, iRng2, tLcU, tLst_e, tTup_e, tSl, tPart_e, tNoPart, tYes, tBreak, tCont, tRs_e, tCallW_e, tMkF, gSub_e, rIs_e, rIsN_e, decide_true, decide_false, rOrd_str, rSidx_str,   rSub_int, rFdiv_int, rMod_int, rShl_int, rShr_int, rXor_int, rAndB_int, rOrB_int, rPow_int, rAddU_int, rAddU_str, rMul_int, rIadd_int, rIadd_str, rLt_int, rLe_int, rGt_int, rGe_int, rEqU_int, rNeU_int, rEqU_str, rNeU_str, rEqU_bl, rNeU_bl, rInt_int, rAbs_int, rMax2_int, rMin2_int, mU_int, truV_bl, truV_int, truV_non, exBl, exInt, exInt2, exIntV, rLen_str, rIx_str, rSl_str, rInU_str,    List.set_cons_zero, List.set_cons_succ, List.append_nil, List.nil_append, List.cons_append, List.length_cons, List.length_nil, if_true, if_false, ite_true, ite_false, Bool.false_eq_true, decide_eq_true_eq, Bool.not_true, Bool.not_false, Bool.not_eq_true, Bool.not_eq_false, exists_eq_left', exists_eq_left, V.bl.injEq, V.int.injEq, V.str.injEq, V.ref.injEq, reduceCtorEq, and_true, true_and, ↓reduceIte]); (try with_reducible intro (ap : R.Apart _ _))))
local macro_rules | `(tactic| walk_at "rh") => `(tactic| ((try simp only [tSeq, tAp_e, tAsg, gName, tv0, tvs, tC, tOp, tUn, tTest, tAnd, tOr, tNot, tIf, tIfS, tRet, tRetN, tNext, tDrop, tCB, tCons, tNil, tAug_e, tCall, tAndV, tOrV, tChain, tTr, tNotU, tML, tMS, tForU, iLst, iTp, iSt, iRng1, iRng2, tLcU, tLst_e, tTup_e, tSl, tPart_e, tNoPart, tYes, tBreak, tCont, tRs_e, tCallW_e, tMkF, gSub_e, rIs_e, rIsN_e, decide_true, decide_false, rOrd_str, rSidx_str,   rSub_int, rFdiv_int, rMod_int, rShl_int, rShr_int, rXor_int, rAndB_int, rOrB_int, rPow_int, rAddU_int, rAddU_str, rMul_int, rIadd_int, rIadd_str, rLt_int, rLe_int, rGt_int, rGe_int, rEqU_int, rNeU_int, rEqU_str, rNeU_str, rEqU_bl, rNeU_bl, rInt_int, rAbs_int, rMax2_int, rMin2_int, mU_int, truV_bl, truV_int, truV_non, exBl, exInt, exInt2, exIntV, rLen_str, rIx_str, rSl_str, rInU_str,    List.set_cons_zero, List.set_cons_succ, List.append_nil, List.nil_append, List.cons_append, List.length_cons, List.length_nil, if_true, if_false, ite_true, ite_false, Bool.false_eq_true, decide_eq_true_eq, Bool.not_true, Bool.not_false, Bool.not_eq_true, Bool.not_eq_false, exists_eq_left', exists_eq_left, V.bl.injEq, V.int.injEq, V.str.injEq, V.ref.injEq, reduceCtorEq, and_true, true_and, ↓reduceIte]); (try with_reducible intro (ap : R.Apart _ _)); (try simp only [tSeq, tAp_e, tAsg, gName, tv0, tvs, tC, tOp, tUn, tTest, tAnd, tOr, tNot, tIf, tIfS, tRet, tRetN, tNext, tDrop, tCB, tCons, tNil, tAug_e, tCall, tAndV, tOrV, tChain, tTr, tNotU, tML, tMS, tForU, iLst, iTp, iSt, iRng1, iRng2, tLcU, tLst_e, tTup_e, tSl, tPart_e, tNoPart, tYes, tBreak, tCont, tRs_e, tCallW_e, tMkF, gSub_e, rIs_e, rIsN_e, decide_true, decide_false, rOrd_str, rSidx_str,   rSub_int, rFdiv_int, rMod_int, rShl_int, rShr_int, rXor_int, rAndB_int, rOrB_int, rPow_int, rAddU_int, rAddU_str, rMul_int, rIadd_int, rIadd_str, rLt_int, rLe_int, rGt_int, rGe_int, rEqU_int, rNeU_int, rEqU_str, rNeU_str, rEqU_bl, rNeU_bl, rInt_int, rAbs_int, rMax2_int, rMin2_int, mU_int, truV_bl, truV_int, truV_non, exBl, exInt, exInt2, exIntV, rLen_str, rIx_str, rSl_str, rInU_str,    List.set_cons_zero, List.set_cons_succ, List.append_nil, List.nil_append, List.cons_append, List.length_cons, List.length_nil, if_true, if_false, ite_true, ite_false, Bool.false_eq_true, decide_eq_true_eq, Bool.not_true, Bool.not_false, Bool.not_eq_true, Bool.not_eq_false, exists_eq_left', exists_eq_left, V.bl.injEq, V.int.injEq, V.str.injEq, V.ref.injEq, reduceCtorEq, and_true, true_and, ↓reduceIte, sqv_e, rLenU_ref, rListOf_ref, rIxU_ref, rSlU_ref, rApp_ref, rAddU_ref, truV_ref, rInU_ref, rMulU_ref, true_implies, forall_const, *])))

open N62
theorem cut3 (z : List Nat) (i : Nat) : cutS (S z) (some (i : Int)) (some ((i : Int) + 3)) = S ((z.drop i).take 3) := by
  unfold cutS
  rw [show ((i : Int) + 3) = ((i + 3 : Nat) : Int) by omega, HT.sIx_nat, HT.sIx_nat, S_len]
  show (⟨_⟩ : Str) = ⟨_⟩
  congr 2
  rw [S_cps]
  rcases Nat.lt_or_ge i z.length with h | h
  · rw [show min i z.length = i by omega]
    rcases Nat.lt_or_ge (i + 3) z.length with h2 | h2
    · rw [show min (i + 3) z.length - i = 3 by omega]
    · rw [show min (i + 3) z.length = z.length by omega, List.take_of_length_le (by simp), List.take_of_length_le (by simp; omega)]
  · rw [show min i z.length = z.length by omega, List.drop_of_length_le (by omega), List.drop_of_length_le (by omega)]; simp
theorem cut1 (z : List Nat) (i : Nat) (c : Nat) (h : z[i]? = some c) : cutS (S z) (some (i : Int)) (some ((i : Int) + 1)) = S [c] := by
  have hi : i < z.length := (List.getElem?_eq_some_iff.mp h).1
  unfold cutS
  rw [show ((i : Int) + 1) = ((i + 1 : Nat) : Int) by omega, HT.sIx_nat, HT.sIx_nat, S_len]
  show (⟨_⟩ : Str) = ⟨_⟩
  congr 2
  rw [S_cps, show min i z.length = i by omega, show min (i + 1) z.length - i = 1 by omega, List.drop_eq_getElem_cons hi]
  have := (List.getElem?_eq_some_iff.mp h).2
  rw [this]
  rfl
theorem cutAny (z : List Nat) (lo hi : Option Int) : ∃ w : List Nat, cutS (S z) lo hi = S w ∧ w.length ≤ z.length ∧ ∀ x ∈ w, x ∈ z := by
  refine ⟨(z.drop (HT.sIx (S z).length 0 lo)).take (HT.sIx (S z).length (S z).length hi - HT.sIx (S z).length 0 lo), rfl, ?_, ?_⟩
  · rw [List.length_take, List.length_drop]; omega
  · intro y hy
    exact List.mem_of_mem_drop (List.mem_of_mem_take hy)
theorem sg_eq : S SG0 ++ Str.ofString "\n\t" = S SG := by decide +kernel
theorem sg_len : SG.length ≤ 200 := by decide +kernel
theorem fm_filter {α β : Type} (q : α → Bool) (g : α → β) (l : List α) : l.filterMap (fun s => if q s = true then some (g s) else none) = (l.filter q).map g := by
  induction l with
  | nil => rfl
  | cons a l ih =>
    rw [List.filterMap_cons, List.filter_cons, ih]
    by_cases h : q a = true
    · simp [h]
    · simp [h]
theorem rNe_oV {K : PySem.W.Frag} {o : Option (List Nat)} {H : Hp} {Q : VK} (q : Q (.bl false) H) : rNeU K (oV o) (oV o) H Q := by
  cases o with
  | none =>
    unfold rNeU oV
    simp [isRef, scal]
    exact q
  | some l =>
    show rNeU K (.str (S l)) (.str (S l)) H Q
    rw [rNeU_str]
    simp
    exact q
section
variable {P : Program} {w : World} {G : GG} {mg : Str → Option Value} {base : Heap} (T : Top P w G mg base) {vs : List V} {H : Hp} {Q : VK} {E : XK}
include T
theorem rd__law_read (h : sp__law_read G vs H Q E) : t__law_read G {nx := fun _ H' => Q .non H', rt := Q} (start N__law_read vs) H := by
  obtain ⟨z, rfl, ho, hz, hq⟩ := h
  show t__law_read G _ [some (.str (S z)), none, none, none, none, none] H
  unfold t__law_read
  walk_at "rs"
  simp only [S_len]
  refine ⟨sz _ (by omega), by omega, by omega, ?_⟩
  rw [s_e]
  refine goesR (n := z.length) (fun i σ H' => ∃ (at_ : Nat) (f : List Nat) (u v w : Option V), σ = [some (.str (S z)), some (.str (S f)), some (.int at_), u, v, w] ∧ Same H H' ∧ (i ≤ at_ ∨ z.length ≤ at_) ∧ f.length ≤ i ∧ (rp (z.drop at_)).map (f ++ ·) = rp z) ⟨0, [], _, _, _, rfl, Same.refl _, by omega, by simp, by simp⟩ ?_ ?_
  · rintro i σ H' hi ⟨at_, f, u, v, w, rfl, s1, hle, hfl, hrp⟩
    unfold t__law_read_4
    walk_at "rs"
    simp only [S_len]
    refine ⟨sz _ (by omega), ?_⟩
    split <;> rename_i hc
    · have hlt : at_ < z.length := by omega
      obtain ⟨c, hc⟩ : ∃ c, z[at_]? = some c := ⟨z[at_], by simp [hlt]⟩
      have hdrop : z.drop at_ = c :: z.drop (at_ + 1) := by
        rw [List.drop_eq_getElem_cons hlt]
        congr 1
        simpa [hlt] using hc
      rw [hdrop, rp] at hrp
      simp only [at_S z at_ c hc, S_one, s_tl, S_inj, List.cons.injEq, and_true]
      refine ⟨sz _ (by omega), ?_⟩
      by_cases h126 : c = 126
      · rw [if_neg (by simp [h126])] at hrp
        rw [if_neg (by simp [h126])]
        unfold t__law_read_3
        walk_at "rs"
        refine ⟨rfl, ?_⟩
        walk_at "rs"
        simp only [sg_eq]
        refine ⟨sz _ (by decide +kernel), ?_⟩
        have hw : (z.drop at_).take 3 = c :: (z.drop (at_ + 1)).take 2 := by rw [hdrop]; rfl
        rw [← List.head?_filter] at hrp
        refine lcS (l := SG) rfl (fun s => if (esc1 s == c :: (z.drop (at_ + 1)).take 2) = true then some (.str (S [s])) else none) (by have := sg_len; omega) ?_ ?_
        · intro s hs H2 s2 Qy Qn hy hn
          show gName 5 _ _ _ _
          simp only [wipe, List.foldl, List.set_cons_zero, List.set_cons_succ]
          walk_at "rs"
          refine ⟨[s], rfl, by simp [sg_ok s hs], by simp, ?_⟩
          walk_at "rs"
          simp only [S_len, cut3, S_inj, hw]
          refine ⟨sz _ (by omega), ?_⟩
          have he : esc [s] = esc1 s := by simp [esc]
          rw [he]
          split
          · rename_i h
            exact hy _ (by rw [if_pos (by simpa using h)]; rfl) _ (Same.refl _)
          · rename_i h
            exact hn (by rw [if_neg (by simpa using h)]) _ (Same.refl _)
        · intro p H2 hp s2 e2
          rw [fm_filter (fun s => esc1 s == c :: (z.drop (at_ + 1)).take 2) (fun s => V.str (S [s]))] at e2
          have l2 := lstv_of (K := G.K) e2
          cases hm : List.filter (fun s => esc1 s == c :: (z.drop (at_ + 1)).take 2) SG with
          | nil =>
            rw [hm] at l2 hrp
            simp only [truV_lst l2]
            have hi := inv_rp z ho
            simp only [List.head?_nil, Option.map_none] at hrp
            rw [← hrp] at hi
            have hq := hq H2 (s1.trans s2)
            rw [← hi] at hq
            exact hq
          | cons s rest =>
            rw [hm] at l2 hrp
            simp only [truV_lst l2]
            rw [if_neg (by simp)]
            unfold t__law_read_2
            walk_at "rs"
            have i0 : atI (List.map (fun s => V.str (S [s])) (s :: rest)) 0 = some (.str (S [s])) := by
              unfold atI ixN; simp
            simp only [rIx_lst l2, i0]
            walk_at "rs"
            simp only [S_len, S_app]
            refine ⟨sz _ (by simp; omega), at_ + 3, f ++ [s], some (.int (0 + (i : Int))), some (.ref p), w, by simp, s1.trans s2, by omega, by simp; omega, ?_⟩
            rw [← hrp]
            simp only [List.head?_cons, Option.map_map]
            rw [List.drop_drop, show at_ + 1 + 2 = at_ + 3 by omega]
            congr 1
            funext y
            simp
      · rw [if_pos h126] at hrp
        rw [if_pos (by simp [h126])]
        unfold t__law_read_1
        walk_at "rs"
        simp only [at_S z at_ c hc, S_one, S_len, S_app]
        refine ⟨sz _ (by omega), sz _ (by simp; omega), at_ + 1, f ++ [c], _, _, _, by simp; exact ⟨rfl, rfl, rfl⟩, s1, by omega, by simp; omega, ?_⟩
        rw [← hrp, Option.map_map]
        congr 1
        funext y
        simp
    · exact ⟨at_, f, _, _, _, rfl, s1, by omega, by omega, hrp⟩
  · rintro σ H' ⟨at_, f, u, v, w, rfl, s1, hle, hfl, hrp⟩
    unfold t__law_read_6
    walk_at "rs"
    rw [List.drop_of_length_le (by omega), rp] at hrp
    simp at hrp
    have hf := rp_ok _ z f (Nat.le_refl _) ho hrp.symm
    refine ⟨f, rfl, hf.1, by omega, ?_⟩
    walk_at "rs"
    have hi := inv_rp z ho
    rw [← hrp] at hi
    simp only at hi
    simp only [S_inj]
    have hq := hq H' s1
    split
    · rename_i h
      rw [if_neg (by simpa using h)] at hi
      rw [← hi] at hq
      exact hq
    · rename_i h
      rw [if_pos (by simpa using h)] at hi
      rw [← hi] at hq
      unfold t__law_read_5
      walk_at "rs"
      exact hq
end

end My

namespace My
open PySem PySem.Spec PyProof.Rows L2 R
local macro_rules | `(tactic| walk_at "rs") => `(tactic| ((try simp only [tSeq, tAp_e, tAsg, gName, tv0, tvs, tC, tOp, tUn, tTest, tAnd, tOr, tNot, tIf, tIfS, tRet, tRetN, tNext, tDrop, tCB, tCons, tNil, tAug_e, tCall, tAndV, tOrV, tChain, tTr, tNotU, tML, tMS, tForU, iLst, iTp, iSt, iRng1, iRng2, tLcU, tLst_e, tTup_e, tSl, tPart_e, tNoPart, tYes, tBreak, tCont, tRs_e, tCallW_e, tMkF, gSub_e, rIs_e, rIsN_e, decide_true, decide_false, rOrd_str, rSidx_str,   rSub_int, rFdiv_int, rMod_int, rShl_int, rShr_int, rXor_int, rAndB_int, rOrB_int, rPow_int, rAddU_int, rAddU_str, rMul_int, rIadd_int, rIadd_str, rLt_int, rLe_int, rGt_int, rGe_int, rEqU_int, rNeU_int, rEqU_str, rNeU_str, rEqU_bl, rNeU_bl, rInt_int, rAbs_int, rMax2_int, rMin2_int, mU_int, truV_bl, truV_int, truV_non, exBl, exInt, exInt2, exIntV, rLen_str, rIx_str, rSl_str, rInU_str,    List.set_cons_zero, List.set_cons_succ, List.append_nil, List.nil_append, List.cons_append, List.length_cons, List.length_nil, if_true, if_false, ite_true, ite_false, Bool.false_eq_true, decide_eq_true_eq, Bool.not_true, Bool.not_false, Bool.not_eq_true, Bool.not_eq_false, exists_eq_left', exists_eq_left, V.bl.injEq, V.int.injEq, V.str.injEq, V.ref.injEq, reduceCtorEq, and_true, true_and, ↓reduceIte]); (try with_reducible intro (ap : R.Apart _ _))))
local macro_rules | `(tactic| walk_at "rh") => `(tactic| ((try simp only [tSeq, tAp_e, tAsg, gName, tv0, tvs, tC, tOp, tUn, tTest, tAnd, tOr, tNot, tIf, tIfS, tRet, tRetN, tNext, tDrop, tCB, tCons, tNil, tAug_e, tCall, tAndV, tOrV, tChain, tTr, tNotU, tML, tMS, tForU, iLst, iTp, iSt, iRng1, iRng2, tLcU, tLst_e, tTup_e, tSl, tPart_e, tNoPart, tYes, tBreak, tCont, tRs_e, tCallW_e, tMkF, gSub_e, rIs_e, rIsN_e, decide_true, decide_false, rOrd_str, rSidx_str,   rSub_int, rFdiv_int, rMod_int, rShl_int, rShr_int, rXor_int, rAndB_int, rOrB_int, rPow_int, rAddU_int, rAddU_str, rMul_int, rIadd_int, rIadd_str, rLt_int, rLe_int, rGt_int, rGe_int, rEqU_int, rNeU_int, rEqU_str, rNeU_str, rEqU_bl, rNeU_bl, rInt_int, rAbs_int, rMax2_int, rMin2_int, mU_int, truV_bl, truV_int, truV_non, exBl, exInt, exInt2, exIntV, rLen_str, rIx_str, rSl_str, rInU_str,    List.set_cons_zero, List.set_cons_succ, List.append_nil, List.nil_append, List.cons_append, List.length_cons, List.length_nil, if_true, if_false, ite_true, ite_false, Bool.false_eq_true, decide_eq_true_eq, Bool.not_true, Bool.not_false, Bool.not_eq_true, Bool.not_eq_false, exists_eq_left', exists_eq_left, V.bl.injEq, V.int.injEq, V.str.injEq, V.ref.injEq, reduceCtorEq, and_true, true_and, ↓reduceIte]); (try with_reducible intro (ap : R.Apart _ _)); (try simp only [tSeq, tAp_e, tAsg, gName, tv0, tvs, tC, tOp, tUn, tTest, tAnd, tOr, tNot, tIf, tIfS, tRet, tRetN, tNext, tDrop, tCB, tCons, tNil, tAug_e, tCall, tAndV, tOrV, tChain, tTr, tNotU, tML, tMS, tForU, iLst, iTp, iSt, iRng1, iRng2, tLcU, tLst_e, tTup_e, tSl, tPart_e, tNoPart, tYes, tBreak, tCont, tRs_e, tCallW_e, tMkF, gSub_e, rIs_e, rIsN_e, decide_true, decide_false, rOrd_str, rSidx_str,   rSub_int, rFdiv_int, rMod_int, rShl_int, rShr_int, rXor_int, rAndB_int, rOrB_int, rPow_int, rAddU_int, rAddU_str, rMul_int, rIadd_int, rIadd_str, rLt_int, rLe_int, rGt_int, rGe_int, rEqU_int, rNeU_int, rEqU_str, rNeU_str, rEqU_bl, rNeU_bl, rInt_int, rAbs_int, rMax2_int, rMin2_int, mU_int, truV_bl, truV_int, truV_non, exBl, exInt, exInt2, exIntV, rLen_str, rIx_str, rSl_str, rInU_str,    List.set_cons_zero, List.set_cons_succ, List.append_nil, List.nil_append, List.cons_append, List.length_cons, List.length_nil, if_true, if_false, ite_true, ite_false, Bool.false_eq_true, decide_eq_true_eq, Bool.not_true, Bool.not_false, Bool.not_eq_true, Bool.not_eq_false, exists_eq_left', exists_eq_left, V.bl.injEq, V.int.injEq, V.str.injEq, V.ref.injEq, reduceCtorEq, and_true, true_and, ↓reduceIte, sqv_e, rLenU_ref, rListOf_ref, rIxU_ref, rSlU_ref, rApp_ref, rAddU_ref, truV_ref, rInU_ref, rMulU_ref, true_implies, forall_const, *])))

open N62
section
variable {P : Program} {w : World} {G : GG} {mg : Str → Option Value} {base : Heap} (T : Top P w G mg base) {vs : List V} {H : Hp} {Q : VK} {E : XK}
include T
theorem rd__law_refill (h : sp__law_refill G vs H Q E) : t__law_refill G {nx := fun _ H' => Q .non H', rt := Q} (start N__law_refill vs) H := by
  obtain ⟨a, ns, k, rfl, hl, hz, hq⟩ := h
  show t__law_refill G _ [some (.ref a), some (.int k), none] H
  have k2 : ∀ c : Int, t__law_refill_2 G {nx := fun _ H' => Q .non H', rt := Q} [some (.ref a), some (.int k), some (.int c)] H := by
    intro c
    have last : t__law_refill_1 G {nx := fun _ H' => Q .non H', rt := Q} [some (.ref a), some (.int k), some (.int c)] H := by
      unfold t__law_refill_1
      walk_at "rs"
      exact ⟨cm_r (by decide) (by decide), cm_r (by decide) (by decide), cm_r (by decide) (by decide), by decide, hq _⟩
    unfold t__law_refill_2
    walk_at "rs"
    refine ⟨⟨by decide, by decide, by decide⟩, ?_⟩
    split
    · simp only [rLen_lst hl, List.length_map]
      walk_at "rs"
      split
      · exact hq _
      · exact last
    · exact last
  have k3 : ∀ c : Int, t__law_refill_3 G {nx := fun _ H' => Q .non H', rt := Q} [some (.ref a), some (.int k), some (.int c)] H := by
    intro c
    unfold t__law_refill_3
    walk_at "rs"
    split
    · exact ⟨cm_l (by decide) (by decide), k2 _⟩
    · exact k2 _
  unfold t__law_refill
  walk_at "rs"
  simp only [truV_lst hl]
  split
  · rename_i hne
    have hpos : 0 < ns.length := by
      cases ns with
      | nil => simp at hne
      | cons _ _ => simp
    simp only [rLen_lst hl, List.length_map]
    walk_at "rs"
    obtain ⟨j, hj⟩ := Int.eq_ofNat_of_zero_le (Int.emod_nonneg k (show (ns.length : Int) ≠ 0 by omega))
    have hj2 := Int.emod_lt_of_pos k (show (0 : Int) < ns.length by omega)
    refine ⟨by omega, ?_⟩
    have hat : ∃ c, atI (ns.map V.int) (k % (ns.length : Int)) = some (.int c) := by
      refine ⟨ns[j]'(by omega), ?_⟩
      rw [hj]
      unfold atI ixN
      rw [if_pos (by omega), List.length_map, if_pos (by omega)]
      simp
    obtain ⟨c, hc⟩ := hat
    simp only [rIx_lst hl, hc]
    exact k3 _
  · exact k3 _
theorem rd__law_draw (h : sp__law_draw G vs H Q E) : t__law_draw G {nx := fun _ H' => Q .non H', rt := Q} (start N__law_draw vs) H := by
  obtain ⟨st, a, ns, k, c, n, rfl, hn0, hn1, hs, hl, hz, hq⟩ := h
  show t__law_draw G _ [some (.ref st), some (.ref a), some (.int n), none] H
  have k2 : ∀ (H' : Hp) (k c : Int), Chg st H H' → H' st = some (.lst [.int k, .int c]) → t__law_draw_2 G {nx := fun _ H' => Q .non H', rt := Q} [some (.ref st), some (.ref a), some (.int n), none] H' := by
    intro H' k c s1 e1
    have l1 := lstv_of (K := G.K) e1
    unfold t__law_draw_2
    walk_at "rs"
    have i1 : atI [V.int k, V.int c] 1 = some (.int c) := rfl
    simp only [rIx_lst l1, i1]
    walk_at "rs"
    refine ⟨hn0, ?_⟩
    simp only [rIx_lst l1, i1]
    walk_at "rs"
    refine ⟨cd_small hn0 (by omega), ?_⟩
    rw [rSetLU_ref e1]
    show Q (.int (c % n)) (L2.upd H' st (.lst [V.int k, V.int (c / n)]))
    exact hq _ _ (Int.emod_nonneg _ (by omega)) (Int.emod_lt_of_pos _ hn0) s1.upd
  have l0 := lstv_of (K := G.K) hs
  have i1 : atI [V.int k, V.int c] 1 = some (.int c) := rfl
  have i0 : atI [V.int k, V.int c] 0 = some (.int k) := rfl
  unfold t__law_draw
  walk_at "rs"
  have hl := hl ‹_›
  simp only [rIx_lst l0, i1]
  walk_at "rs"
  split
  · unfold t__law_draw_1
    walk_at "rs"
    simp only [rIx_lst l0, i0]
    refine ⟨a, ns, k, rfl, hl.2, hz, fun i => ?_⟩
    walk_at "rs"
    rw [rSetLU_ref hs]
    show rIxU _ _ _ (L2.upd H st (.lst [V.int k, V.int i])) _
    have e1 : (L2.upd H st (.lst [V.int k, V.int i])) st = some (.lst [V.int k, V.int i]) := upd_same
    have s1 : Chg st H (L2.upd H st (.lst [V.int k, V.int i])) := (Chg.refl hs).upd
    generalize L2.upd H st (.lst [V.int k, V.int i]) = H1 at e1 s1 ⊢
    have i0 : atI [V.int k, V.int i] 0 = some (.int k) := rfl
    simp only [rIx_lst (lstv_of (K := G.K) e1), i0]
    walk_at "rs"
    rw [rSetLU_ref e1]
    exact k2 _ _ _ s1.upd upd_same
  · exact k2 H k c (Chg.refl hs) hs
theorem rd__law_pick (h : sp__law_pick G vs H Q E) : t__law_pick G {nx := fun _ H' => Q .non H', rt := Q} (start N__law_pick vs) H := by
  obtain ⟨st, a, ns, k, c, z, rfl, hz0, hz1, hs, hl, hz, hq⟩ := h
  show t__law_pick G _ [some (.ref st), some (.ref a), some (.str (S z)), none] H
  have hpos : 0 < z.length := by
    cases z with
    | nil => exact absurd rfl hz0
    | cons _ _ => simp
  unfold t__law_pick
  walk_at "rs"
  simp only [S_len]
  refine ⟨sz _ (by omega), st, a, ns, k, c, _, rfl, by omega, by omega, hs, hl, hz, fun d H' h0 h1 s1 => ?_⟩
  walk_at "rs"
  obtain ⟨j, rfl⟩ := Int.eq_ofNat_of_zero_le h0
  obtain ⟨x, hx⟩ : ∃ x, z[j]? = some x := ⟨z[j]'(by omega), by simp⟩
  rw [cut1 z j x hx]
  exact ⟨sz _ (by omega), hq x (List.mem_of_getElem? hx) H' s1⟩
theorem rd__law_text (h : sp__law_text G vs H Q E) : t__law_text G {nx := fun _ H' => Q .non H', rt := Q} (start N__law_text vs) H := by
  obtain ⟨st, a, ns, k, c, least, most, rfl, h0, hlm, hm, hs, hl, hz, hq⟩ := h
  show t__law_text G _ [some (.ref st), some (.ref a), some (.int least), some (.int most), none, none, none] H
  unfold t__law_text
  walk_at "rs"
  refine ⟨rfl, ?_⟩
  walk_at "rs"
  simp only [sg_eq]
  refine ⟨sz _ (by decide +kernel), st, a, ns, k, c, 3, rfl, by decide, by decide, hs, hl, hz, fun kind H1 hk0 hk1 s1 => ?_⟩
  walk_at "rs"
  have k1 : ∀ (z : List Nat) (u : V), z ≠ [] → z.length < 1000 → (∀ x ∈ z, okc x = true) → t__law_text_1 G {nx := fun _ H' => Q .non H', rt := Q} [some (.ref st), some (.ref a), some (.int least), some (.int most), some (.str (S z)), some u, none] H1 := by
    intro z u hz0 hz1 hok
    obtain ⟨k', c', e1⟩ := s1.2
    unfold t__law_text_1
    walk_at "rs"
    refine ⟨st, a, ns, k', c', _, rfl, by omega, by omega, e1, hl.chg s1, hz, fun d H2 hd0 hd1 s2 => ?_⟩
    walk_at "rs"
    refine ⟨by omega, by omega, ?_⟩
    have s12 := s1.trans s2
    refine lcRI (fun i D H' => Chg st H2 H' ∧ ∃ zs : List Nat, zs.length = i ∧ (∀ x ∈ zs, okc x = true) ∧ H' D = some (.lst (zs.map fun c => V.str (S [c])))) ?_ ?_ ?_
    · intro D hD
      obtain ⟨k2, c2, e2⟩ := s2.2
      exact ⟨(Chg.refl e2).same (Same.new hD), [], rfl, by simp, upd_same⟩
    · rintro D i H' hD hi ⟨s3, zs, hzl, hzo, e3⟩
      obtain ⟨k3, c3, e4⟩ := s3.2
      obtain ⟨k2, c2, e2⟩ := s2.2
      have hne : D ≠ st := by rintro rfl; rw [hD] at e2; cases e2
      show gName 6 _ _ _ _
      simp only [wipe, List.foldl, List.set_cons_zero, List.set_cons_succ]
      walk_at "rs"
      refine ⟨st, a, ns, k3, c3, z, rfl, hz0, hz1, e4, hl.chg (s12.trans s3), hz, fun x hx H4 s4 => ?_⟩
      have e5 := s4.1 D _ hne e3
      refine ⟨_, e5, szl _ (by rw [List.length_map]; omega), ⟨fun b o hb e => ?_, ?_⟩, zs ++ [x], by simp [hzl], ?_, ?_⟩
      · have := (s3.trans s4).1 b o hb e
        have hbD : b ≠ D := by rintro rfl; rw [hD] at e; cases e
        rw [upd_ne hbD]
        exact this
      · obtain ⟨k5, c5, e6⟩ := s4.2
        exact ⟨k5, c5, by rw [upd_ne (Ne.symm hne)]; exact e6⟩
      · intro y hy
        rcases List.mem_append.mp hy with h | h
        · exact hzo y h
        · simp at h; subst h; exact hok _ hx
      · rw [upd_same, List.map_append]; rfl
    · rintro D H' hD ⟨s3, zs, hzl, hzo, e3⟩
      have l3 : lstv G.K H' D = some ((zs.map fun c => S [c]).map V.str) := by rw [List.map_map]; exact lstv_of e3
      refine rJoin_lst l3 ?_ ?_
      · rw [s_e, S_len, List.map_map, List.length_map]
        have : ∀ l : List Nat, (l.map ((fun x : Str => x.length) ∘ fun c => S [c])).sum = l.length := by
          intro l
          induction l with
          | nil => rfl
          | cons c l ih => simp only [List.map_cons, List.sum_cons, ih, List.length_cons]; simp [S_len]; omega
        rw [this]
        simp
        omega
      · rw [s_e, join_S]
        exact hq zs hzo (by omega) H' (s12.trans s3)
  have k2 : ∀ (z : List Nat), z ≠ [] → z.length < 1000 → (∀ x ∈ z, okc x = true) → t__law_text_2 G {nx := fun _ H' => Q .non H', rt := Q} [some (.ref st), some (.ref a), some (.int least), some (.int most), some (.str (S z)), some (.int kind), none] H1 := by
    intro z hz0 hz1 hok
    unfold t__law_text_2
    walk_at "rs"
    split
    · have e : (Str.ofString "a /~?\n") = S [97, 32, 47, 126, 63, 10] := by decide +kernel
      rw [e]
      exact k1 _ _ (by simp) (by simp) (by decide +kernel)
    · exact k1 _ _ hz0 hz1 hok
  split
  · have e : (Str.ofString "abcXYZ019-_.") = S [97, 98, 99, 88, 89, 90, 48, 49, 57, 45, 95, 46] := by decide +kernel
    rw [e]
    exact k2 _ (by simp) (by simp) (by decide +kernel)
  · exact k2 _ (by decide +kernel) (by have := sg_len; omega) sg_ok
end

end My

namespace My
open PySem PySem.Spec PyProof.Rows L2 R
local macro_rules | `(tactic| walk_at "rs") => `(tactic| ((try simp only [tSeq, tAp_e, tAsg, gName, tv0, tvs, tC, tOp, tUn, tTest, tAnd, tOr, tNot, tIf, tIfS, tRet, tRetN, tNext, tDrop, tCB, tCons, tNil, tAug_e, tCall, tAndV, tOrV, tChain, tTr, tNotU, tML, tMS, tForU, iLst, iTp, iSt, iRng1, iRng2, tLcU, tLst_e, tTup_e, tSl, tPart_e, tNoPart, tYes, tBreak, tCont, tRs_e, tCallW_e, tMkF, gSub_e, rIs_e, rIsN_e, decide_true, decide_false, rOrd_str, rSidx_str,   rSub_int, rFdiv_int, rMod_int, rShl_int, rShr_int, rXor_int, rAndB_int, rOrB_int, rPow_int, rAddU_int, rAddU_str, rMul_int, rIadd_int, rIadd_str, rLt_int, rLe_int, rGt_int, rGe_int, rEqU_int, rNeU_int, rEqU_str, rNeU_str, rEqU_bl, rNeU_bl, rInt_int, rAbs_int, rMax2_int, rMin2_int, mU_int, truV_bl, truV_int, truV_non, exBl, exInt, exInt2, exIntV, rLen_str, rIx_str, rSl_str, rInU_str,    List.set_cons_zero, List.set_cons_succ, List.append_nil, List.nil_append, List.cons_append, List.length_cons, List.length_nil, if_true, if_false, ite_true, ite_false, Bool.false_eq_true, decide_eq_true_eq, Bool.not_true, Bool.not_false, Bool.not_eq_true, Bool.not_eq_false, exists_eq_left', exists_eq_left, V.bl.injEq, V.int.injEq, V.str.injEq, V.ref.injEq, reduceCtorEq, and_true, true_and, ↓reduceIte]); (try with_reducible intro (ap : R.Apart _ _))))
local macro_rules | `(tactic| walk_at "rh") => `(tactic| ((try simp only [tSeq, tAp_e, tAsg, gName, tv0, tvs, tC, tOp, tUn, tTest, tAnd, tOr, tNot, tIf, tIfS, tRet, tRetN, tNext, tDrop, tCB, tCons, tNil, tAug_e, tCall, tAndV, tOrV, tChain, tTr, tNotU, tML, tMS, tForU, iLst, iTp, iSt, iRng1, iRng2, tLcU, tLst_e, tTup_e, tSl, tPart_e, tNoPart, tYes, tBreak, tCont, tRs_e, tCallW_e, tMkF, gSub_e, rIs_e, rIsN_e, decide_true, decide_false, rOrd_str, rSidx_str,   rSub_int, rFdiv_int, rMod_int, rShl_int, rShr_int, rXor_int, rAndB_int, rOrB_int, rPow_int, rAddU_int, rAddU_str, rMul_int, rIadd_int, rIadd_str, rLt_int, rLe_int, rGt_int, rGe_int, rEqU_int, rNeU_int, rEqU_str, rNeU_str, rEqU_bl, rNeU_bl, rInt_int, rAbs_int, rMax2_int, rMin2_int, mU_int, truV_bl, truV_int, truV_non, exBl, exInt, exInt2, exIntV, rLen_str, rIx_str, rSl_str, rInU_str,    List.set_cons_zero, List.set_cons_succ, List.append_nil, List.nil_append, List.cons_append, List.length_cons, List.length_nil, if_true, if_false, ite_true, ite_false, Bool.false_eq_true, decide_eq_true_eq, Bool.not_true, Bool.not_false, Bool.not_eq_true, Bool.not_eq_false, exists_eq_left', exists_eq_left, V.bl.injEq, V.int.injEq, V.str.injEq, V.ref.injEq, reduceCtorEq, and_true, true_and, ↓reduceIte]); (try with_reducible intro (ap : R.Apart _ _)); (try simp only [tSeq, tAp_e, tAsg, gName, tv0, tvs, tC, tOp, tUn, tTest, tAnd, tOr, tNot, tIf, tIfS, tRet, tRetN, tNext, tDrop, tCB, tCons, tNil, tAug_e, tCall, tAndV, tOrV, tChain, tTr, tNotU, tML, tMS, tForU, iLst, iTp, iSt, iRng1, iRng2, tLcU, tLst_e, tTup_e, tSl, tPart_e, tNoPart, tYes, tBreak, tCont, tRs_e, tCallW_e, tMkF, gSub_e, rIs_e, rIsN_e, decide_true, decide_false, rOrd_str, rSidx_str,   rSub_int, rFdiv_int, rMod_int, rShl_int, rShr_int, rXor_int, rAndB_int, rOrB_int, rPow_int, rAddU_int, rAddU_str, rMul_int, rIadd_int, rIadd_str, rLt_int, rLe_int, rGt_int, rGe_int, rEqU_int, rNeU_int, rEqU_str, rNeU_str, rEqU_bl, rNeU_bl, rInt_int, rAbs_int, rMax2_int, rMin2_int, mU_int, truV_bl, truV_int, truV_non, exBl, exInt, exInt2, exIntV, rLen_str, rIx_str, rSl_str, rInU_str,    List.set_cons_zero, List.set_cons_succ, List.append_nil, List.nil_append, List.cons_append, List.length_cons, List.length_nil, if_true, if_false, ite_true, ite_false, Bool.false_eq_true, decide_eq_true_eq, Bool.not_true, Bool.not_false, Bool.not_eq_true, Bool.not_eq_false, exists_eq_left', exists_eq_left, V.bl.injEq, V.int.injEq, V.str.injEq, V.ref.injEq, reduceCtorEq, and_true, true_and, ↓reduceIte, sqv_e, rLenU_ref, rListOf_ref, rIxU_ref, rSlU_ref, rApp_ref, rAddU_ref, truV_ref, rInU_ref, rMulU_ref, true_implies, forall_const, *])))

open N62
abbrev LL : List Str := ["~20", "~2F", "~2f", "~", "a", "0", "~41", "~0a", "~25", "~7f", "~ff", "/", " ", "~7e", "_", "~80"]
theorem at_map {α : Type} (f : α → V) (l : List α) {j : Nat} (hj : j < l.length) : atI (l.map f) (j : Int) = some (f l[j]) := by
  unfold atI ixN
  rw [if_pos (by omega), List.length_map, if_pos (by omega)]
  simp [hj]
theorem ll_ok : ∀ z ∈ LL, (∀ x ∈ z.cps.toList, okc x = true) ∧ z.cps.toList.length ≤ 3 := by decide +kernel
theorem pl_ok : ∀ c ∈ PL.cps.toList, okc c = true := by decide +kernel
theorem hx_ok : ∀ n : Nat, n < 16 → okc (hx n) = true := by decide +kernel
theorem esc_ok (l : List Nat) (h : ∀ c ∈ l, okc c = true) : ∀ x ∈ esc l, okc x = true := by
  intro x hx2
  unfold esc at hx2
  obtain ⟨c, hc, hx3⟩ := List.mem_flatMap.mp hx2
  have hlt := okc_lt (h c hc)
  unfold esc1 at hx3
  split at hx3
  · rename_i hp
    simp at hx3
    subst hx3
    exact pl_ok _ (of_decide_eq_true hp)
  · simp at hx3
    rcases hx3 with rfl | rfl | rfl
    · decide
    · exact hx_ok _ (by omega)
    · exact hx_ok _ (by omega)
theorem inv_nil : inv [] = some [] := inv_esc [] (by simp)
section
variable {P : Program} {w : World} {G : GG} {mg : Str → Option Value} {base : Heap} (T : Top P w G mg base) {vs : List V} {H : Hp} {Q : VK} {E : XK}
theorem b_law_4 {st a : Addr} {l o : List Nat} {u v : Option V} (ho : ∀ x ∈ o, okc x = true) (hol : o.length ≤ 100) (hlo : ∀ x ∈ l, okc x = true) (hll : l.length ≤ 60) (hq : ∀ H', Q (.bl true) H') :
    t_law_4 G {nx := fun _ H' => Q .non H', rt := Q} [some (.ref a), some (.ref st), some (.str (S l)), some (.str (S (esc l))), some (.str (S o)), u, v] H := by
  unfold t_law_4
  walk_at "rs"
  simp only [S_len]
  have hel := esc_len l
  obtain ⟨w, ew, hwl, hwm⟩ := cutAny (esc l) none (some (-1))
  rw [ew]
  refine ⟨sz _ (by omega), sz 3 (by decide), nw fun p H1 hp s1 e1 => ?_⟩
  simp only [lstv_of (K := G.K) e1]
  refine goesL (xs := [V.str (S o), V.str (S w), V.str (S l)]) (fun i σ H' => Same H1 H' ∧ ∃ v, σ = [some (.ref a), some (.ref st), some (.str (S l)), some (.str (S (esc l))), some (.str (S o)), u, v]) ⟨Same.refl _, _, rfl⟩ (fun i σ H' _ q => lstv_of (q.1 _ _ e1)) ?_ ?_
  · rintro i x σ H' hi ⟨s2, v, rfl⟩
    have hx : ∃ z, x = .str (S z) ∧ (∀ c ∈ z, okc c = true) ∧ z.length ≤ 500 := by
      have hm := List.mem_of_getElem? hi
      simp only [List.mem_cons, List.not_mem_nil, or_false] at hm
      rcases hm with rfl | rfl | rfl
      · exact ⟨o, rfl, ho, by omega⟩
      · exact ⟨w, rfl, fun c hc => esc_ok l hlo c (hwm c hc), by omega⟩
      · exact ⟨l, rfl, hlo, by omega⟩
    obtain ⟨z, rfl, hz, hzl⟩ := hx
    unfold t_law_2
    walk_at "rs"
    refine ⟨z, rfl, hzl, fun H2 s3 => ?_⟩
    walk_at "rs"
    refine ⟨z, rfl, hz, hzl, fun H3 s4 => ?_⟩
    refine rNe_oV ?_
    walk_at "rs"
    exact ⟨s2.trans (s3.trans s4), _, rfl⟩
  · rintro σ H' ⟨s2, v, rfl⟩
    unfold t_law_3
    walk_at "rs"
    rw [s_e]
    refine ⟨[], rfl, by simp, fun H2 s3 => ?_⟩
    rw [inv_nil]
    show rEqU _ (.str (S [])) _ _ _
    walk_at "rs"
    exact hq _
include T in
theorem rd_law (h : sp_law G vs H Q E) : t_law G {nx := fun _ H' => Q .non H', rt := Q} (start N_law vs) H := by
  obtain ⟨a, ns, rfl, hl, hz, hq⟩ := h
  show t_law G _ [some (.ref a), none, none, none, none, none, none] H
  unfold t_law
  walk_at "rs"
  refine ⟨sz 2 (by decide), nw fun st H1 h0 s1 e1 => ?_⟩
  have ls1 : LS G.K H1 st a (ns.map V.int) := LS.new hl h0 s1 e1
  refine ⟨st, a, ns, 0, 0, 0, 60, rfl, by decide, by decide, by decide, e1, ls1, hz, fun l hlo hll H2 s2 => ?_⟩
  walk_at "rs"
  refine ⟨l, rfl, hlo, by omega, fun H3 s3 => ?_⟩
  walk_at "rs"
  refine ⟨l, rfl, hlo, by omega, ?_⟩
  walk_at "rs"
  have hel := esc_len l
  refine ⟨esc l, rfl, by omega, fun H4 s4 => ?_⟩
  rw [inv_esc l hlo]
  show rNeU _ (.str (S l)) _ _ _
  walk_at "rs"
  have s14 : Chg st H1 H4 := (s2.same s3).same s4
  have ls4 := ls1.chg s14
  obtain ⟨k4, c4, e4⟩ := s14.2
  unfold t_law_5
  walk_at "rs"
  refine ⟨st, a, ns, k4, c4, 13, rfl, by decide, by decide, e4, ls4, hz, fun d H5 hd0 hd1 s5 => ?_⟩
  walk_at "rs"
  refine ⟨by omega, by omega, ?_⟩
  rw [s_e]
  refine goesR (n := d.toNat) (fun i σ H' => ∃ (o : List Nat) (u v : Option V), σ = [some (.ref a), some (.ref st), some (.str (S l)), some (.str (S (esc l))), some (.str (S o)), u, v] ∧ Chg st H5 H' ∧ (∀ x ∈ o, okc x = true) ∧ o.length ≤ 3 * i) ⟨[], _, _, rfl, s5.2.elim fun k ⟨c, e⟩ => Chg.refl e, by simp, by simp⟩ ?_ ?_
  · rintro i σ H' hi ⟨o, u, v, rfl, s6, ho, hol⟩
    obtain ⟨k6, c6, e6⟩ := s6.2
    unfold t_law_1
    walk_at "rs"
    refine ⟨sz 16 (by decide), nw fun p H6 hp s7 e7 => ?_⟩
    have s8 : Chg st H5 H6 := s6.same s7
    obtain ⟨k8, c8, e8⟩ := s8.2
    have hne : p ≠ st := by rintro rfl; rw [hp] at e6; cases e6
    refine ⟨st, a, ns, k8, c8, 16, rfl, by decide, by decide, e8, ls4.chg (s5.trans s8), hz, fun d2 H7 hd2 hd3 s9 => ?_⟩
    have e9 := s9.1 p _ hne e7
    have l9 : lstv G.K H7 p = some (LL.map V.str) := lstv_of e9
    obtain ⟨j, rfl⟩ := Int.eq_ofNat_of_zero_le hd2
    have hat : ∃ z ∈ LL, atI (LL.map V.str) (j : Int) = some (.str z) := by
      have hj : j < LL.length := by show j < 16; omega
      exact ⟨LL[j], List.getElem_mem hj, at_map V.str LL hj⟩
    obtain ⟨z, hz1, hz2⟩ := hat
    obtain ⟨hz3, hz4⟩ := ll_ok z hz1
    simp only [rIx_lst l9, hz2]
    walk_at "rs"
    rw [S_of z, S_app, S_len, S_len]
    refine ⟨sz _ (by omega), o ++ z.cps.toList, some (.int (0 + (i : Int))), v, rfl, s8.trans s9, ?_, by simp; simp at hz4; omega⟩
    intro x hx
    rcases List.mem_append.mp hx with h | h
    · exact ho x h
    · exact hz3 x h
  · rintro σ H' ⟨o, u, v, rfl, s6, ho, hol⟩
    exact b_law_4 ho (by omega) hlo hll hq
end

end My

set_option pp.maxSteps 400
namespace My
open PySem PySem.Spec PyProof.Rows L2 R
theorem len_char_of {G : GG} : ∀ (vs : List V) (H : Hp) (Q : VK) (E : XK), sp_char_of G vs H Q E → vs.length = 1 := by
  intro vs H Q E h
  first | (obtain ⟨rfl, _⟩ := h; rfl) | (obtain ⟨_, rfl, _⟩ := h; rfl) | (obtain ⟨_, _, rfl, _⟩ := h; rfl) | (obtain ⟨_, _, _, rfl, _⟩ := h; rfl) | (obtain ⟨_, _, _, _, rfl, _⟩ := h; rfl) | (obtain ⟨_, _, _, _, _, rfl, _⟩ := h; rfl) | (obtain ⟨_, _, _, _, _, _, rfl, _⟩ := h; rfl) | (obtain ⟨_, _, _, _, _, _, _, rfl, _⟩ := h; rfl) | (obtain ⟨_, _, _, _, _, _, _, _, rfl, _⟩ := h; rfl) | (obtain ⟨_, _, _, _, _, _, _, _, _, rfl, _⟩ := h; rfl) | (obtain ⟨_, _, _, _, _, _, _, _, _, _, rfl, _⟩ := h; rfl) | (obtain ⟨_, _, _, _, _, _, _, _, _, _, _, rfl, _⟩ := h; rfl) | (obtain ⟨_, _, _, _, _, _, _, _, _, _, _, _, rfl, _⟩ := h; rfl) | (obtain ⟨_, _, _, _, _, _, _, _, _, _, _, _, _, rfl, _⟩ := h; rfl)
theorem ok_char_of {P : Program} {w : World} {G : GG} {mg : Str → Option Value} {base : Heap} {f : Addr} {fd : FuncData} (T : Top P w G mg base) (F : Fun G.K "char_of" "char_of" s_char_of f fd) : FnOk P w G.K mg base CX0 1 f fd ["code"] (sp_char_of G) :=
  F.ok sc_char_of len_char_of fun cdv A outer s H vs Q E hr h => ⟨_, dv_char_of T hr, rd_char_of T h⟩
theorem len_code_of {G : GG} : ∀ (vs : List V) (H : Hp) (Q : VK) (E : XK), sp_code_of G vs H Q E → vs.length = 1 := by
  intro vs H Q E h
  first | (obtain ⟨rfl, _⟩ := h; rfl) | (obtain ⟨_, rfl, _⟩ := h; rfl) | (obtain ⟨_, _, rfl, _⟩ := h; rfl) | (obtain ⟨_, _, _, rfl, _⟩ := h; rfl) | (obtain ⟨_, _, _, _, rfl, _⟩ := h; rfl) | (obtain ⟨_, _, _, _, _, rfl, _⟩ := h; rfl) | (obtain ⟨_, _, _, _, _, _, rfl, _⟩ := h; rfl) | (obtain ⟨_, _, _, _, _, _, _, rfl, _⟩ := h; rfl) | (obtain ⟨_, _, _, _, _, _, _, _, rfl, _⟩ := h; rfl) | (obtain ⟨_, _, _, _, _, _, _, _, _, rfl, _⟩ := h; rfl) | (obtain ⟨_, _, _, _, _, _, _, _, _, _, rfl, _⟩ := h; rfl) | (obtain ⟨_, _, _, _, _, _, _, _, _, _, _, rfl, _⟩ := h; rfl) | (obtain ⟨_, _, _, _, _, _, _, _, _, _, _, _, rfl, _⟩ := h; rfl) | (obtain ⟨_, _, _, _, _, _, _, _, _, _, _, _, _, rfl, _⟩ := h; rfl)
theorem ok_code_of {P : Program} {w : World} {G : GG} {mg : Str → Option Value} {base : Heap} {f : Addr} {fd : FuncData} (T : Top P w G mg base) (F : Fun G.K "code_of" "code_of" s_code_of f fd) : FnOk P w G.K mg base CX0 1 f fd ["char"] (sp_code_of G) :=
  F.ok sc_code_of len_code_of fun cdv A outer s H vs Q E hr h => ⟨_, dv_code_of T hr, rd_code_of T h⟩
theorem len_encode_text {G : GG} : ∀ (vs : List V) (H : Hp) (Q : VK) (E : XK), sp_encode_text G vs H Q E → vs.length = 1 := by
  intro vs H Q E h
  first | (obtain ⟨rfl, _⟩ := h; rfl) | (obtain ⟨_, rfl, _⟩ := h; rfl) | (obtain ⟨_, _, rfl, _⟩ := h; rfl) | (obtain ⟨_, _, _, rfl, _⟩ := h; rfl) | (obtain ⟨_, _, _, _, rfl, _⟩ := h; rfl) | (obtain ⟨_, _, _, _, _, rfl, _⟩ := h; rfl) | (obtain ⟨_, _, _, _, _, _, rfl, _⟩ := h; rfl) | (obtain ⟨_, _, _, _, _, _, _, rfl, _⟩ := h; rfl) | (obtain ⟨_, _, _, _, _, _, _, _, rfl, _⟩ := h; rfl) | (obtain ⟨_, _, _, _, _, _, _, _, _, rfl, _⟩ := h; rfl) | (obtain ⟨_, _, _, _, _, _, _, _, _, _, rfl, _⟩ := h; rfl) | (obtain ⟨_, _, _, _, _, _, _, _, _, _, _, rfl, _⟩ := h; rfl) | (obtain ⟨_, _, _, _, _, _, _, _, _, _, _, _, rfl, _⟩ := h; rfl) | (obtain ⟨_, _, _, _, _, _, _, _, _, _, _, _, _, rfl, _⟩ := h; rfl)
theorem ok_encode_text {P : Program} {w : World} {G : GG} {mg : Str → Option Value} {base : Heap} {f : Addr} {fd : FuncData} (T : Top P w G mg base) (F_code_of : FnE P w G.K mg base CX0 "code_of" 1 ["char"] (sp_code_of G)) (F : Fun G.K "encode_text" "encode_text" s_encode_text f fd) : FnOk P w G.K mg base CX0 2 f fd ["text"] (sp_encode_text G) :=
  F.ok sc_encode_text len_encode_text fun cdv A outer s H vs Q E hr h => ⟨_, dv_encode_text T F_code_of hr, rd_encode_text T h⟩
theorem len_decode_text {G : GG} : ∀ (vs : List V) (H : Hp) (Q : VK) (E : XK), sp_decode_text G vs H Q E → vs.length = 1 := by
  intro vs H Q E h
  first | (obtain ⟨rfl, _⟩ := h; rfl) | (obtain ⟨_, rfl, _⟩ := h; rfl) | (obtain ⟨_, _, rfl, _⟩ := h; rfl) | (obtain ⟨_, _, _, rfl, _⟩ := h; rfl) | (obtain ⟨_, _, _, _, rfl, _⟩ := h; rfl) | (obtain ⟨_, _, _, _, _, rfl, _⟩ := h; rfl) | (obtain ⟨_, _, _, _, _, _, rfl, _⟩ := h; rfl) | (obtain ⟨_, _, _, _, _, _, _, rfl, _⟩ := h; rfl) | (obtain ⟨_, _, _, _, _, _, _, _, rfl, _⟩ := h; rfl) | (obtain ⟨_, _, _, _, _, _, _, _, _, rfl, _⟩ := h; rfl) | (obtain ⟨_, _, _, _, _, _, _, _, _, _, rfl, _⟩ := h; rfl) | (obtain ⟨_, _, _, _, _, _, _, _, _, _, _, rfl, _⟩ := h; rfl) | (obtain ⟨_, _, _, _, _, _, _, _, _, _, _, _, rfl, _⟩ := h; rfl) | (obtain ⟨_, _, _, _, _, _, _, _, _, _, _, _, _, rfl, _⟩ := h; rfl)
theorem ok_decode_text {P : Program} {w : World} {G : GG} {mg : Str → Option Value} {base : Heap} {f : Addr} {fd : FuncData} (T : Top P w G mg base) (F_char_of : FnE P w G.K mg base CX0 "char_of" 1 ["code"] (sp_char_of G)) (F : Fun G.K "decode_text" "decode_text" s_decode_text f fd) : FnOk P w G.K mg base (L2.CX P w) 4 f fd ["octets"] (sp_decode_text G) :=
  F.okX sc_decode_text len_decode_text fun cdv A outer s H vs Q E hr h => ⟨_, dv_decode_text T F_char_of hr, rd_decode_text T h⟩
theorem len_escape {G : GG} : ∀ (vs : List V) (H : Hp) (Q : VK) (E : XK), sp_escape G vs H Q E → vs.length = 1 := by
  intro vs H Q E h
  first | (obtain ⟨rfl, _⟩ := h; rfl) | (obtain ⟨_, rfl, _⟩ := h; rfl) | (obtain ⟨_, _, rfl, _⟩ := h; rfl) | (obtain ⟨_, _, _, rfl, _⟩ := h; rfl) | (obtain ⟨_, _, _, _, rfl, _⟩ := h; rfl) | (obtain ⟨_, _, _, _, _, rfl, _⟩ := h; rfl) | (obtain ⟨_, _, _, _, _, _, rfl, _⟩ := h; rfl) | (obtain ⟨_, _, _, _, _, _, _, rfl, _⟩ := h; rfl) | (obtain ⟨_, _, _, _, _, _, _, _, rfl, _⟩ := h; rfl) | (obtain ⟨_, _, _, _, _, _, _, _, _, rfl, _⟩ := h; rfl) | (obtain ⟨_, _, _, _, _, _, _, _, _, _, rfl, _⟩ := h; rfl) | (obtain ⟨_, _, _, _, _, _, _, _, _, _, _, rfl, _⟩ := h; rfl) | (obtain ⟨_, _, _, _, _, _, _, _, _, _, _, _, rfl, _⟩ := h; rfl) | (obtain ⟨_, _, _, _, _, _, _, _, _, _, _, _, _, rfl, _⟩ := h; rfl)
theorem ok_escape {P : Program} {w : World} {G : GG} {mg : Str → Option Value} {base : Heap} {f : Addr} {fd : FuncData} (T : Top P w G mg base) (F_char_of : FnE P w G.K mg base CX0 "char_of" 1 ["code"] (sp_char_of G)) (F_encode_text : FnE P w G.K mg base CX0 "encode_text" 2 ["text"] (sp_encode_text G)) (F : Fun G.K "escape" "escape" s_escape f fd) : FnOk P w G.K mg base CX0 3 f fd ["text"] (sp_escape G) :=
  F.ok sc_escape len_escape fun cdv A outer s H vs Q E hr h => ⟨_, dv_escape T F_char_of F_encode_text hr, rd_escape T h⟩
theorem len_escaped_octets {G : GG} : ∀ (vs : List V) (H : Hp) (Q : VK) (E : XK), sp_escaped_octets G vs H Q E → vs.length = 1 := by
  intro vs H Q E h
  first | (obtain ⟨rfl, _⟩ := h; rfl) | (obtain ⟨_, rfl, _⟩ := h; rfl) | (obtain ⟨_, _, rfl, _⟩ := h; rfl) | (obtain ⟨_, _, _, rfl, _⟩ := h; rfl) | (obtain ⟨_, _, _, _, rfl, _⟩ := h; rfl) | (obtain ⟨_, _, _, _, _, rfl, _⟩ := h; rfl) | (obtain ⟨_, _, _, _, _, _, rfl, _⟩ := h; rfl) | (obtain ⟨_, _, _, _, _, _, _, rfl, _⟩ := h; rfl) | (obtain ⟨_, _, _, _, _, _, _, _, rfl, _⟩ := h; rfl) | (obtain ⟨_, _, _, _, _, _, _, _, _, rfl, _⟩ := h; rfl) | (obtain ⟨_, _, _, _, _, _, _, _, _, _, rfl, _⟩ := h; rfl) | (obtain ⟨_, _, _, _, _, _, _, _, _, _, _, rfl, _⟩ := h; rfl) | (obtain ⟨_, _, _, _, _, _, _, _, _, _, _, _, rfl, _⟩ := h; rfl) | (obtain ⟨_, _, _, _, _, _, _, _, _, _, _, _, _, rfl, _⟩ := h; rfl)
theorem ok_escaped_octets {P : Program} {w : World} {G : GG} {mg : Str → Option Value} {base : Heap} {f : Addr} {fd : FuncData} (T : Top P w G mg base) (F : Fun G.K "escaped_octets" "escaped_octets" s_escaped_octets f fd) : FnOk P w G.K mg base CX0 1 f fd ["text"] (sp_escaped_octets G) :=
  F.ok sc_escaped_octets len_escaped_octets fun cdv A outer s H vs Q E hr h => ⟨_, dv_escaped_octets T hr, rd_escaped_octets T h⟩
theorem len_unescape {G : GG} : ∀ (vs : List V) (H : Hp) (Q : VK) (E : XK), sp_unescape G vs H Q E → vs.length = 1 := by
  intro vs H Q E h
  first | (obtain ⟨rfl, _⟩ := h; rfl) | (obtain ⟨_, rfl, _⟩ := h; rfl) | (obtain ⟨_, _, rfl, _⟩ := h; rfl) | (obtain ⟨_, _, _, rfl, _⟩ := h; rfl) | (obtain ⟨_, _, _, _, rfl, _⟩ := h; rfl) | (obtain ⟨_, _, _, _, _, rfl, _⟩ := h; rfl) | (obtain ⟨_, _, _, _, _, _, rfl, _⟩ := h; rfl) | (obtain ⟨_, _, _, _, _, _, _, rfl, _⟩ := h; rfl) | (obtain ⟨_, _, _, _, _, _, _, _, rfl, _⟩ := h; rfl) | (obtain ⟨_, _, _, _, _, _, _, _, _, rfl, _⟩ := h; rfl) | (obtain ⟨_, _, _, _, _, _, _, _, _, _, rfl, _⟩ := h; rfl) | (obtain ⟨_, _, _, _, _, _, _, _, _, _, _, rfl, _⟩ := h; rfl) | (obtain ⟨_, _, _, _, _, _, _, _, _, _, _, _, rfl, _⟩ := h; rfl) | (obtain ⟨_, _, _, _, _, _, _, _, _, _, _, _, _, rfl, _⟩ := h; rfl)
theorem ok_unescape {P : Program} {w : World} {G : GG} {mg : Str → Option Value} {base : Heap} {f : Addr} {fd : FuncData} (T : Top P w G mg base) (F_decode_text : FnE P w G.K mg base (L2.CX P w) "decode_text" 4 ["octets"] (sp_decode_text G)) (F_escape : FnE P w G.K mg base CX0 "escape" 3 ["text"] (sp_escape G)) (F_escaped_octets : FnE P w G.K mg base CX0 "escaped_octets" 1 ["text"] (sp_escaped_octets G)) (F : Fun G.K "unescape" "unescape" s_unescape f fd) : FnOk P w G.K mg base CX0 5 f fd ["text"] (sp_unescape G) :=
  F.ok sc_unescape len_unescape fun cdv A outer s H vs Q E hr h => ⟨_, dv_unescape T F_decode_text F_escape F_escaped_octets hr, rd_unescape T h⟩
theorem len__law_refill {G : GG} : ∀ (vs : List V) (H : Hp) (Q : VK) (E : XK), sp__law_refill G vs H Q E → vs.length = 2 := by
  intro vs H Q E h
  first | (obtain ⟨rfl, _⟩ := h; rfl) | (obtain ⟨_, rfl, _⟩ := h; rfl) | (obtain ⟨_, _, rfl, _⟩ := h; rfl) | (obtain ⟨_, _, _, rfl, _⟩ := h; rfl) | (obtain ⟨_, _, _, _, rfl, _⟩ := h; rfl) | (obtain ⟨_, _, _, _, _, rfl, _⟩ := h; rfl) | (obtain ⟨_, _, _, _, _, _, rfl, _⟩ := h; rfl) | (obtain ⟨_, _, _, _, _, _, _, rfl, _⟩ := h; rfl) | (obtain ⟨_, _, _, _, _, _, _, _, rfl, _⟩ := h; rfl) | (obtain ⟨_, _, _, _, _, _, _, _, _, rfl, _⟩ := h; rfl) | (obtain ⟨_, _, _, _, _, _, _, _, _, _, rfl, _⟩ := h; rfl) | (obtain ⟨_, _, _, _, _, _, _, _, _, _, _, rfl, _⟩ := h; rfl) | (obtain ⟨_, _, _, _, _, _, _, _, _, _, _, _, rfl, _⟩ := h; rfl) | (obtain ⟨_, _, _, _, _, _, _, _, _, _, _, _, _, rfl, _⟩ := h; rfl)
theorem ok__law_refill {P : Program} {w : World} {G : GG} {mg : Str → Option Value} {base : Heap} {f : Addr} {fd : FuncData} (T : Top P w G mg base) (F : Fun G.K "_law_refill" "_law_refill" s__law_refill f fd) : FnOk P w G.K mg base CX0 1 f fd ["script", "k"] (sp__law_refill G) :=
  F.ok sc__law_refill len__law_refill fun cdv A outer s H vs Q E hr h => ⟨_, dv__law_refill T hr, rd__law_refill T h⟩
theorem len__law_draw {G : GG} : ∀ (vs : List V) (H : Hp) (Q : VK) (E : XK), sp__law_draw G vs H Q E → vs.length = 3 := by
  intro vs H Q E h
  first | (obtain ⟨rfl, _⟩ := h; rfl) | (obtain ⟨_, rfl, _⟩ := h; rfl) | (obtain ⟨_, _, rfl, _⟩ := h; rfl) | (obtain ⟨_, _, _, rfl, _⟩ := h; rfl) | (obtain ⟨_, _, _, _, rfl, _⟩ := h; rfl) | (obtain ⟨_, _, _, _, _, rfl, _⟩ := h; rfl) | (obtain ⟨_, _, _, _, _, _, rfl, _⟩ := h; rfl) | (obtain ⟨_, _, _, _, _, _, _, rfl, _⟩ := h; rfl) | (obtain ⟨_, _, _, _, _, _, _, _, rfl, _⟩ := h; rfl) | (obtain ⟨_, _, _, _, _, _, _, _, _, rfl, _⟩ := h; rfl) | (obtain ⟨_, _, _, _, _, _, _, _, _, _, rfl, _⟩ := h; rfl) | (obtain ⟨_, _, _, _, _, _, _, _, _, _, _, rfl, _⟩ := h; rfl) | (obtain ⟨_, _, _, _, _, _, _, _, _, _, _, _, rfl, _⟩ := h; rfl) | (obtain ⟨_, _, _, _, _, _, _, _, _, _, _, _, _, rfl, _⟩ := h; rfl)
theorem ok__law_draw {P : Program} {w : World} {G : GG} {mg : Str → Option Value} {base : Heap} {f : Addr} {fd : FuncData} (T : Top P w G mg base) (F__law_refill : FnE P w G.K mg base CX0 "_law_refill" 1 ["script", "k"] (sp__law_refill G)) (F : Fun G.K "_law_draw" "_law_draw" s__law_draw f fd) : FnOk P w G.K mg base CX0 2 f fd ["state", "script", "size"] (sp__law_draw G) :=
  F.ok sc__law_draw len__law_draw fun cdv A outer s H vs Q E hr h => ⟨_, dv__law_draw T F__law_refill hr, rd__law_draw T h⟩
theorem len__law_pick {G : GG} : ∀ (vs : List V) (H : Hp) (Q : VK) (E : XK), sp__law_pick G vs H Q E → vs.length = 3 := by
  intro vs H Q E h
  first | (obtain ⟨rfl, _⟩ := h; rfl) | (obtain ⟨_, rfl, _⟩ := h; rfl) | (obtain ⟨_, _, rfl, _⟩ := h; rfl) | (obtain ⟨_, _, _, rfl, _⟩ := h; rfl) | (obtain ⟨_, _, _, _, rfl, _⟩ := h; rfl) | (obtain ⟨_, _, _, _, _, rfl, _⟩ := h; rfl) | (obtain ⟨_, _, _, _, _, _, rfl, _⟩ := h; rfl) | (obtain ⟨_, _, _, _, _, _, _, rfl, _⟩ := h; rfl) | (obtain ⟨_, _, _, _, _, _, _, _, rfl, _⟩ := h; rfl) | (obtain ⟨_, _, _, _, _, _, _, _, _, rfl, _⟩ := h; rfl) | (obtain ⟨_, _, _, _, _, _, _, _, _, _, rfl, _⟩ := h; rfl) | (obtain ⟨_, _, _, _, _, _, _, _, _, _, _, rfl, _⟩ := h; rfl) | (obtain ⟨_, _, _, _, _, _, _, _, _, _, _, _, rfl, _⟩ := h; rfl) | (obtain ⟨_, _, _, _, _, _, _, _, _, _, _, _, _, rfl, _⟩ := h; rfl)
theorem ok__law_pick {P : Program} {w : World} {G : GG} {mg : Str → Option Value} {base : Heap} {f : Addr} {fd : FuncData} (T : Top P w G mg base) (F__law_draw : FnE P w G.K mg base CX0 "_law_draw" 2 ["state", "script", "size"] (sp__law_draw G)) (F : Fun G.K "_law_pick" "_law_pick" s__law_pick f fd) : FnOk P w G.K mg base CX0 3 f fd ["state", "script", "signs"] (sp__law_pick G) :=
  F.ok sc__law_pick len__law_pick fun cdv A outer s H vs Q E hr h => ⟨_, dv__law_pick T F__law_draw hr, rd__law_pick T h⟩
theorem len__law_signs {G : GG} : ∀ (vs : List V) (H : Hp) (Q : VK) (E : XK), sp__law_signs G vs H Q E → vs.length = 0 := by
  intro vs H Q E h
  first | (obtain ⟨rfl, _⟩ := h; rfl) | (obtain ⟨_, rfl, _⟩ := h; rfl) | (obtain ⟨_, _, rfl, _⟩ := h; rfl) | (obtain ⟨_, _, _, rfl, _⟩ := h; rfl) | (obtain ⟨_, _, _, _, rfl, _⟩ := h; rfl) | (obtain ⟨_, _, _, _, _, rfl, _⟩ := h; rfl) | (obtain ⟨_, _, _, _, _, _, rfl, _⟩ := h; rfl) | (obtain ⟨_, _, _, _, _, _, _, rfl, _⟩ := h; rfl) | (obtain ⟨_, _, _, _, _, _, _, _, rfl, _⟩ := h; rfl) | (obtain ⟨_, _, _, _, _, _, _, _, _, rfl, _⟩ := h; rfl) | (obtain ⟨_, _, _, _, _, _, _, _, _, _, rfl, _⟩ := h; rfl) | (obtain ⟨_, _, _, _, _, _, _, _, _, _, _, rfl, _⟩ := h; rfl) | (obtain ⟨_, _, _, _, _, _, _, _, _, _, _, _, rfl, _⟩ := h; rfl) | (obtain ⟨_, _, _, _, _, _, _, _, _, _, _, _, _, rfl, _⟩ := h; rfl)
theorem ok__law_signs {P : Program} {w : World} {G : GG} {mg : Str → Option Value} {base : Heap} {f : Addr} {fd : FuncData} (T : Top P w G mg base) (F : Fun G.K "_law_signs" "_law_signs" s__law_signs f fd) : FnOk P w G.K mg base CX0 1 f fd [] (sp__law_signs G) :=
  F.ok sc__law_signs len__law_signs fun cdv A outer s H vs Q E hr h => ⟨_, dv__law_signs T hr, rd__law_signs T h⟩
theorem len__law_code {G : GG} : ∀ (vs : List V) (H : Hp) (Q : VK) (E : XK), sp__law_code G vs H Q E → vs.length = 1 := by
  intro vs H Q E h
  first | (obtain ⟨rfl, _⟩ := h; rfl) | (obtain ⟨_, rfl, _⟩ := h; rfl) | (obtain ⟨_, _, rfl, _⟩ := h; rfl) | (obtain ⟨_, _, _, rfl, _⟩ := h; rfl) | (obtain ⟨_, _, _, _, rfl, _⟩ := h; rfl) | (obtain ⟨_, _, _, _, _, rfl, _⟩ := h; rfl) | (obtain ⟨_, _, _, _, _, _, rfl, _⟩ := h; rfl) | (obtain ⟨_, _, _, _, _, _, _, rfl, _⟩ := h; rfl) | (obtain ⟨_, _, _, _, _, _, _, _, rfl, _⟩ := h; rfl) | (obtain ⟨_, _, _, _, _, _, _, _, _, rfl, _⟩ := h; rfl) | (obtain ⟨_, _, _, _, _, _, _, _, _, _, rfl, _⟩ := h; rfl) | (obtain ⟨_, _, _, _, _, _, _, _, _, _, _, rfl, _⟩ := h; rfl) | (obtain ⟨_, _, _, _, _, _, _, _, _, _, _, _, rfl, _⟩ := h; rfl) | (obtain ⟨_, _, _, _, _, _, _, _, _, _, _, _, _, rfl, _⟩ := h; rfl)
theorem ok__law_code {P : Program} {w : World} {G : GG} {mg : Str → Option Value} {base : Heap} {f : Addr} {fd : FuncData} (T : Top P w G mg base) (F : Fun G.K "_law_code" "_law_code" s__law_code f fd) : FnOk P w G.K mg base CX0 1 f fd ["sign"] (sp__law_code G) :=
  F.ok sc__law_code len__law_code fun cdv A outer s H vs Q E hr h => ⟨_, dv__law_code T hr, rd__law_code T h⟩
theorem len__law_text {G : GG} : ∀ (vs : List V) (H : Hp) (Q : VK) (E : XK), sp__law_text G vs H Q E → vs.length = 4 := by
  intro vs H Q E h
  first | (obtain ⟨rfl, _⟩ := h; rfl) | (obtain ⟨_, rfl, _⟩ := h; rfl) | (obtain ⟨_, _, rfl, _⟩ := h; rfl) | (obtain ⟨_, _, _, rfl, _⟩ := h; rfl) | (obtain ⟨_, _, _, _, rfl, _⟩ := h; rfl) | (obtain ⟨_, _, _, _, _, rfl, _⟩ := h; rfl) | (obtain ⟨_, _, _, _, _, _, rfl, _⟩ := h; rfl) | (obtain ⟨_, _, _, _, _, _, _, rfl, _⟩ := h; rfl) | (obtain ⟨_, _, _, _, _, _, _, _, rfl, _⟩ := h; rfl) | (obtain ⟨_, _, _, _, _, _, _, _, _, rfl, _⟩ := h; rfl) | (obtain ⟨_, _, _, _, _, _, _, _, _, _, rfl, _⟩ := h; rfl) | (obtain ⟨_, _, _, _, _, _, _, _, _, _, _, rfl, _⟩ := h; rfl) | (obtain ⟨_, _, _, _, _, _, _, _, _, _, _, _, rfl, _⟩ := h; rfl) | (obtain ⟨_, _, _, _, _, _, _, _, _, _, _, _, _, rfl, _⟩ := h; rfl)
theorem ok__law_text {P : Program} {w : World} {G : GG} {mg : Str → Option Value} {base : Heap} {f : Addr} {fd : FuncData} (T : Top P w G mg base) (F__law_draw : FnE P w G.K mg base CX0 "_law_draw" 2 ["state", "script", "size"] (sp__law_draw G)) (F__law_pick : FnE P w G.K mg base CX0 "_law_pick" 3 ["state", "script", "signs"] (sp__law_pick G)) (F__law_signs : FnE P w G.K mg base CX0 "_law_signs" 1 [] (sp__law_signs G)) (F : Fun G.K "_law_text" "_law_text" s__law_text f fd) : FnOk P w G.K mg base CX0 4 f fd ["state", "script", "least", "most"] (sp__law_text G) :=
  F.ok sc__law_text len__law_text fun cdv A outer s H vs Q E hr h => ⟨_, dv__law_text T F__law_draw F__law_pick F__law_signs hr, rd__law_text T h⟩
theorem len__law_escaped {G : GG} : ∀ (vs : List V) (H : Hp) (Q : VK) (E : XK), sp__law_escaped G vs H Q E → vs.length = 1 := by
  intro vs H Q E h
  first | (obtain ⟨rfl, _⟩ := h; rfl) | (obtain ⟨_, rfl, _⟩ := h; rfl) | (obtain ⟨_, _, rfl, _⟩ := h; rfl) | (obtain ⟨_, _, _, rfl, _⟩ := h; rfl) | (obtain ⟨_, _, _, _, rfl, _⟩ := h; rfl) | (obtain ⟨_, _, _, _, _, rfl, _⟩ := h; rfl) | (obtain ⟨_, _, _, _, _, _, rfl, _⟩ := h; rfl) | (obtain ⟨_, _, _, _, _, _, _, rfl, _⟩ := h; rfl) | (obtain ⟨_, _, _, _, _, _, _, _, rfl, _⟩ := h; rfl) | (obtain ⟨_, _, _, _, _, _, _, _, _, rfl, _⟩ := h; rfl) | (obtain ⟨_, _, _, _, _, _, _, _, _, _, rfl, _⟩ := h; rfl) | (obtain ⟨_, _, _, _, _, _, _, _, _, _, _, rfl, _⟩ := h; rfl) | (obtain ⟨_, _, _, _, _, _, _, _, _, _, _, _, rfl, _⟩ := h; rfl) | (obtain ⟨_, _, _, _, _, _, _, _, _, _, _, _, _, rfl, _⟩ := h; rfl)
theorem ok__law_escaped {P : Program} {w : World} {G : GG} {mg : Str → Option Value} {base : Heap} {f : Addr} {fd : FuncData} (T : Top P w G mg base) (F__law_code : FnE P w G.K mg base CX0 "_law_code" 1 ["sign"] (sp__law_code G)) (F : Fun G.K "_law_escaped" "_law_escaped" s__law_escaped f fd) : FnOk P w G.K mg base CX0 2 f fd ["text"] (sp__law_escaped G) :=
  F.ok sc__law_escaped len__law_escaped fun cdv A outer s H vs Q E hr h => ⟨_, dv__law_escaped T F__law_code hr, rd__law_escaped T h⟩
theorem len__law_read {G : GG} : ∀ (vs : List V) (H : Hp) (Q : VK) (E : XK), sp__law_read G vs H Q E → vs.length = 1 := by
  intro vs H Q E h
  first | (obtain ⟨rfl, _⟩ := h; rfl) | (obtain ⟨_, rfl, _⟩ := h; rfl) | (obtain ⟨_, _, rfl, _⟩ := h; rfl) | (obtain ⟨_, _, _, rfl, _⟩ := h; rfl) | (obtain ⟨_, _, _, _, rfl, _⟩ := h; rfl) | (obtain ⟨_, _, _, _, _, rfl, _⟩ := h; rfl) | (obtain ⟨_, _, _, _, _, _, rfl, _⟩ := h; rfl) | (obtain ⟨_, _, _, _, _, _, _, rfl, _⟩ := h; rfl) | (obtain ⟨_, _, _, _, _, _, _, _, rfl, _⟩ := h; rfl) | (obtain ⟨_, _, _, _, _, _, _, _, _, rfl, _⟩ := h; rfl) | (obtain ⟨_, _, _, _, _, _, _, _, _, _, rfl, _⟩ := h; rfl) | (obtain ⟨_, _, _, _, _, _, _, _, _, _, _, rfl, _⟩ := h; rfl) | (obtain ⟨_, _, _, _, _, _, _, _, _, _, _, _, rfl, _⟩ := h; rfl) | (obtain ⟨_, _, _, _, _, _, _, _, _, _, _, _, _, rfl, _⟩ := h; rfl)
theorem ok__law_read {P : Program} {w : World} {G : GG} {mg : Str → Option Value} {base : Heap} {f : Addr} {fd : FuncData} (T : Top P w G mg base) (F__law_escaped : FnE P w G.K mg base CX0 "_law_escaped" 2 ["text"] (sp__law_escaped G)) (F__law_signs : FnE P w G.K mg base CX0 "_law_signs" 1 [] (sp__law_signs G)) (F : Fun G.K "_law_read" "_law_read" s__law_read f fd) : FnOk P w G.K mg base CX0 3 f fd ["text"] (sp__law_read G) :=
  F.ok sc__law_read len__law_read fun cdv A outer s H vs Q E hr h => ⟨_, dv__law_read T F__law_escaped F__law_signs hr, rd__law_read T h⟩
theorem len_law {G : GG} : ∀ (vs : List V) (H : Hp) (Q : VK) (E : XK), sp_law G vs H Q E → vs.length = 1 := by
  intro vs H Q E h
  first | (obtain ⟨rfl, _⟩ := h; rfl) | (obtain ⟨_, rfl, _⟩ := h; rfl) | (obtain ⟨_, _, rfl, _⟩ := h; rfl) | (obtain ⟨_, _, _, rfl, _⟩ := h; rfl) | (obtain ⟨_, _, _, _, rfl, _⟩ := h; rfl) | (obtain ⟨_, _, _, _, _, rfl, _⟩ := h; rfl) | (obtain ⟨_, _, _, _, _, _, rfl, _⟩ := h; rfl) | (obtain ⟨_, _, _, _, _, _, _, rfl, _⟩ := h; rfl) | (obtain ⟨_, _, _, _, _, _, _, _, rfl, _⟩ := h; rfl) | (obtain ⟨_, _, _, _, _, _, _, _, _, rfl, _⟩ := h; rfl) | (obtain ⟨_, _, _, _, _, _, _, _, _, _, rfl, _⟩ := h; rfl) | (obtain ⟨_, _, _, _, _, _, _, _, _, _, _, rfl, _⟩ := h; rfl) | (obtain ⟨_, _, _, _, _, _, _, _, _, _, _, _, rfl, _⟩ := h; rfl) | (obtain ⟨_, _, _, _, _, _, _, _, _, _, _, _, _, rfl, _⟩ := h; rfl)
theorem ok_law {P : Program} {w : World} {G : GG} {mg : Str → Option Value} {base : Heap} {f : Addr} {fd : FuncData} (T : Top P w G mg base) (F__law_draw : FnE P w G.K mg base CX0 "_law_draw" 2 ["state", "script", "size"] (sp__law_draw G)) (F__law_escaped : FnE P w G.K mg base CX0 "_law_escaped" 2 ["text"] (sp__law_escaped G)) (F__law_read : FnE P w G.K mg base CX0 "_law_read" 3 ["text"] (sp__law_read G)) (F__law_text : FnE P w G.K mg base CX0 "_law_text" 4 ["state", "script", "least", "most"] (sp__law_text G)) (F_escape : FnE P w G.K mg base CX0 "escape" 3 ["text"] (sp_escape G)) (F_unescape : FnE P w G.K mg base CX0 "unescape" 5 ["text"] (sp_unescape G)) (F : Fun G.K "law" "law" s_law f fd) : FnOk P w G.K mg base CX0 6 f fd ["script"] (sp_law G) :=
  F.ok sc_law len_law fun cdv A outer s H vs Q E hr h => ⟨_, dv_law T F__law_draw F__law_escaped F__law_read F__law_text F_escape F_unescape hr, rd_law T h⟩
theorem all_mk {P : Program} {w : World} {K : PySem.W.Frag} {h : Heap} {mg : Str → Option Value} {fa f1 f2 f3 f4 f5 f6 f7 f8 f9 f10 f11 f12 f13 f14 f15 f16 : Addr} (X : K.In h) (G : h.Ns mainGlobals mg) (hfa : mg "law" = some (.ref fa))
    {od1 an1 : Option Addr} {sl1 : Array (Option Value)} {oc1 kV1 dc1 pm1 cd1 ct1 : Value} (a1 : PySem.W.nsIn K mainGlobals "char_of" = some (some (.ref f1))) (l1 : K.lookup f1 = some ⟨oc1, od1, .func (PySem.W.fnOf "char_of" "char_of" (defArgs s_char_of) (defBody s_char_of) (defScope s_char_of) .none kV1 dc1 pm1 an1 cd1 ct1), sl1⟩) (c1 : PySem.W.codeIn K cd1 "char_of" = true) (k1 : PySem.W.keepIn K (.ref f1) = true)
    {od2 an2 : Option Addr} {sl2 : Array (Option Value)} {oc2 kV2 dc2 pm2 cd2 ct2 : Value} (a2 : PySem.W.nsIn K mainGlobals "code_of" = some (some (.ref f2))) (l2 : K.lookup f2 = some ⟨oc2, od2, .func (PySem.W.fnOf "code_of" "code_of" (defArgs s_code_of) (defBody s_code_of) (defScope s_code_of) .none kV2 dc2 pm2 an2 cd2 ct2), sl2⟩) (c2 : PySem.W.codeIn K cd2 "code_of" = true) (k2 : PySem.W.keepIn K (.ref f2) = true)
    {od3 an3 : Option Addr} {sl3 : Array (Option Value)} {oc3 kV3 dc3 pm3 cd3 ct3 : Value} (a3 : PySem.W.nsIn K mainGlobals "encode_text" = some (some (.ref f3))) (l3 : K.lookup f3 = some ⟨oc3, od3, .func (PySem.W.fnOf "encode_text" "encode_text" (defArgs s_encode_text) (defBody s_encode_text) (defScope s_encode_text) .none kV3 dc3 pm3 an3 cd3 ct3), sl3⟩) (c3 : PySem.W.codeIn K cd3 "encode_text" = true) (k3 : PySem.W.keepIn K (.ref f3) = true)
    {od4 an4 : Option Addr} {sl4 : Array (Option Value)} {oc4 kV4 dc4 pm4 cd4 ct4 : Value} (a4 : PySem.W.nsIn K mainGlobals "decode_text" = some (some (.ref f4))) (l4 : K.lookup f4 = some ⟨oc4, od4, .func (PySem.W.fnOf "decode_text" "decode_text" (defArgs s_decode_text) (defBody s_decode_text) (defScope s_decode_text) .none kV4 dc4 pm4 an4 cd4 ct4), sl4⟩) (c4 : PySem.W.codeIn K cd4 "decode_text" = true) (k4 : PySem.W.keepIn K (.ref f4) = true)
    {od5 an5 : Option Addr} {sl5 : Array (Option Value)} {oc5 kV5 dc5 pm5 cd5 ct5 : Value} (a5 : PySem.W.nsIn K mainGlobals "escape" = some (some (.ref f5))) (l5 : K.lookup f5 = some ⟨oc5, od5, .func (PySem.W.fnOf "escape" "escape" (defArgs s_escape) (defBody s_escape) (defScope s_escape) .none kV5 dc5 pm5 an5 cd5 ct5), sl5⟩) (c5 : PySem.W.codeIn K cd5 "escape" = true) (k5 : PySem.W.keepIn K (.ref f5) = true)
    {od6 an6 : Option Addr} {sl6 : Array (Option Value)} {oc6 kV6 dc6 pm6 cd6 ct6 : Value} (a6 : PySem.W.nsIn K mainGlobals "escaped_octets" = some (some (.ref f6))) (l6 : K.lookup f6 = some ⟨oc6, od6, .func (PySem.W.fnOf "escaped_octets" "escaped_octets" (defArgs s_escaped_octets) (defBody s_escaped_octets) (defScope s_escaped_octets) .none kV6 dc6 pm6 an6 cd6 ct6), sl6⟩) (c6 : PySem.W.codeIn K cd6 "escaped_octets" = true) (k6 : PySem.W.keepIn K (.ref f6) = true)
    {od7 an7 : Option Addr} {sl7 : Array (Option Value)} {oc7 kV7 dc7 pm7 cd7 ct7 : Value} (a7 : PySem.W.nsIn K mainGlobals "unescape" = some (some (.ref f7))) (l7 : K.lookup f7 = some ⟨oc7, od7, .func (PySem.W.fnOf "unescape" "unescape" (defArgs s_unescape) (defBody s_unescape) (defScope s_unescape) .none kV7 dc7 pm7 an7 cd7 ct7), sl7⟩) (c7 : PySem.W.codeIn K cd7 "unescape" = true) (k7 : PySem.W.keepIn K (.ref f7) = true)
    {od8 an8 : Option Addr} {sl8 : Array (Option Value)} {oc8 kV8 dc8 pm8 cd8 ct8 : Value} (a8 : PySem.W.nsIn K mainGlobals "_law_refill" = some (some (.ref f8))) (l8 : K.lookup f8 = some ⟨oc8, od8, .func (PySem.W.fnOf "_law_refill" "_law_refill" (defArgs s__law_refill) (defBody s__law_refill) (defScope s__law_refill) .none kV8 dc8 pm8 an8 cd8 ct8), sl8⟩) (c8 : PySem.W.codeIn K cd8 "_law_refill" = true) (k8 : PySem.W.keepIn K (.ref f8) = true)
    {od9 an9 : Option Addr} {sl9 : Array (Option Value)} {oc9 kV9 dc9 pm9 cd9 ct9 : Value} (a9 : PySem.W.nsIn K mainGlobals "_law_draw" = some (some (.ref f9))) (l9 : K.lookup f9 = some ⟨oc9, od9, .func (PySem.W.fnOf "_law_draw" "_law_draw" (defArgs s__law_draw) (defBody s__law_draw) (defScope s__law_draw) .none kV9 dc9 pm9 an9 cd9 ct9), sl9⟩) (c9 : PySem.W.codeIn K cd9 "_law_draw" = true) (k9 : PySem.W.keepIn K (.ref f9) = true)
    {od10 an10 : Option Addr} {sl10 : Array (Option Value)} {oc10 kV10 dc10 pm10 cd10 ct10 : Value} (a10 : PySem.W.nsIn K mainGlobals "_law_pick" = some (some (.ref f10))) (l10 : K.lookup f10 = some ⟨oc10, od10, .func (PySem.W.fnOf "_law_pick" "_law_pick" (defArgs s__law_pick) (defBody s__law_pick) (defScope s__law_pick) .none kV10 dc10 pm10 an10 cd10 ct10), sl10⟩) (c10 : PySem.W.codeIn K cd10 "_law_pick" = true) (k10 : PySem.W.keepIn K (.ref f10) = true)
    {od11 an11 : Option Addr} {sl11 : Array (Option Value)} {oc11 kV11 dc11 pm11 cd11 ct11 : Value} (a11 : PySem.W.nsIn K mainGlobals "_law_signs" = some (some (.ref f11))) (l11 : K.lookup f11 = some ⟨oc11, od11, .func (PySem.W.fnOf "_law_signs" "_law_signs" (defArgs s__law_signs) (defBody s__law_signs) (defScope s__law_signs) .none kV11 dc11 pm11 an11 cd11 ct11), sl11⟩) (c11 : PySem.W.codeIn K cd11 "_law_signs" = true) (k11 : PySem.W.keepIn K (.ref f11) = true)
    {od12 an12 : Option Addr} {sl12 : Array (Option Value)} {oc12 kV12 dc12 pm12 cd12 ct12 : Value} (a12 : PySem.W.nsIn K mainGlobals "_law_code" = some (some (.ref f12))) (l12 : K.lookup f12 = some ⟨oc12, od12, .func (PySem.W.fnOf "_law_code" "_law_code" (defArgs s__law_code) (defBody s__law_code) (defScope s__law_code) .none kV12 dc12 pm12 an12 cd12 ct12), sl12⟩) (c12 : PySem.W.codeIn K cd12 "_law_code" = true) (k12 : PySem.W.keepIn K (.ref f12) = true)
    {od13 an13 : Option Addr} {sl13 : Array (Option Value)} {oc13 kV13 dc13 pm13 cd13 ct13 : Value} (a13 : PySem.W.nsIn K mainGlobals "_law_text" = some (some (.ref f13))) (l13 : K.lookup f13 = some ⟨oc13, od13, .func (PySem.W.fnOf "_law_text" "_law_text" (defArgs s__law_text) (defBody s__law_text) (defScope s__law_text) .none kV13 dc13 pm13 an13 cd13 ct13), sl13⟩) (c13 : PySem.W.codeIn K cd13 "_law_text" = true) (k13 : PySem.W.keepIn K (.ref f13) = true)
    {od14 an14 : Option Addr} {sl14 : Array (Option Value)} {oc14 kV14 dc14 pm14 cd14 ct14 : Value} (a14 : PySem.W.nsIn K mainGlobals "_law_escaped" = some (some (.ref f14))) (l14 : K.lookup f14 = some ⟨oc14, od14, .func (PySem.W.fnOf "_law_escaped" "_law_escaped" (defArgs s__law_escaped) (defBody s__law_escaped) (defScope s__law_escaped) .none kV14 dc14 pm14 an14 cd14 ct14), sl14⟩) (c14 : PySem.W.codeIn K cd14 "_law_escaped" = true) (k14 : PySem.W.keepIn K (.ref f14) = true)
    {od15 an15 : Option Addr} {sl15 : Array (Option Value)} {oc15 kV15 dc15 pm15 cd15 ct15 : Value} (a15 : PySem.W.nsIn K mainGlobals "_law_read" = some (some (.ref f15))) (l15 : K.lookup f15 = some ⟨oc15, od15, .func (PySem.W.fnOf "_law_read" "_law_read" (defArgs s__law_read) (defBody s__law_read) (defScope s__law_read) .none kV15 dc15 pm15 an15 cd15 ct15), sl15⟩) (c15 : PySem.W.codeIn K cd15 "_law_read" = true) (k15 : PySem.W.keepIn K (.ref f15) = true)
    {od16 an16 : Option Addr} {sl16 : Array (Option Value)} {oc16 kV16 dc16 pm16 cd16 ct16 : Value} (a16 : PySem.W.nsIn K mainGlobals "law" = some (some (.ref f16))) (l16 : K.lookup f16 = some ⟨oc16, od16, .func (PySem.W.fnOf "law" "law" (defArgs s_law) (defBody s_law) (defScope s_law) .none kV16 dc16 pm16 an16 cd16 ct16), sl16⟩) (c16 : PySem.W.codeIn K cd16 "law" = true) (k16 : PySem.W.keepIn K (.ref f16) = true)
    (b_int : PySem.W.nsIn K mainGlobals "int" = some none)
    (b_len : PySem.W.nsIn K mainGlobals "len" = some none)
    (b_ord : PySem.W.nsIn K mainGlobals "ord" = some none)
    (b_range : PySem.W.nsIn K mainGlobals "range" = some none)
    {k_BEFORE : Tok} (g_BEFORE : PySem.W.nsIn K mainGlobals "BEFORE" = some (some (.str " !\"#$" k_BEFORE)))
    {k_BEHIND : Tok} (g_BEHIND : PySem.W.nsIn K mainGlobals "BEHIND" = some (some (.str "&'()*+,-./0123456789:;<=>?@ABCDEFGHIJKLMNOPQRSTUVWXYZ[\\]^_`abcdefghijklmnopqrstuvwxyz{|}~" k_BEHIND)))
    {k_FIRST_BEHIND : Tok} (g_FIRST_BEHIND : PySem.W.nsIn K mainGlobals "FIRST_BEHIND" = some (some (.int 38 k_FIRST_BEHIND)))
    {k_HEXADECIMAL : Tok} (g_HEXADECIMAL : PySem.W.nsIn K mainGlobals "HEXADECIMAL" = some (some (.str "0123456789abcdef" k_HEXADECIMAL)))
    {k_LINE_FEED : Tok} (g_LINE_FEED : PySem.W.nsIn K mainGlobals "LINE_FEED" = some (some (.int 10 k_LINE_FEED)))
    {k_PLAIN : Tok} (g_PLAIN : PySem.W.nsIn K mainGlobals "PLAIN" = some (some (.str "abcdefghijklmnopqrstuvwxyzABCDEFGHIJKLMNOPQRSTUVWXYZ0123456789-_." k_PLAIN)))
    {k_TAB : Tok} (g_TAB : PySem.W.nsIn K mainGlobals "TAB" = some (some (.int 9 k_TAB)))
    {C_FormstripesError : Addr} (aC_FormstripesError : PySem.W.nsIn K mainGlobals "FormstripesError" = some (some (.ref C_FormstripesError)))
    {C_InvalidText : Addr} (aC_InvalidText : PySem.W.nsIn K mainGlobals "InvalidText" = some (some (.ref C_InvalidText)))
    {dT : Addr} {dcl dU : Value} {ddd : Option Addr} {dn : Nat} {dsl : Array (Option Value)} (d0 : K.lookup dT = some ⟨dcl, ddd, .seq #[dU] dn, dsl⟩)
    {fI_FormstripesError cc_FormstripesError cda_FormstripesError : Addr} {oc_FormstripesError kV_FormstripesError dc_FormstripesError pm_FormstripesError ct_FormstripesError : Value} {od_FormstripesError an_FormstripesError : Option Addr} {sl_FormstripesError : Array (Option Value)}
    (i0_FormstripesError : PySem.W.findIn K (.ref C_FormstripesError) "__init__" = some (some (.ref fI_FormstripesError))) (i1_FormstripesError : PySem.W.typeIn K (.ref fI_FormstripesError) = some (.type "function")) (i2_FormstripesError : PySem.W.fnIn K fI_FormstripesError = true)
    (i3_FormstripesError : K.lookup fI_FormstripesError = some ⟨oc_FormstripesError, od_FormstripesError, .func (PySem.W.ksFn "__init__" "FormstripesError.__init__" (defArgs s_FormstripesError___init__) (defBody s_FormstripesError___init__) (defScope s_FormstripesError___init__) (.ref dT) kV_FormstripesError dc_FormstripesError pm_FormstripesError an_FormstripesError (.ref cda_FormstripesError) ct_FormstripesError cc_FormstripesError), sl_FormstripesError⟩)
    (i4_FormstripesError : PySem.W.codeIn K (.ref cda_FormstripesError) "FormstripesError.__init__" = true) {ccl_FormstripesError cl_FormstripesError : Value} {cdd_FormstripesError cld_FormstripesError : Option Addr} {vs_FormstripesError : Array Value} {ccs_FormstripesError csl_FormstripesError : Array (Option Value)} {file_FormstripesError : Str} {tf_FormstripesError : Tok}
    (i5_FormstripesError : K.lookup cda_FormstripesError = some ⟨ccl_FormstripesError, cdd_FormstripesError, .fields vs_FormstripesError, ccs_FormstripesError⟩) (i6_FormstripesError : vs_FormstripesError[2]? = some (.str file_FormstripesError tf_FormstripesError)) (i7_FormstripesError : ((P.main.file : Str) == file_FormstripesError) = true)
    (i8_FormstripesError : K.lookup cc_FormstripesError = some ⟨cl_FormstripesError, cld_FormstripesError, .cell (some (.ref C_FormstripesError)), csl_FormstripesError⟩) {cd_FormstripesError : ClassData} (i9_FormstripesError : PySem.W.clsIn K C_FormstripesError = some cd_FormstripesError)
    {fI_InvalidText cc_InvalidText cda_InvalidText : Addr} {oc_InvalidText kV_InvalidText dc_InvalidText pm_InvalidText ct_InvalidText : Value} {od_InvalidText an_InvalidText : Option Addr} {sl_InvalidText : Array (Option Value)}
    (i0_InvalidText : PySem.W.findIn K (.ref C_InvalidText) "__init__" = some (some (.ref fI_InvalidText))) (i1_InvalidText : PySem.W.typeIn K (.ref fI_InvalidText) = some (.type "function")) (i2_InvalidText : PySem.W.fnIn K fI_InvalidText = true)
    (i3_InvalidText : K.lookup fI_InvalidText = some ⟨oc_InvalidText, od_InvalidText, .func (PySem.W.ksFn "__init__" "InvalidText.__init__" (defArgs s_InvalidText___init__) (defBody s_InvalidText___init__) (defScope s_InvalidText___init__) .none kV_InvalidText dc_InvalidText pm_InvalidText an_InvalidText (.ref cda_InvalidText) ct_InvalidText cc_InvalidText), sl_InvalidText⟩)
    (i4_InvalidText : PySem.W.codeIn K (.ref cda_InvalidText) "InvalidText.__init__" = true) {ccl_InvalidText cl_InvalidText : Value} {cdd_InvalidText cld_InvalidText : Option Addr} {vs_InvalidText : Array Value} {ccs_InvalidText csl_InvalidText : Array (Option Value)} {file_InvalidText : Str} {tf_InvalidText : Tok}
    (i5_InvalidText : K.lookup cda_InvalidText = some ⟨ccl_InvalidText, cdd_InvalidText, .fields vs_InvalidText, ccs_InvalidText⟩) (i6_InvalidText : vs_InvalidText[2]? = some (.str file_InvalidText tf_InvalidText)) (i7_InvalidText : ((P.main.file : Str) == file_InvalidText) = true)
    (i8_InvalidText : K.lookup cc_InvalidText = some ⟨cl_InvalidText, cld_InvalidText, .cell (some (.ref C_InvalidText)), csl_InvalidText⟩) {cd_InvalidText : ClassData} (i9_InvalidText : PySem.W.clsIn K C_InvalidText = some cd_InvalidText)
    (zs : PySem.W.nsIn K mainGlobals "super" = some none) (zt : (P.main.scope.names.lookup ("super" : Str)).isSome = false) (z3 : PySem.W.nsIn K cStatics "thirdparty.any" = some none)
    {nm_InvalidText q_InvalidText : Str} {Nn_InvalidText : Addr} {bs_InvalidText bm_InvalidText : List Value} {sn_InvalidText : List Str} {sub_InvalidText : List Value} {ab_InvalidText : Bool} {col_InvalidText : Option Bool} {ddd_InvalidText : Option Addr} {k0_InvalidText k1_InvalidText k2_InvalidText k3_InvalidText k5_InvalidText : Option Value}
    (j0_InvalidText : K.lookup C_InvalidText = some (excClassObj nm_InvalidText q_InvalidText C_InvalidText Nn_InvalidText bs_InvalidText bm_InvalidText true sn_InvalidText sub_InvalidText ab_InvalidText col_InvalidText ddd_InvalidText k0_InvalidText k1_InvalidText k2_InvalidText k3_InvalidText k5_InvalidText "ValueError.__new__")) (j1_InvalidText : PySem.HandSPX.refsVE bm_InvalidText = true)
    (j2_InvalidText : PySem.W.findIn K (.ref C_InvalidText) "__setattr__" = some (some (.builtin "object.__setattr__"))) (j3_InvalidText : PySem.W.subIn K (.ref C_InvalidText) (.type "BaseException") = some true) (j4_InvalidText : PySem.W.typeIn K (.ref C_InvalidText) = some (.type "type")) (j5_InvalidText : PySem.W.keepIn K (.ref C_InvalidText) = true)
    (j6_InvalidText : PySem.W.mroIn K C_InvalidText (.ref C_InvalidText) = some true) (j7_InvalidText : PySem.W.mroIn K C_InvalidText (.ref C_FormstripesError) = some true) (j8_InvalidText : PySem.W.findIn K (.ref C_InvalidText) "place" = some none) (j9_InvalidText : PySem.W.findIn K (.ref C_InvalidText) "name" = some none)
    (l0_InvalidText : PySem.W.ks_superIn K C_InvalidText C_FormstripesError "__init__" = some (some (.builtin "ValueError.__init__"))) (l1_InvalidText : PySem.W.subIn K (.ref C_InvalidText) (.type "ValueError") = some true) (l2_InvalidText : PySem.W.ks_superIn K C_InvalidText C_InvalidText "__init__" = some (some (.ref fI_FormstripesError)))
    (l3_InvalidText : PySem.W.findIn K (.ref C_InvalidText) "__getattribute__" = some (some (.builtin "BaseException.__getattribute__"))) (l4_InvalidText : PySem.W.findIn K (.ref C_InvalidText) "__getattr__" = some none) (l5_InvalidText : PySem.W.hasDictIn K C_InvalidText = true)
    (m0_InvalidText : PySem.W.findIn K (.ref C_InvalidText) "__class__" = some (some (.builtin "object.__class__"))) (m3_InvalidText : PySem.W.mroIn K C_InvalidText (.type "object") = some true)
    (em_InvalidText_FormstripesError : PySem.W.exmOne K (.ref C_InvalidText) (.ref C_FormstripesError) = some true) (ko_InvalidText_FormstripesError : PySem.W.kitOne K (.ref C_InvalidText) (.ref C_FormstripesError) = some true)
    (em_InvalidText_InvalidText : PySem.W.exmOne K (.ref C_InvalidText) (.ref C_InvalidText) = some true) (ko_InvalidText_InvalidText : PySem.W.kitOne K (.ref C_InvalidText) (.ref C_InvalidText) = some true)
    (m1 : PySem.W.specialIn K (.builtin "object.__class__") "__get__" = some (some (.builtin "getset_descriptor.__get__"))) (m2 : PySem.W.takesIn K (.builtin "object.__class__") = some true) :
    ∃ fd : FuncData, (∀ (s : Shared) (v : Value), BindsTo s fd ⟨[v], []⟩ [("script", v)]) ∧ ∀ base : Heap, K.In base → base.Ns mainGlobals mg → FnOk P w K mg base CX0 6 fa fd ["script"] (spLawS K) := by
  have e := hfa.symm.trans (PySem.W.mg_of X G a16)
  cases e
  have F1 := fun_mk (st := s_char_of) l1 c1 k1
  have F2 := fun_mk (st := s_code_of) l2 c2 k2
  have F3 := fun_mk (st := s_encode_text) l3 c3 k3
  have F4 := fun_mk (st := s_decode_text) l4 c4 k4
  have F5 := fun_mk (st := s_escape) l5 c5 k5
  have F6 := fun_mk (st := s_escaped_octets) l6 c6 k6
  have F7 := fun_mk (st := s_unescape) l7 c7 k7
  have F8 := fun_mk (st := s__law_refill) l8 c8 k8
  have F9 := fun_mk (st := s__law_draw) l9 c9 k9
  have F10 := fun_mk (st := s__law_pick) l10 c10 k10
  have F11 := fun_mk (st := s__law_signs) l11 c11 k11
  have F12 := fun_mk (st := s__law_code) l12 c12 k12
  have F13 := fun_mk (st := s__law_text) l13 c13 k13
  have F14 := fun_mk (st := s__law_escaped) l14 c14 k14
  have F15 := fun_mk (st := s__law_read) l15 c15 k15
  have F16 := fun_mk (st := s_law) l16 c16 k16
  refine ⟨_, fun s v => .of_eq (fd := PySem.W.fnOf "law" "law" (defArgs s_law) (defBody s_law) (defScope s_law) .none kV16 dc16 pm16 an16 cd16 ct16) rfl, fun base KB GB => ?_⟩
  have S_FormstripesError : SupF P K mg "__init__" "FormstripesError.__init__" s_FormstripesError___init__ fI_FormstripesError C_FormstripesError _ cda_FormstripesError cc_FormstripesError := ⟨⟨_, _, _, _, _, _, _, _, _, rfl, i3_FormstripesError⟩, i4_FormstripesError, ⟨_, _, _, _, _, _, i5_FormstripesError, i6_FormstripesError, i7_FormstripesError⟩, ⟨_, _, _, i8_FormstripesError⟩, ⟨_, i9_FormstripesError⟩, PySem.W.mg_none_of X G zs, zt, z3⟩
  have B0 : Binds K _ ["self", "place", "name"] [] := binds_dfl (fd := PySem.W.ksFn "__init__" "FormstripesError.__init__" (defArgs s_FormstripesError___init__) (defBody s_FormstripesError___init__) (defScope s_FormstripesError___init__) (.ref dT) kV_FormstripesError dc_FormstripesError pm_FormstripesError an_FormstripesError (.ref cda_FormstripesError) ct_FormstripesError cc_FormstripesError) d0 rfl fun us hl => match us, hl with | [_, _, _], _ => ⟨_, rfl, rfl⟩
  have I0 := ok_form (w := w) (base := base) (CX := CX0) (pl := _) S_FormstripesError (NdefX.nscope_by (by decide +kernel)) rfl (fun _ => rfl) rfl rfl (by decide +kernel) (by decide +kernel)
  have S_InvalidText : SupF P K mg "__init__" "InvalidText.__init__" s_InvalidText___init__ fI_InvalidText C_InvalidText _ cda_InvalidText cc_InvalidText := ⟨⟨_, _, _, _, _, _, _, _, _, rfl, i3_InvalidText⟩, i4_InvalidText, ⟨_, _, _, _, _, _, i5_InvalidText, i6_InvalidText, i7_InvalidText⟩, ⟨_, _, _, i8_InvalidText⟩, ⟨_, i9_InvalidText⟩, PySem.W.mg_none_of X G zs, zt, z3⟩
  have ox_InvalidText : OexC K C_InvalidText := ⟨⟨nm_InvalidText, q_InvalidText, Nn_InvalidText, bs_InvalidText, bm_InvalidText, sn_InvalidText, sub_InvalidText, ab_InvalidText, col_InvalidText, ddd_InvalidText, k0_InvalidText, k1_InvalidText, k2_InvalidText, k3_InvalidText, k5_InvalidText, j0_InvalidText, j1_InvalidText⟩, j2_InvalidText, j3_InvalidText, j4_InvalidText, j5_InvalidText⟩
  have B_InvalidText : Binds K _ ["self", "place"] [] := .all (fd := PySem.W.ksFn "__init__" "InvalidText.__init__" (defArgs s_InvalidText___init__) (defBody s_InvalidText___init__) (defScope s_InvalidText___init__) .none kV_InvalidText dc_InvalidText pm_InvalidText an_InvalidText (.ref cda_InvalidText) ct_InvalidText cc_InvalidText) fun us hl => match us, hl with | [_, _], _ => rfl
  have N_InvalidText : KinE P w K mg base "InvalidText" C_InvalidText C_FormstripesError "InvalidText" := ⟨⟨fI_InvalidText, _, i0_InvalidText, i1_InvalidText, ok_kin (pl := _) (nm := "InvalidText") S_InvalidText (NdefX.nscope_by (by decide +kernel)) rfl (fun _ => rfl) rfl rfl (by decide +kernel) (by decide +kernel) ⟨ox_InvalidText, j6_InvalidText⟩ ⟨⟨ox_InvalidText, j7_InvalidText⟩, j8_InvalidText, j9_InvalidText, l0_InvalidText, l1_InvalidText⟩ l2_InvalidText i1_FormstripesError i2_FormstripesError I0 B0, B_InvalidText⟩, ox_InvalidText, PySem.W.mg_of X G aC_InvalidText⟩
  have xf_InvalidText : XfC K C_InvalidText := ⟨l3_InvalidText, l4_InvalidText, j3_InvalidText, l5_InvalidText⟩
  have xc_InvalidText : ExcC K C_InvalidText := ⟨l3_InvalidText, l4_InvalidText, j3_InvalidText, l5_InvalidText, m0_InvalidText, m1, m2, m3_InvalidText⟩
  have T : Top P w ⟨K, C_FormstripesError, C_InvalidText⟩ mg base := ⟨True.intro, PySem.W.mg_none_of X G b_int, PySem.W.mg_none_of X G b_len, PySem.W.mg_none_of X G b_ord, PySem.W.mg_none_of X G b_range, ⟨_, PySem.W.mg_of X G g_BEFORE, ⟨_, rfl⟩⟩, ⟨_, PySem.W.mg_of X G g_BEHIND, ⟨_, rfl⟩⟩, ⟨_, PySem.W.mg_of X G g_FIRST_BEHIND, ⟨_, rfl⟩⟩, ⟨_, PySem.W.mg_of X G g_HEXADECIMAL, ⟨_, rfl⟩⟩, ⟨_, PySem.W.mg_of X G g_LINE_FEED, ⟨_, rfl⟩⟩, ⟨_, PySem.W.mg_of X G g_PLAIN, ⟨_, rfl⟩⟩, ⟨_, PySem.W.mg_of X G g_TAB, ⟨_, rfl⟩⟩, PySem.W.mg_of X G aC_FormstripesError, PySem.W.mg_of X G aC_InvalidText, N_InvalidText, xf_InvalidText, xc_InvalidText, j8_InvalidText, j9_InvalidText, em_InvalidText_FormstripesError, ko_InvalidText_FormstripesError, em_InvalidText_InvalidText, ko_InvalidText_InvalidText⟩
  have E_char_of : FnE P w K mg base CX0 "char_of" 1 ["code"] (sp_char_of ⟨K, C_FormstripesError, C_InvalidText⟩) := ⟨_, _, PySem.W.mg_of X G a1, k1, F1.binds (ps := ["code"]) fun _ _ _ _ _ _ us hl => match us, hl with | [_], _ => rfl, ok_char_of (G := ⟨K, C_FormstripesError, C_InvalidText⟩) T F1⟩
  have E_code_of : FnE P w K mg base CX0 "code_of" 1 ["char"] (sp_code_of ⟨K, C_FormstripesError, C_InvalidText⟩) := ⟨_, _, PySem.W.mg_of X G a2, k2, F2.binds (ps := ["char"]) fun _ _ _ _ _ _ us hl => match us, hl with | [_], _ => rfl, ok_code_of (G := ⟨K, C_FormstripesError, C_InvalidText⟩) T F2⟩
  have E_encode_text : FnE P w K mg base CX0 "encode_text" 2 ["text"] (sp_encode_text ⟨K, C_FormstripesError, C_InvalidText⟩) := ⟨_, _, PySem.W.mg_of X G a3, k3, F3.binds (ps := ["text"]) fun _ _ _ _ _ _ us hl => match us, hl with | [_], _ => rfl, ok_encode_text (G := ⟨K, C_FormstripesError, C_InvalidText⟩) T E_code_of F3⟩
  have E_decode_text : FnE P w K mg base (L2.CX P w) "decode_text" 4 ["octets"] (sp_decode_text ⟨K, C_FormstripesError, C_InvalidText⟩) := ⟨_, _, PySem.W.mg_of X G a4, k4, F4.binds (ps := ["octets"]) fun _ _ _ _ _ _ us hl => match us, hl with | [_], _ => rfl, ok_decode_text (G := ⟨K, C_FormstripesError, C_InvalidText⟩) T E_char_of F4⟩
  have E_escape : FnE P w K mg base CX0 "escape" 3 ["text"] (sp_escape ⟨K, C_FormstripesError, C_InvalidText⟩) := ⟨_, _, PySem.W.mg_of X G a5, k5, F5.binds (ps := ["text"]) fun _ _ _ _ _ _ us hl => match us, hl with | [_], _ => rfl, ok_escape (G := ⟨K, C_FormstripesError, C_InvalidText⟩) T E_char_of E_encode_text F5⟩
  have E_escaped_octets : FnE P w K mg base CX0 "escaped_octets" 1 ["text"] (sp_escaped_octets ⟨K, C_FormstripesError, C_InvalidText⟩) := ⟨_, _, PySem.W.mg_of X G a6, k6, F6.binds (ps := ["text"]) fun _ _ _ _ _ _ us hl => match us, hl with | [_], _ => rfl, ok_escaped_octets (G := ⟨K, C_FormstripesError, C_InvalidText⟩) T F6⟩
  have E_unescape : FnE P w K mg base CX0 "unescape" 5 ["text"] (sp_unescape ⟨K, C_FormstripesError, C_InvalidText⟩) := ⟨_, _, PySem.W.mg_of X G a7, k7, F7.binds (ps := ["text"]) fun _ _ _ _ _ _ us hl => match us, hl with | [_], _ => rfl, ok_unescape (G := ⟨K, C_FormstripesError, C_InvalidText⟩) T E_decode_text E_escape E_escaped_octets F7⟩
  have E__law_refill : FnE P w K mg base CX0 "_law_refill" 1 ["script", "k"] (sp__law_refill ⟨K, C_FormstripesError, C_InvalidText⟩) := ⟨_, _, PySem.W.mg_of X G a8, k8, F8.binds (ps := ["script", "k"]) fun _ _ _ _ _ _ us hl => match us, hl with | [_, _], _ => rfl, ok__law_refill (G := ⟨K, C_FormstripesError, C_InvalidText⟩) T F8⟩
  have E__law_draw : FnE P w K mg base CX0 "_law_draw" 2 ["state", "script", "size"] (sp__law_draw ⟨K, C_FormstripesError, C_InvalidText⟩) := ⟨_, _, PySem.W.mg_of X G a9, k9, F9.binds (ps := ["state", "script", "size"]) fun _ _ _ _ _ _ us hl => match us, hl with | [_, _, _], _ => rfl, ok__law_draw (G := ⟨K, C_FormstripesError, C_InvalidText⟩) T E__law_refill F9⟩
  have E__law_pick : FnE P w K mg base CX0 "_law_pick" 3 ["state", "script", "signs"] (sp__law_pick ⟨K, C_FormstripesError, C_InvalidText⟩) := ⟨_, _, PySem.W.mg_of X G a10, k10, F10.binds (ps := ["state", "script", "signs"]) fun _ _ _ _ _ _ us hl => match us, hl with | [_, _, _], _ => rfl, ok__law_pick (G := ⟨K, C_FormstripesError, C_InvalidText⟩) T E__law_draw F10⟩
  have E__law_signs : FnE P w K mg base CX0 "_law_signs" 1 [] (sp__law_signs ⟨K, C_FormstripesError, C_InvalidText⟩) := ⟨_, _, PySem.W.mg_of X G a11, k11, F11.binds (ps := []) fun _ _ _ _ _ _ us hl => match us, hl with | [], _ => rfl, ok__law_signs (G := ⟨K, C_FormstripesError, C_InvalidText⟩) T F11⟩
  have E__law_code : FnE P w K mg base CX0 "_law_code" 1 ["sign"] (sp__law_code ⟨K, C_FormstripesError, C_InvalidText⟩) := ⟨_, _, PySem.W.mg_of X G a12, k12, F12.binds (ps := ["sign"]) fun _ _ _ _ _ _ us hl => match us, hl with | [_], _ => rfl, ok__law_code (G := ⟨K, C_FormstripesError, C_InvalidText⟩) T F12⟩
  have E__law_text : FnE P w K mg base CX0 "_law_text" 4 ["state", "script", "least", "most"] (sp__law_text ⟨K, C_FormstripesError, C_InvalidText⟩) := ⟨_, _, PySem.W.mg_of X G a13, k13, F13.binds (ps := ["state", "script", "least", "most"]) fun _ _ _ _ _ _ us hl => match us, hl with | [_, _, _, _], _ => rfl, ok__law_text (G := ⟨K, C_FormstripesError, C_InvalidText⟩) T E__law_draw E__law_pick E__law_signs F13⟩
  have E__law_escaped : FnE P w K mg base CX0 "_law_escaped" 2 ["text"] (sp__law_escaped ⟨K, C_FormstripesError, C_InvalidText⟩) := ⟨_, _, PySem.W.mg_of X G a14, k14, F14.binds (ps := ["text"]) fun _ _ _ _ _ _ us hl => match us, hl with | [_], _ => rfl, ok__law_escaped (G := ⟨K, C_FormstripesError, C_InvalidText⟩) T E__law_code F14⟩
  have E__law_read : FnE P w K mg base CX0 "_law_read" 3 ["text"] (sp__law_read ⟨K, C_FormstripesError, C_InvalidText⟩) := ⟨_, _, PySem.W.mg_of X G a15, k15, F15.binds (ps := ["text"]) fun _ _ _ _ _ _ us hl => match us, hl with | [_], _ => rfl, ok__law_read (G := ⟨K, C_FormstripesError, C_InvalidText⟩) T E__law_escaped E__law_signs F15⟩
  exact lawS (ok_law (G := ⟨K, C_FormstripesError, C_InvalidText⟩) T E__law_draw E__law_escaped E__law_read E__law_text E_escape E_unescape F16)
theorem walk {l : PySem.W.OpenLaw} {q : Program} {loose : List Str} {XP : (Str → Option Value) → Heap → Prop} {YP : World → Heap → Prop} {d : DefRec} {K : Params → PySem.W.Frag} (hn : l.most = some 63) (hdf : d.params.defaults = [])
    (hY : ∀ (w : World) (h : Heap), YP w h → (K w.params).In h)
    (F : ∀ (w : World) (mg : Str → Option Value) (fa : Addr) (h : Heap), (K w.params).In h → h.Ns mainGlobals mg → mg d.name = some (.ref fa) →
      ∃ fd : FuncData, (∀ (s : Shared) (u : Value), BindsTo s fd ⟨[u], []⟩ [("script", u)]) ∧ ∀ base : Heap, (K w.params).In base → base.Ns mainGlobals mg → FnOk l.prog w (K w.params) mg base CX0 6 fa fd ["script"] (spLawS (K w.params))) :
    PySem.W.WalkO q loose XP YP l.row.toRowW d [] (fun f vs => PySem.call f vs) :=
  L2.walk_of (n := 63) (k := 6) (x := "script") (CX := fun _ => CX0) (sp := fun w => spLawS (K w.params)) hn (by decide) hdf ⟨rfl, by decide, by decide⟩ hY F (fun _ _ a ns hl _ hS => ⟨a, ns, rfl, hS, hl, fun _ => rfl⟩) fun _ _ _ _ _ z => z
end My

open PySem PySem.W PyProof.Rows in
set_option maxRecDepth 100000 in
set_option maxHeartbeats 0 in
theorem PySem.Challenge.cw_formstripes_k62_escaped_texts_holds : PySem.Challenge.rw_formstripes_k62_escaped_texts.Holds := by
  w_on; o_law; k_head; (case hw => w_witness2)
  k_fill
  refine My.walk (l := PySem.Challenge.rw_formstripes_k62_escaped_texts) rfl rfl (fun w h Y => PySem.W.kIn_of Y) ?F
  case F =>
    intro w mg fa h KX G hmg
    refine' My.all_mk KX G hmg ?a1 ?l1 ?c1 ?k1 ?a2 ?l2 ?c2 ?k2 ?a3 ?l3 ?c3 ?k3 ?a4 ?l4 ?c4 ?k4 ?a5 ?l5 ?c5 ?k5 ?a6 ?l6 ?c6 ?k6 ?a7 ?l7 ?c7 ?k7 ?a8 ?l8 ?c8 ?k8 ?a9 ?l9 ?c9 ?k9 ?a10 ?l10 ?c10 ?k10 ?a11 ?l11 ?c11 ?k11 ?a12 ?l12 ?c12 ?k12 ?a13 ?l13 ?c13 ?k13 ?a14 ?l14 ?c14 ?k14 ?a15 ?l15 ?c15 ?k15 ?a16 ?l16 ?c16 ?k16 ?b_int ?b_len ?b_ord ?b_range ?g_BEFORE ?g_BEHIND ?g_FIRST_BEHIND ?g_HEXADECIMAL ?g_LINE_FEED ?g_PLAIN ?g_TAB ?aC_FormstripesError ?aC_InvalidText ?d0 ?i0_FormstripesError ?i1_FormstripesError ?i2_FormstripesError ?i3_FormstripesError ?i4_FormstripesError ?i5_FormstripesError ?i6_FormstripesError ?i7_FormstripesError ?i8_FormstripesError ?i9_FormstripesError ?i0_InvalidText ?i1_InvalidText ?i2_InvalidText ?i3_InvalidText ?i4_InvalidText ?i5_InvalidText ?i6_InvalidText ?i7_InvalidText ?i8_InvalidText ?i9_InvalidText ?zs ?zt ?z3 ?j0_InvalidText ?j1_InvalidText ?j2_InvalidText ?j3_InvalidText ?j4_InvalidText ?j5_InvalidText ?j6_InvalidText ?j7_InvalidText ?j8_InvalidText ?j9_InvalidText ?l0_InvalidText ?l1_InvalidText ?l2_InvalidText ?l3_InvalidText ?l4_InvalidText ?l5_InvalidText ?m0_InvalidText ?m3_InvalidText ?em_InvalidText_FormstripesError ?ko_InvalidText_FormstripesError ?em_InvalidText_InvalidText ?ko_InvalidText_InvalidText ?m1 ?m2
    (case a1 => first | k_is | kernel_rfl)
    (case l1 => first | k_is | kernel_rfl)
    (case c1 => first | k_is | kernel_rfl)
    (case k1 => first | k_is | kernel_rfl)
    (case a2 => first | k_is | kernel_rfl)
    (case l2 => first | k_is | kernel_rfl)
    (case c2 => first | k_is | kernel_rfl)
    (case k2 => first | k_is | kernel_rfl)
    (case a3 => first | k_is | kernel_rfl)
    (case l3 => first | k_is | kernel_rfl)
    (case c3 => first | k_is | kernel_rfl)
    (case k3 => first | k_is | kernel_rfl)
    (case a4 => first | k_is | kernel_rfl)
    (case l4 => first | k_is | kernel_rfl)
    (case c4 => first | k_is | kernel_rfl)
    (case k4 => first | k_is | kernel_rfl)
    (case a5 => first | k_is | kernel_rfl)
    (case l5 => first | k_is | kernel_rfl)
    (case c5 => first | k_is | kernel_rfl)
    (case k5 => first | k_is | kernel_rfl)
    (case a6 => first | k_is | kernel_rfl)
    (case l6 => first | k_is | kernel_rfl)
    (case c6 => first | k_is | kernel_rfl)
    (case k6 => first | k_is | kernel_rfl)
    (case a7 => first | k_is | kernel_rfl)
    (case l7 => first | k_is | kernel_rfl)
    (case c7 => first | k_is | kernel_rfl)
    (case k7 => first | k_is | kernel_rfl)
    (case a8 => first | k_is | kernel_rfl)
    (case l8 => first | k_is | kernel_rfl)
    (case c8 => first | k_is | kernel_rfl)
    (case k8 => first | k_is | kernel_rfl)
    (case a9 => first | k_is | kernel_rfl)
    (case l9 => first | k_is | kernel_rfl)
    (case c9 => first | k_is | kernel_rfl)
    (case k9 => first | k_is | kernel_rfl)
    (case a10 => first | k_is | kernel_rfl)
    (case l10 => first | k_is | kernel_rfl)
    (case c10 => first | k_is | kernel_rfl)
    (case k10 => first | k_is | kernel_rfl)
    (case a11 => first | k_is | kernel_rfl)
    (case l11 => first | k_is | kernel_rfl)
    (case c11 => first | k_is | kernel_rfl)
    (case k11 => first | k_is | kernel_rfl)
    (case a12 => first | k_is | kernel_rfl)
    (case l12 => first | k_is | kernel_rfl)
    (case c12 => first | k_is | kernel_rfl)
    (case k12 => first | k_is | kernel_rfl)
    (case a13 => first | k_is | kernel_rfl)
    (case l13 => first | k_is | kernel_rfl)
    (case c13 => first | k_is | kernel_rfl)
    (case k13 => first | k_is | kernel_rfl)
    (case a14 => first | k_is | kernel_rfl)
    (case l14 => first | k_is | kernel_rfl)
    (case c14 => first | k_is | kernel_rfl)
    (case k14 => first | k_is | kernel_rfl)
    (case a15 => first | k_is | kernel_rfl)
    (case l15 => first | k_is | kernel_rfl)
    (case c15 => first | k_is | kernel_rfl)
    (case k15 => first | k_is | kernel_rfl)
    (case a16 => first | k_is | kernel_rfl)
    (case l16 => first | k_is | kernel_rfl)
    (case c16 => first | k_is | kernel_rfl)
    (case k16 => first | k_is | kernel_rfl)
    (case b_int => first | k_is | kernel_rfl)
    (case b_len => first | k_is | kernel_rfl)
    (case b_ord => first | k_is | kernel_rfl)
    (case b_range => first | k_is | kernel_rfl)
    (case g_BEFORE => first | k_is | kernel_rfl)
    (case g_BEHIND => first | k_is | kernel_rfl)
    (case g_FIRST_BEHIND => first | k_is | kernel_rfl)
    (case g_HEXADECIMAL => first | k_is | kernel_rfl)
    (case g_LINE_FEED => first | k_is | kernel_rfl)
    (case g_PLAIN => first | k_is | kernel_rfl)
    (case g_TAB => first | k_is | kernel_rfl)
    (case aC_FormstripesError => first | k_is | kernel_rfl)
    (case aC_InvalidText => first | k_is | kernel_rfl)
    (case i0_FormstripesError => first | k_is | kernel_rfl)
    (case i1_FormstripesError => first | k_is | kernel_rfl)
    (case i2_FormstripesError => first | k_is | kernel_rfl)
    (case i3_FormstripesError => first | k_is | kernel_rfl)
    (case i4_FormstripesError => first | k_is | kernel_rfl)
    (case i5_FormstripesError => first | k_is | kernel_rfl)
    (case i6_FormstripesError => rfl)
    (case i7_FormstripesError => first | rfl | decide +kernel)
    (case i8_FormstripesError => first | k_is | kernel_rfl)
    (case i9_FormstripesError => first | k_is | kernel_rfl)
    (case i0_InvalidText => first | k_is | kernel_rfl)
    (case i1_InvalidText => first | k_is | kernel_rfl)
    (case i2_InvalidText => first | k_is | kernel_rfl)
    (case i3_InvalidText => first | k_is | kernel_rfl)
    (case i4_InvalidText => first | k_is | kernel_rfl)
    (case i5_InvalidText => first | k_is | kernel_rfl)
    (case i6_InvalidText => rfl)
    (case i7_InvalidText => first | rfl | decide +kernel)
    (case i8_InvalidText => first | k_is | kernel_rfl)
    (case i9_InvalidText => first | k_is | kernel_rfl)
    (case zs => first | k_is | kernel_rfl)
    (case zt => first | rfl | decide +kernel)
    (case z3 => first | k_is | kernel_rfl)
    (case j0_InvalidText => first | k_is | kernel_rfl)
    (case j1_InvalidText => first | rfl | decide +kernel)
    (case j2_InvalidText => first | k_is | kernel_rfl)
    (case j3_InvalidText => first | k_is | kernel_rfl)
    (case j4_InvalidText => first | k_is | kernel_rfl)
    (case j5_InvalidText => first | k_is | kernel_rfl)
    (case j6_InvalidText => first | k_is | kernel_rfl)
    (case j7_InvalidText => first | k_is | kernel_rfl)
    (case j8_InvalidText => first | k_is | kernel_rfl)
    (case j9_InvalidText => first | k_is | kernel_rfl)
    (case l0_InvalidText => ks_is)
    (case l1_InvalidText => first | k_is | kernel_rfl)
    (case l2_InvalidText => ks_is)
    (case l3_InvalidText => first | k_is | kernel_rfl)
    (case l4_InvalidText => first | k_is | kernel_rfl)
    (case l5_InvalidText => first | k_is | kernel_rfl)
    (case m0_InvalidText => first | k_is | kernel_rfl)
    (case m3_InvalidText => first | k_is | kernel_rfl)
    (case em_InvalidText_FormstripesError => first | k_is | kx_is | rfl | kernel_rfl)
    (case ko_InvalidText_FormstripesError => kit_is)
    (case em_InvalidText_InvalidText => first | k_is | kx_is | rfl | kernel_rfl)
    (case ko_InvalidText_InvalidText => kit_is)
    (case m1 => first | k_is | kernel_rfl)
    (case m2 => first | k_is | kernel_rfl)
    (case d0 => k_is)

