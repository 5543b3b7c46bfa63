import PyProof.Rows.All
import Wide.All
import OpenK.AllK
import Wide.FinOn
import HandS.ForMost
import HandS.ForExc
import HandS.IsInst
import HandS.More
import HandS.Defaults
import HandS.Property
import HandS.CallSlots
import HandS.HeadHook3
import HandS.Conv
import HandS.TupAny
import HandS.Wide
import HandS.Flow
import HandS.Deep
import HandS.Star
import KE.KCallOwn
import HandS.HeadWalk
import HandS.Head0
import HandS.Head1
import HandS.Head2
import HandS.EndBits
import KE.BitLaws
import PySem.Challenge.RW_modesdown_k07_clauses_done
set_option Elab.async false
set_option linter.all false
set_option maxRecDepth 100000
set_option maxHeartbeats 0
namespace U
open PySem PySem.Spec PyProof.Rows L2
/-- a text by its code points -/
abbrev S (l : List Nat) : Str := ⟨⟨l⟩⟩

/-! ### readings of operators, by values -/
def eqS : V → V → Bool
  | .non, .non => true
  | .bl a, .bl b => a == b
  | .int a, .int b => a == b
  | .str a, .str b => a == b
  | .byt a, .byt b => decide (a = b)
  | _, _ => false
theorem eqS_dec (x y : V) (h : scal x y = true) : eqS x y = decide (x = y) := by
  cases x <;> cases y <;> first
    | exact dec_int.symm
    | exact dec_bl.symm
    | exact dec_str.symm
    | rfl
    | (simp [eqS, scal] at h ⊢)

def rAddU (K : PySem.W.Frag) : R2 := fun x y H Q => match x, y with
  | .int i, .int j => Q (.int (i + j)) H
  | .int i, .bl k => Q (.int (i + b2i k)) H
  | .str i, .str j => i.length + j.length ≤ sizeLine ∧ Q (.str (i ++ j)) H
  | .ref a, .ref b => rCat (.ref a) (.ref b) H Q ∨ rCatA K (.ref a) (.ref b) H Q
  | _, _ => False
def rII (C : Int → Int → Prop) (g : Int → Int → V) : R2 := fun x y H Q => match x, y with
  | .int i, .int j => C i j ∧ Q (g i j) H
  | _, _ => False
def rII0 (g : Int → Int → V) : R2 := fun x y H Q => match x, y with
  | .int i, .int j => Q (g i j) H
  | _, _ => False
def rMulU (K : PySem.W.Frag) : R2 := fun x y H Q => match x, y with
  | .int i, .int j => (CMul i j ∨ CMulW i j) ∧ Q (.int (i * j)) H
  | .ref a, .int k => rRep (.ref a) (.int k) H Q
  | _, _ => False
def CDivU (i j : Int) : Prop := CDiv i j ∨ CDivW i j
section
variable {X : Cx}
theorem opOr {f : Value → Value → Sem Value} {r r' : R2} (h : OpR X f r) (h' : OpR X f r') : OpR X f (fun x y H Q => r x y H Q ∨ r' x y H Q) := by
  intro pins s σ H x y v u Q I rx ry q
  rcases q with q | q
  · exact h pins s σ H x y v u Q I rx ry q
  · exact h' pins s σ H x y v u Q I rx ry q
theorem opImp {f : Value → Value → Sem Value} {r r' : R2} (h : OpR X f r) (k : ∀ x y H Q, r' x y H Q → r x y H Q) : OpR X f r' :=
  fun pins s σ H x y v u Q I rx ry q => h pins s σ H x y v u Q I rx ry (k _ _ _ _ q)
theorem callOr {f : Value} {r r' : List V → Hp → VK → Prop} (h : CallR X f r) (h' : CallR X f r') : CallR X f (fun xs H Q => r xs H Q ∨ r' xs H Q) := by
  intro pins s σ H xs us Q I r q
  rcases q with q | q
  · exact h pins s σ H xs us Q I r q
  · exact h' pins s σ H xs us Q I r q
theorem callImp {f : Value} {r r' : List V → Hp → VK → Prop} (h : CallR X f r) (k : ∀ xs H Q, r' xs H Q → r xs H Q) : CallR X f r' :=
  fun pins s σ H xs us Q I r q => h pins s σ H xs us Q I r (k _ _ _ q)
theorem op_addU : OpR X (binaryOp .Add) (rAddU X.K) := by
  refine opImp (opOr (opOr op_add op_add_ib) (opOr op_add_str (opOr op_cat op_catA))) fun x y H Q h => ?_
  unfold rAddU at h
  split at h
  · exact .inl (.inl ⟨_, _, rfl, rfl, h⟩)
  · exact .inl (.inr ⟨_, _, rfl, rfl, h⟩)
  · exact .inr (.inl ⟨_, _, rfl, rfl, h⟩)
  · rcases h with h | h
    · exact .inr (.inr (.inl h))
    · exact .inr (.inr (.inr h))
  · exact h.elim
theorem opII {f : Value → Value → Sem Value} {C : Int → Int → Prop} {g : Int → Int → V} (h : OpR X f (rI C g)) : OpR X f (rII C g) := opImp h fun x y H Q h => by
  unfold rII at h
  split at h
  · exact ⟨_, _, rfl, rfl, h⟩
  · exact h.elim
theorem opII0 {f : Value → Value → Sem Value} {g : Int → Int → V} (h : OpR X f (rI0 g)) : OpR X f (rII0 g) := opImp h fun x y H Q h => by
  unfold rII0 at h
  split at h
  · exact ⟨_, _, rfl, rfl, h⟩
  · exact h.elim
theorem op_mulU : OpR X (binaryOp .Mult) (rMulU X.K) := by
  refine opImp (opOr (opOr op_mul op_mulW) op_rep) fun x y H Q h => ?_
  unfold rMulU at h
  split at h
  · rcases h with ⟨h1 | h1, h2⟩
    · exact .inl (.inl ⟨_, _, rfl, rfl, h1, h2⟩)
    · exact .inl (.inr ⟨_, _, rfl, rfl, h1, h2⟩)
  · exact .inr h
  · exact h.elim
theorem op_divU : OpR X (binaryOp .FloorDiv) (rII CDivU fun i j => .int (i / j)) := by
  refine opImp (opOr op_fdiv op_fdivW) fun x y H Q h => ?_
  unfold rII at h
  split at h
  · rcases h with ⟨h1 | h1, h2⟩
    · exact .inl ⟨_, _, rfl, rfl, h1, h2⟩
    · exact .inr ⟨_, _, rfl, rfl, h1, h2⟩
  · exact h.elim
/-- a binary operator -/
def rBin (K : PySem.W.Frag) : Operator → R2
  | .Add => rAddU K
  | .Sub => rII0 fun i j => .int (i - j)
  | .Mult => rMulU K
  | .FloorDiv => rII CDivU fun i j => .int (i / j)
  | .Mod => rII (fun _ j => 0 < j) fun i j => .int (i % j)
  | .Pow => rII CPow fun i j => .int (i ^ j.toNat)
  | .LShift => rII CPow fun i j => .int (i * 2 ^ j.toNat)
  | .RShift => rII (fun _ j => 0 ≤ j) fun i j => .int (i / 2 ^ j.toNat)
  | .BitAnd => rII0 fun i j => .int (Builtin.bitAnd i j)
  | .BitOr => rII0 fun i j => .int (Builtin.bitOr i j)
  | .BitXor => rII0 fun i j => .int (Builtin.bitXor i j)
  | _ => fun _ _ _ _ => False
theorem bin_ok (op : Operator) : OpR X (binaryOp op) (rBin X.K op) := by
  cases op with
  | Add => exact op_addU
  | Sub => exact opII0 op_sub
  | Mult => exact op_mulU
  | FloorDiv => exact op_divU
  | Mod => exact opII op_mod
  | Pow => exact opII op_pow
  | LShift => exact opII op_shl
  | RShift => exact opII op_shr
  | BitAnd => exact opII0 op_and
  | BitOr => exact opII0 op_or
  | BitXor => exact opII0 op_xor
  | _ => exact fun _ _ _ _ _ _ _ _ _ _ _ _ h => h.elim
def rUn : UnaryOp → V → Hp → VK → Prop
  | .USub => fun x H Q => match x with | .int i => Q (.int (-i)) H | _ => False
  | .Invert => fun x H Q => match x with | .int i => Q (.int (Builtin.bitNot i)) H | _ => False
  | _ => fun _ _ _ => False
theorem un_ok (op : UnaryOp) : UnR X (unaryOp op) (rUn op) := by
  cases op with
  | USub =>
    intro pins s σ H x v Q I rx h
    unfold rUn at h
    cases x <;> first | exact h.elim | exact un_neg pins s σ H _ v Q I rx ⟨_, rfl, h⟩
  | Invert =>
    intro pins s σ H x v Q I rx h
    unfold rUn at h
    cases x <;> first | exact h.elim | exact un_inv pins s σ H _ v Q I rx ⟨_, rfl, h⟩
  | _ => exact fun _ _ _ _ _ _ _ _ _ h => h.elim

/-! ### comparisons -/
def rEqU (K : PySem.W.Frag) : R2 := fun x y H Q => match scal x y with
  | true => Q (.bl (eqS x y)) H
  | false => rEqD K x y H Q
def rNeU (K : PySem.W.Frag) : R2 := fun x y H Q => match scal x y with
  | true => Q (.bl (!eqS x y)) H
  | false => rNeD K x y H Q
theorem op_eqU (hu : X.A.units + 64 < cLine) : OpR X (compareOp .Eq) (rEqU X.K) := by
  refine opImp (opOr op_eq (op_eqD hu)) fun x y H Q h => ?_
  unfold rEqU at h
  split at h
  · rename_i e
    rw [eqS_dec _ _ e] at h
    exact .inl ⟨e, h⟩
  · exact .inr h
theorem op_neU (hu : X.A.units + 64 < cLine) : OpR X (compareOp .NotEq) (rNeU X.K) := by
  refine opImp (opOr op_ne (op_neD hu)) fun x y H Q h => ?_
  unfold rNeU at h
  split at h
  · rename_i e
    rw [eqS_dec _ _ e] at h
    exact .inl ⟨e, h⟩
  · exact .inr h
/-- is i in j, texts -/
def inS (i j : Str) : Bool := match i with
  | ⟨⟨[c]⟩⟩ => decide (c ∈ j.cps.toList)
  | _ => !(Builtin.Str.occurrences j i 0 j.length 1).isEmpty
/-- a table of the module: its address, the value at a key -/
structure KTab where
  at_ : PySem.W.Frag → Addr
  kvs : List (Str × V)
def KHas (K : PySem.W.Frag) (w : World) (T : List KTab) (p : Addr) (z : Str) (o : Option V) : Prop := ∃ t ∈ T, p = t.at_ K ∧ o = t.kvs.lookup z
def KGood (K : PySem.W.Frag) (w : World) (T : List KTab) : Prop := ∀ t ∈ T, ∃ es n, KDict K w (t.at_ K) es n ∧ ∀ z, ∃ r, PySem.W.nsIn K (t.at_ K) z = some r ∧ RelO (t.kvs.lookup z) r
def rInU (K : PySem.W.Frag) (w : World) (T : List KTab) (neg : Bool) : R2 := fun x y H Q => match x, y with
  | .str i, .str j => Q (.bl (neg.xor (inS i j))) H
  | x, .ref p => rIn K neg x (.ref p) H Q ∨ (∃ kvs k, Rd H p (.dK kvs) ∧ x = kV k ∧ Q (.bl (neg.xor (valV kvs k).isSome)) H) ∨ (∃ z o, x = .str z ∧ KHas K w T p z o ∧ Q (.bl (neg.xor o.isSome)) H) ∨
      (if neg then rNotInD K x (.ref p) H Q else rInD K x (.ref p) H Q)
  | _, _ => False
theorem op_inStr : OpR X (compareOp .In) (fun x y H Q => ∃ i j, x = .str i ∧ y = .str j ∧ Q (.bl (inS i j)) H) := by
  refine opImp (opOr op_in_sign op_in_str) fun x y H Q h => ?_
  obtain ⟨i, j, rfl, rfl, q⟩ := h
  unfold inS at q
  split at q
  · exact .inl ⟨_, _, rfl, rfl, q⟩
  · exact .inr ⟨_, _, rfl, rfl, q⟩
theorem op_notInStr : OpR X (compareOp .NotIn) (fun x y H Q => ∃ i j, x = .str i ∧ y = .str j ∧ Q (.bl (!inS i j)) H) := by
  refine opImp (opOr op_notIn_sign op_notin_str) fun x y H Q h => ?_
  obtain ⟨i, j, rfl, rfl, q⟩ := h
  unfold inS at q
  split at q
  · exact .inl ⟨_, _, rfl, rfl, q⟩
  · exact .inr ⟨_, _, rfl, rfl, q⟩
theorem relO_isSome {a : Option V} {b : Option Value} (r : RelO a b) : b.isSome = a.isSome := by
  cases a <;> cases b <;> first | rfl | exact r.elim
theorem op_inU (hu : X.A.units + 65 < cLine) {T : List KTab} (kg : KGood X.K X.w T) : OpR X (compareOp .In) (rInU X.K X.w T false) := by
  intro pins s σ H x y v u Q I rx ry h
  unfold rInU at h
  split at h
  · exact op_inStr pins s σ H _ _ v u Q I rx ry ⟨_, _, rfl, rfl, by simpa using h⟩
  · rcases h with h | ⟨kvs, k, e, rfl, q⟩ | ⟨z, o, rfl, ⟨t, ht, rfl, rfl⟩, q⟩ | h
    · exact op_in_seq pins s σ H _ _ v u Q I rx ry h
    · cases ry
      refine d_in (by omega) I (.inl ⟨kvs, k, e, rfl, rfl⟩) rx fun s' I' => ?_
      exact ⟨.bl _, H, I', rfl, by simpa using q⟩
    · obtain ⟨es, n, D, g⟩ := kg t ht
      obtain ⟨r, er, rr⟩ := g z
      refine op_in_kd D pins s σ H _ _ v u Q I rx ry ⟨z, r, rfl, rfl, er, ?_⟩
      rw [relO_isSome rr]
      simpa using q
    · exact op_inD hu pins s σ H _ _ v u Q I rx ry (by simpa using h)
  · exact h.elim
theorem op_notInU (hu : X.A.units + 65 < cLine) {T : List KTab} (kg : KGood X.K X.w T) : OpR X (compareOp .NotIn) (rInU X.K X.w T true) := by
  intro pins s σ H x y v u Q I rx ry h
  unfold rInU at h
  split at h
  · exact op_notInStr pins s σ H _ _ v u Q I rx ry ⟨_, _, rfl, rfl, by simpa using h⟩
  · rcases h with h | ⟨kvs, k, e, rfl, q⟩ | ⟨z, o, rfl, ⟨t, ht, rfl, rfl⟩, q⟩ | h
    · exact op_notIn_seq pins s σ H _ _ v u Q I rx ry h
    · cases ry
      refine d_notIn (by omega) I (.inl ⟨kvs, k, e, rfl, rfl⟩) rx fun s' I' => ?_
      exact ⟨.bl _, H, I', rfl, by simpa using q⟩
    · obtain ⟨es, n, D, g⟩ := kg t ht
      obtain ⟨r, er, rr⟩ := g z
      refine op_notIn_kd D pins s σ H _ _ v u Q I rx ry ⟨z, r, rfl, rfl, er, ?_⟩
      rw [relO_isSome rr]
      simpa using q
    · exact op_notInD hu pins s σ H _ _ v u Q I rx ry (by simpa using h)
  · exact h.elim
def rLtU (f : Int → Int → Bool) (g : Str → Str → Bool) : R2 := fun x y H Q => match x, y with
  | .int i, .int j => Q (.bl (f i j)) H
  | .str i, .str j => Q (.bl (g i j)) H
  | _, _ => False
def rIs (neg : Bool) : R2 := fun x y H Q => match y with
  | .non => Q (.bl (neg.xor (match x with | .non => true | _ => false))) H
  | _ => False
theorem isN_dec (x : V) : decide (x = V.non) = (match x with | .non => true | _ => false) := by cases x <;> simp
/-- a comparison -/
def rCmp (K : PySem.W.Frag) (w : World) (T : List KTab) : CmpOp → R2
  | .Eq => rEqU K
  | .NotEq => rNeU K
  | .Lt => rLtU (fun i j => decide (i < j)) fun i j => decide (i.cps.toList < j.cps.toList)
  | .LtE => rLtU (fun i j => decide (i ≤ j)) fun i j => !decide (j.cps.toList < i.cps.toList)
  | .Gt => rLtU (fun i j => decide (j < i)) fun i j => decide (j.cps.toList < i.cps.toList)
  | .GtE => rLtU (fun i j => decide (j ≤ i)) fun i j => !decide (i.cps.toList < j.cps.toList)
  | .In => rInU K w T false
  | .NotIn => rInU K w T true
  | .Is => rIs false
  | .IsNot => rIs true
theorem opLt {op : CmpOp} {f : Int → Int → Bool} {g : Str → Str → Bool} (h : OpR X (compareOp op) (rI0 fun i j => .bl (f i j))) (h' : OpR X (compareOp op) (fun x y H Q => ∃ i j, x = .str i ∧ y = .str j ∧ Q (.bl (g i j)) H)) : OpR X (compareOp op) (rLtU f g) :=
  opImp (opOr h h') fun x y H Q q => by
    unfold rLtU at q
    split at q
    · exact .inl ⟨_, _, rfl, rfl, q⟩
    · exact .inr ⟨_, _, rfl, rfl, q⟩
    · exact q.elim
theorem cmp_ok (hu : X.A.units + 65 < cLine) {T : List KTab} (kg : KGood X.K X.w T) (op : CmpOp) : OpR X (compareOp op) (rCmp X.K X.w T op) := by
  cases op with
  | Eq => exact op_eqU (by omega)
  | NotEq => exact op_neU (by omega)
  | Lt => exact opLt op_lt op_lt_str
  | LtE => exact opLt op_le op_le_str
  | Gt => exact opLt op_gt op_gt_str
  | GtE => exact opLt op_ge op_ge_str
  | In => exact op_inU hu kg
  | NotIn => exact op_notInU hu kg
  | Is =>
    exact opImp op_isN fun x y H Q h => by
      show _ ∧ _
      have h : rIs false x y H Q := h
      unfold rIs at h
      split at h
      · exact ⟨rfl, by rw [isN_dec]; simpa using h⟩
      · exact h.elim
  | IsNot =>
    exact opImp op_notN fun x y H Q h => by
      show _ ∧ _
      have h : rIs true x y H Q := h
      unfold rIs at h
      split at h
      · exact ⟨rfl, by rw [isN_dec]; simpa using h⟩
      · exact h.elim
end
end U

namespace U
open PySem PySem.Spec PyProof.Rows L2

abbrev St := L2.St
/-- built-in functions and types that are called -/
inductive B where
  | len | abs | int | bool | str | list | tuple | sum | all | any | sorted | dict
  deriving DecidableEq
/-- methods of built-in types -/
inductive M where
  | append | join | find | split | count | get | extend
  deriving DecidableEq
/-- a class that isinstance is asked for -/
inductive CR where
  | ty (n : String) | own (x : Str)
  deriving DecidableEq

/-- the text of a body, as it is read -/
inductive I where
  | k (v : V) | v (i : Nat) | g (x : Str)
  | bop (op : Operator) (a b : I) | uop (op : UnaryOp) (a : I)
  | not (a : I) | and (a b : I) | or (a b : I) | ite (c a b : I)
  | cmp (op : CmpOp) (a b : I) | cmp2 (op op' : CmpOp) (a b c : I)
  | lst (as : I) | tup (as : I) | dic (ps : I)
  | call (f : Str) (as : I) | mk (c : Str) (as : I) | bi (f : B) (as : I)
  | isi (a : I) (cs : List CR) (many : Bool)
  | meth (o : I) (m : Str) (as : I) | bm (m : M) (o as : I)
  | icall (o as : I) (ks : List Str) (zs : I) | ostr (a : I)
  | att (o : I) (f : Str)
  | ix (o i : I) | sl (o lo hi : I)
  | lc (own : List (Str × Nat)) (elt tg it : I) (hasIf : Bool) (cond : I)
  | nil | cons (a b : I) | pair (k v r : I)
  | tupG (gs : I) | subG (o i : I) | attG (o : I) (f : Str)
  | itL (e : I) | itT (e : I) | itS (e : I) | itR1 (a : I) | itR2 (a b : I) | itE (e : I) | itES (e : I) | itZ (a b : I)
  | set (g e : I) | setLc (i : Nat) (e : I) | par (i j : Nat) (as : I) | par3 (i j l : Nat) (as : I) | aug (i : Nat) (op : Operator) (e : I)
  | expr (e : I) | ret (e : I) | retN | if_ (c a b : I) | while_ (c b : I) | for_ (tg it b : I)
  | raise (c : Str) (as : I) | never | pass | brk | cont

/-- how many parts -/
def I.len : I → Nat
  | .cons _ b => b.len + 1
  | _ => 0
/-- one item of a walk: a value, or a new tuple of values -/
inductive It1 where
  | v (x : V) | t (xs : List V)
abbrev TI1 := St → Hp → ((Hp → Prop) → List It1 → Hp → Prop) → Prop

structure Ctx where
  K : PySem.W.Frag
  w : World
  fn : Str → Sp
  gv : Str → Option V
  tabs : List KTab
  mth : Str → Str → Option Str
  prp : Str → Str → Option Str
  fld : Str → Str → Bool
  isi : Str → CR → Option Bool
  xf : Str → Option (List Str)
  kwo : Str → Nat → List Str → Option (List Nat)

/-- what a text means: as an expression, a test, arguments, a statement, a target, targets, a walked thing, the pairs of a display, an end of a slice -/
structure Rd1 where
  e : TE
  t : TT
  a : TA
  s : TS
  g : TG
  gs : TGs
  i : TI1
  p : List (TE × TE)
  o : St → Hp → (Option Int → Hp → Prop) → Prop

def rB (K : PySem.W.Frag) : B → List V → Hp → VK → Prop
  | .len => fun vs H Q => match vs with
    | [.str z] => z.length ≤ sizeLine ∧ Q (.int z.length) H
    | [.ref p] => (∃ ys, SqL K H p ys ∧ Q (.int ys.length) H) ∨ (∃ ys, SqT K H p ys ∧ Q (.int ys.length) H) ∨ ∃ kvs, H p = some (.dK kvs) ∧ Q (.int kvs.length) H
    | _ => False
  | .abs => fun vs H Q => match vs with
    | [.int i] => Q (.int (if i < 0 then -i else i)) H
    | _ => False
  | .int => fun vs H Q => match vs with
    | [.int i] => Q (.int i) H
    | [.bl b] => Q (.int (if b then 1 else 0)) H
    | [.str a] => ∃ n, PySem.intText? a = some n ∧ a.length ≤ 640 ∧ Q (.int n) H
    | _ => False
  | .bool => fun vs H Q => match vs with
    | [.int i] => Q (.bl (i != 0)) H
    | [.bl b] => Q (.bl b) H
    | _ => False
  | .str => fun vs H Q => match vs with
    | [.int i] => i.natAbs.log2 < 1920 ∧ Q (.str (toString i)) H
    | _ => False
  | .list => fun vs H Q => match vs with
    | [.ref p] => ∃ ys, (SqL K H p ys ∨ SqT K H p ys) ∧ ∀ l, H l = none → Q (.ref l) (upd H l (.lst ys))
    | [.str z] => z.length ≤ sizeLine ∧ ∀ l, H l = none → Q (.ref l) (upd H l (.lst (z.cps.toList.map fun c => .str (S [c]))))
    | _ => False
  | .tuple => fun vs H Q => match vs with
    | [.ref p] => ∃ ys, (SqL K H p ys ∧ ∀ l, H l = none → Q (.ref l) (upd H l (.tup ys))) ∨ (SqT K H p ys ∧ Q (.ref p) H)
    | [.str z] => z.length ≤ sizeLine ∧ ∀ l, H l = none → Q (.ref l) (upd H l (.tup (z.cps.toList.map fun c => .str (S [c]))))
    | _ => False
  | .sum => fun vs H Q => match vs with
    | [.ref p] => ∃ ns : List Int, SqL K H p (ns.map V.int) ∧ Q (.int ns.sum) H
    | _ => False
  | .all => fun vs H Q => match vs with
    | [.ref p] => ∃ bs : List Bool, SqL K H p (bs.map V.bl) ∧ Q (.bl (bs.all id)) H
    | _ => False
  | .any => fun vs H Q => match vs with
    | [.ref p] => ∃ bs : List Bool, SqL K H p (bs.map V.bl) ∧ Q (.bl (bs.any id)) H
    | _ => False
  | .sorted => fun vs H Q => rSorted K vs H Q ∨ rSortedS K vs H Q
  | .dict => fun vs H Q => match vs with
    | [.ref p] => ∃ kvs, Rd H p (.dK kvs) ∧ ∀ q, H q = none → Q (.ref q) (upd H q (.dK kvs))
    | _ => False
def rM (K : PySem.W.Frag) : M → V → List V → Hp → VK → Prop
  | .append => rAppend
  | .join => fun x xs H Q => ∃ a p, ∃ ys : List Str, x = .str a ∧ xs = [.ref p] ∧ (SqL K H p (ys.map V.str) ∨ SqT K H p (ys.map V.str)) ∧ (ys.map (·.length)).sum + ys.length * a.length ≤ 16777216 ∧ Q (.str (Txt.join a ys)) H
  | .find => fun x xs H Q => ∃ a b, x = .str a ∧ xs = [.str b] ∧ Q (.int (Txt.find a b)) H
  | .split => fun x xs H Q => ∃ a b, x = .str a ∧ xs = [.str b] ∧ (b.length == 0) = false ∧ a.length + 2 ≤ sizeLine ∧ rNewStrs (Txt.split a b) H Q
  | .count => fun x xs H Q => ∃ a b, x = .str a ∧ xs = [.str b] ∧ Q (.int (Txt.count a b)) H
  | .get => fun x xs H Q => ∃ p y z o, x = .ref p ∧ xs = [y, z] ∧ DGet H p y o ∧ Q (o.getD z) H
  | .extend => rExtend
/-- the built-in type of a method -/
def M.T : M → String
  | .append | .extend => "list"
  | .get => "dict"
  | _ => "str"
def M.nm : M → Str
  | .append => "append" | .join => "join" | .find => "find" | .split => "split" | .count => "count" | .get => "get" | .extend => "extend"

/-- the name of a built-in value's type -/
def tyN : V → Option String
  | .non => some "NoneType" | .bl _ => some "bool" | .int _ => some "int" | .str _ => some "str" | _ => none
def tyHO : HO → Option String
  | .lst _ => some "list" | .tup _ => some "tuple" | .dK _ => some "dict" | _ => none
def subTy (a b : String) : Bool := a == b || (a == "bool" && b == "int") || b == "object"
/-- a built-in type against a class -/
def isiT (t : String) : CR → Bool
  | .ty n => subTy t n
  | .own _ => false
/-- isinstance(x, c) is b -/
def Isi (C : Ctx) (H : Hp) (x : V) (cs : List CR) (Q : VK) : Prop := match tyN x with
  | some t => Q (.bl (cs.any (isiT t))) H
  | none => match x with
    | .ref p => (∃ cn dx fs, H p = some (.ins (He.ga C.K cn) dx fs) ∧ ∃ bs : List Bool, cs.map (C.isi cn) = bs.map some ∧ Q (.bl (bs.any id)) H) ∨
        ∃ o, (H p = some o ∨ ∃ ob, H p = some (.frz ob o)) ∧ ∃ t, tyHO o = some t ∧ Q (.bl (cs.any (isiT t))) H
    | _ => False

/-- e.f of an own instance -/
def rAtt (C : Ctx) (f : Str) (E : XK) (x : V) (H : Hp) (Q : VK) : Prop := match x with
  | .ref a => ∃ cn dx fs, H a = some (.ins (He.ga C.K cn) dx fs) ∧ ((C.fld cn f = true ∧ ∃ v, fs.lookup f = some v ∧ Q v H) ∨ ∃ key, C.prp cn f = some key ∧ C.fn key [.ref a] H Q fun _ _ _ => False)
  | _ => False
/-- the values in the parameters' order -/
def byOrd (vs : List V) (ord : List Nat) : Option (List V) := ord.mapM fun i => vs[i]?

/-- a call with keywords, vs the positional values, us the keywords' -/
def kwRun (C : Ctx) (key : Str) (ks : List Str) (vs us : List V) (H : Hp) (Q : VK) (E : XK) : Prop := match ks with
  | [] => C.fn key vs H Q E
  | ks => us.length = ks.length ∧ ∃ ord ts, C.kwo key vs.length ks = some ord ∧ byOrd (vs ++ us) ord = some ts ∧ C.fn key ts H Q E

/-! ### walks -/
def forGo (ok : Hp → Prop) (g : TG) (gs : TGs) (tb : TS) (D : Ends) : List It1 → St → Hp → Prop
  | [], σ, H => ok H ∧ D.nx σ H
  | .v x :: r, σ, H => ok H ∧ g x σ H fun σ2 H2 => tb { D with nx := forGo ok g gs tb D r, ct := forGo ok g gs tb D r, bk := D.nx } σ2 H2
  | .t xs :: r, σ, H => ok H ∧ ∀ T, H T = none → gs xs σ (upd H T (.tup xs)) fun σ2 H2 => tb { D with nx := forGo ok g gs tb D r, ct := forGo ok g gs tb D r, bk := D.nx } σ2 H2
/-- what a turn of a comprehension does with the next item -/
def lcTurn (tt : TT) (te : TE) (Dl : Addr) (vs : List Nat) (σ : St) (nx : Hp → Prop) (σ2 : St) (H2 : Hp) : Prop :=
  wipe σ2 vs = wipe σ vs ∧ tt σ2 H2 fun b H3 => if b = true then te σ2 H3 fun y H4 => ∃ acc, H4 Dl = some (.lst acc) ∧ acc.length < sizeLine ∧ nx (upd H4 Dl (.lst (acc ++ [y]))) else nx H3
def lcGo (ok : Hp → Prop) (g : TG) (gs : TGs) (tt : TT) (te : TE) (Dl : Addr) (vs : List Nat) (σ : St) (Q : VK) : List It1 → Hp → Prop
  | [], H => ok H ∧ Q (.ref Dl) H
  | .v x :: r, H => ok H ∧ g x (wipe σ vs) H (lcTurn tt te Dl vs σ (lcGo ok g gs tt te Dl vs σ Q r))
  | .t xs :: r, H => ok H ∧ ∀ T, H T = none → gs xs (wipe σ vs) (upd H T (.tup xs)) (lcTurn tt te Dl vs σ (lcGo ok g gs tt te Dl vs σ Q r))

def noW : WX := fun _ _ _ _ => False
def lcIf (b : Bool) (t : TT) : TT := match b with
  | true => t
  | false => fun _ H Q => Q true H
def noE : TE := fun _ _ _ => False
def noT : TT := fun _ _ _ => False
def noA : TA := fun _ _ _ => False
def noS : TS := fun _ _ _ => False
def noG : TG := fun _ _ _ _ => False
def noGs : TGs := fun _ _ _ _ => False
def noI : TI1 := fun _ _ _ => False
def noO : St → Hp → (Option Int → Hp → Prop) → Prop := fun _ _ _ => False
def Rd1.ofE (K : PySem.W.Frag) (e : TE) : Rd1 :=
  { e := e, t := fun σ H Q => e σ H fun x H' => match x with
      | .bl b => Q b H'
      | x => ∃ b, TruV K x H' b ∧ Q b H'
    a := noA, s := noS, g := noG, gs := noGs, i := noI, p := [],
    o := fun σ H Q => e σ H fun x H' => match x with
      | .int i => Q (some i) H'
      | _ => False }
def Rd1.ofET (e : TE) (t : TT) : Rd1 := { e := e, t := t, a := noA, s := noS, g := noG, gs := noGs, i := noI, p := [], o := noO }
def Rd1.ofS (s : TS) : Rd1 := { e := noE, t := noT, a := noA, s := s, g := noG, gs := noGs, i := noI, p := [], o := noO }
def Rd1.ofG (g : TG) : Rd1 := { e := noE, t := noT, a := noA, s := noS, g := g, gs := noGs, i := noI, p := [], o := noO }
def Rd1.ofI (i : TI1) : Rd1 := { e := noE, t := noT, a := noA, s := noS, g := noG, gs := noGs, i := i, p := [], o := noO }
def Rd1.ofP (p : List (TE × TE)) : Rd1 := { e := noE, t := noT, a := noA, s := noS, g := noG, gs := noGs, i := noI, p := p, o := noO }

/-- a slice by values -/
def rSlU (K : PySem.W.Frag) (x : V) (lo hi : Option Int) (H : Hp) (Q : VK) : Prop := match x with
  | .str z => z.length ≤ sizeLine ∧ Q (.str (cutS z lo hi)) H
  | .ref a => rSlL K (.ref a) lo hi H Q ∨ rSlA K (.ref a) lo hi H Q
  | _ => False
def rIxU (K : PySem.W.Frag) (w : World) (T : List KTab) : R2 := fun x y H Q => match x, y with
  | .str z, .int i => z.length ≤ sizeLine ∧ ∃ c, atI z.cps.toList i = some c ∧ Q (.str (S [c])) H
  | .ref a, .int i => (∃ xs, SqL K H a xs ∧ ∃ v, atI xs i = some v ∧ Q v H) ∨ (∃ xs, SqT K H a xs ∧ ∃ v, atI xs i = some v ∧ Q v H) ∨ ∃ v, DGet H a (.int i) (some v) ∧ Q v H
  | .ref a, .str z => (∃ kvs, Rd H a (.dK kvs) ∧ ∃ v, valV kvs (.inr z) = some v ∧ Q v H) ∨ ∃ v, KHas K w T a z (some v) ∧ Q v H
  | _, _ => False
/-- o[i] = v -/
def rSetU : V → V → V → Hp → (Hp → Prop) → Prop := fun o i v H Q => match o, i with
  | .ref p, .int j => (∃ xs, H p = some (.lst xs) ∧ ∃ n, ixN xs.length j = some n ∧ Q (upd H p (.lst (xs.set n v)))) ∨ ∃ kvs, H p = some (.dK kvs) ∧ kvs.length < sizeLine ∧ Q (upd H p (.dK (putK kvs (.inl j) v)))
  | .ref p, .str z => ∃ kvs, H p = some (.dK kvs) ∧ kvs.length < sizeLine ∧ Q (upd H p (.dK (putK kvs (.inr z) v)))
  | _, _ => False

def rd (C : Ctx) : I → WX → Rd1
  | .k v, _ => .ofE C.K fun _ H Q => Q v H
  | .v i, _ => { Rd1.ofE C.K (fun σ H Q => match σ[i]? with
      | some (some v) => Q v H
      | _ => False) with g := gName i }
  | .g x, _ => .ofE C.K fun _ H Q => match C.gv x with
      | some v => Q v H
      | none => False
  | .bop op a b, W => .ofE C.K fun σ H Q => (rd C a W).e σ H fun x H1 => (rd C b W).e σ H1 fun y H2 => rBin C.K op x y H2 Q
  | .uop op a, W => .ofE C.K fun σ H Q => (rd C a W).e σ H fun x H1 => rUn op x H1 Q
  | .not a, W => .ofET (fun σ H Q => (rd C a W).e σ H fun x H1 => match x with
      | .bl c => Q (.bl (!c)) H1
      | x => ∃ k, TruV C.K x H1 k ∧ Q (.bl (!k)) H1) (tNot (rd C a W).t)
  | .and a b, W => .ofET (fun σ H Q => (rd C a W).e σ H fun x H1 => match x with
      | .bl c => if c = true then (rd C b W).e σ H1 Q else Q (.bl false) H1
      | _ => False) (tAnd (rd C a W).t (rd C b W).t)
  | .or a b, W => .ofET (fun σ H Q => (rd C a W).e σ H fun x H1 => match x with
      | .bl c => if c = true then Q (.bl true) H1 else (rd C b W).e σ H1 Q
      | _ => False) (tOr (rd C a W).t (rd C b W).t)
  | .ite c a b, W => .ofET (fun σ H Q => (rd C c W).t σ H fun k H1 => if k = true then (rd C a W).e σ H1 Q else (rd C b W).e σ H1 Q) noT
  | .cmp op a b, W => .ofET (fun σ H Q => (rd C a W).e σ H fun x H1 => (rd C b W).e σ H1 fun y H2 => rCmp C.K C.w C.tabs op x y H2 Q)
      (fun σ H Q => (rd C a W).e σ H fun x H1 => (rd C b W).e σ H1 fun y H2 => rCmp C.K C.w C.tabs op x y H2 fun z H3 => match z with
        | .bl k => Q k H3
        | _ => False)
  | .cmp2 op op' a b c, W =>
      let t : TE := fun σ H Q => (rd C a W).e σ H fun x H1 => (rd C b W).e σ H1 fun y H2 => rCmp C.K C.w C.tabs op x y H2 fun z H3 => match z with
        | .bl k => if k = true then (rd C c W).e σ H3 fun u H4 => rCmp C.K C.w C.tabs op' y u H4 Q else Q (.bl false) H3
        | _ => False
      .ofET t (fun σ H Q => t σ H fun z H3 => match z with
        | .bl k => Q k H3
        | _ => False)
  | .lst as, W => .ofE C.K fun σ H Q => (rd C as W).a σ H fun xs H1 => xs.length ≤ sizeLine ∧ ∀ p, H1 p = none → Q (.ref p) (upd H1 p (.lst xs))
  | .tup as, W => .ofE C.K fun σ H Q => (rd C as W).a σ H fun xs H1 => xs.length ≤ sizeLine ∧ ∀ p, H1 p = none → Q (.ref p) (upd H1 p (.tup xs))
  | .dic ps, W => .ofE C.K fun σ H Q => match (rd C ps W).p with
      | [] => ∀ p, H p = none → Q (.ref p) (upd H p (.dK []))
      | trs => tDisp trs σ H Q
  | .call f as, W => .ofE C.K fun σ H Q => (rd C as W).a σ H fun vs H1 => C.fn f vs H1 Q fun cls d H' => W cls d σ H'
  | .mk c as, W => .ofE C.K fun σ H Q => (rd C as W).a σ H fun vs H1 => ∀ x dx, H1 x = none → H1 dx = none → dx ≠ x →
      ∃ key, C.mth c "__init__" = some key ∧ C.fn key (.ref x :: vs) (upd (upd H1 dx (.own x)) x (.ins (He.ga C.K c) dx [])) (fun v H2 => v = .non ∧ Q (.ref x) H2) fun cls d H' => W cls d σ H'
  | .bi f as, W => .ofE C.K fun σ H Q => (rd C as W).a σ H fun vs H1 => rB C.K f vs H1 Q
  | .isi a cs many, W => .ofE C.K fun σ H Q => (rd C a W).e σ H fun x H1 => match many with
      | false => Isi C H1 x cs Q
      | true => ∀ p, H1 p = none → Isi C (upd H1 p (.tup (cs.map fun c => match c with | .ty n => V.ty n | .own x => V.ref (He.ga C.K x)))) x cs Q
  | .meth o m as, W => .ofE C.K fun σ H Q => (rd C o W).e σ H fun x H1 => match x with
      | .ref a => ∃ cn dx fs key, H1 a = some (.ins (He.ga C.K cn) dx fs) ∧ C.mth cn m = some key ∧ fs.lookup m = none ∧
          (rd C as W).a σ H1 fun vs H2 => C.fn key (.ref a :: vs) H2 Q fun cls d H' => W cls d σ H'
      | _ => False
  | .bm m o as, W => .ofE C.K fun σ H Q => (rd C o W).e σ H fun x H1 => tyV C.K m.T x H1 ∧ (rd C as W).a σ H1 fun vs H2 => rM C.K m x vs H2 Q
  | .icall o as ks zs, W => .ofE C.K fun σ H Q => (rd C o W).e σ H fun x H1 => match x with
      | .ref a => ∃ cn, (∃ dx fs, H1 a = some (.ins (He.ga C.K cn) dx fs)) ∧ (rd C as W).a σ H1 fun vs H2 => (rd C zs W).a σ H2 fun us H3 => ∃ dx fs key, H3 a = some (.ins (He.ga C.K cn) dx fs) ∧ C.mth cn "__call__" = some key ∧
          kwRun C key ks (.ref a :: vs) us H3 Q (fun cls d H' => W cls d σ H')
      | _ => False
  | .ostr a, W => .ofE C.K fun σ H Q => (rd C a W).e σ H fun x H1 => match x with
      | .ref a => ∃ cn dx fs key, H1 a = some (.ins (He.ga C.K cn) dx fs) ∧ C.mth cn "__str__" = some key ∧ C.fn key [.ref a] H1 (fun v H2 => match v with | .str z => Q (.str z) H2 | _ => False) fun _ _ _ => False
      | _ => False
  | .att o f, W => .ofE C.K fun σ H Q => (rd C o W).e σ H fun x H1 => rAtt C f (fun cls d H' => W cls d σ H') x H1 Q
  | .ix o i, W => .ofE C.K fun σ H Q => (rd C o W).e σ H fun x H1 => (rd C i W).e σ H1 fun y H2 => rIxU C.K C.w C.tabs x y H2 Q
  | .sl o lo hi, W => .ofE C.K fun σ H Q => (rd C o W).e σ H fun x H1 => (rd C lo W).o σ H1 fun l H2 => (rd C hi W).o σ H2 fun h H3 => rSlU C.K x l h H3 Q
  | .lc own elt tg it hasIf cond, W => .ofE C.K fun σ H Q => (rd C it W).i σ H fun ok items H1 => ∀ Dl, H1 Dl = none →
      lcGo ok (rd C tg noW).g (rd C tg noW).gs (lcIf hasIf (rd C cond noW).t) (rd C elt noW).e Dl (own.map (·.2)) σ Q items (upd H1 Dl (.lst []))
  | .nil, _ => ⟨noE, noT, fun _ H Q => Q [] H, fun D σ H => D.nx σ H, noG, gNil, noI, [], fun _ H Q => Q none H⟩
  | .cons a b, W => ⟨noE, noT, fun σ H Q => (rd C a W).e σ H fun x H1 => (rd C b W).a σ H1 fun xs H2 => Q (x :: xs) H2,
      fun D σ H => (rd C a W).s { D with nx := (rd C b W).s D } σ H, noG, (fun vs σ H Q => match vs with
        | v :: r => (rd C a W).g v σ H fun σ' H' => (rd C b W).gs r σ' H' Q
        | [] => False), noI, [], noO⟩
  | .pair k v r, W => .ofP (((rd C k W).e, (rd C v W).e) :: (rd C r W).p)
  | .tupG gs, W => { Rd1.ofG (fun v σ H Q => match v with
      | .ref a => ∃ xs, SqT C.K H a xs ∧ xs.length = gs.len ∧ (rd C gs W).gs xs σ H Q
      | _ => False) with gs := fun vs σ H Q => vs.length = gs.len ∧ (rd C gs W).gs vs σ H Q }
  | .subG o i, W => .ofG fun v σ H Q => (rd C o W).e σ H fun x H1 => (rd C i W).e σ H1 fun y H2 => rSetU x y v H2 fun H3 => Q σ H3
  | .attG o f, W => .ofG fun v σ H Q => (rd C o W).e σ H fun x H1 => match x with
      | .ref a => ∃ cn dx fs, H1 a = some (.ins (He.ga C.K cn) dx fs) ∧ C.fld cn f = true ∧ fs.length < 1000 ∧ Q σ (upd H1 a (.ins (He.ga C.K cn) dx (putF f v fs)))
      | _ => False
  | .itL e, W => .ofI fun σ H R => (rd C e W).e σ H fun x H1 => match x with
      | .ref a => ∃ xs, SqL C.K H1 a xs ∧ R (fun H' => SqL C.K H' a xs) (xs.map .v) H1
      | _ => False
  | .itT e, W => .ofI fun σ H R => (rd C e W).e σ H fun x H1 => match x with
      | .ref a => ∃ xs, SqT C.K H1 a xs ∧ R (fun H' => SqT C.K H' a xs) (xs.map .v) H1
      | _ => False
  | .itS e, W => .ofI fun σ H R => (rd C e W).e σ H fun x H1 => match x with
      | .str z => R (fun _ => True) (z.cps.toList.map fun c => .v (.str (S [c]))) H1
      | _ => False
  | .itR1 a, W => .ofI fun σ H R => (rd C a W).e σ H fun x H1 => match x with
      | .int j => -(2 ^ 62) ≤ j ∧ j < 2 ^ 62 ∧ R (fun _ => True) ((List.range j.toNat).map fun i => .v (.int (i : Nat))) H1
      | _ => False
  | .itR2 a b, W => .ofI fun σ H R => (rd C a W).e σ H fun x H1 => (rd C b W).e σ H1 fun y H2 => match x, y with
      | .int i, .int j => (-(2 ^ 62) ≤ i ∧ i < 2 ^ 62 ∧ -(2 ^ 62) ≤ j ∧ j < 2 ^ 62) ∧ R (fun _ => True) ((List.range (j - i).toNat).map fun k => .v (.int (i + (k : Nat)))) H2
      | _, _ => False
  | .itE e, W => .ofI fun σ H R => (rd C e W).e σ H fun x H1 => match x with
      | .ref a => ∃ xs, SqL C.K H1 a xs ∧ R (fun H' => SqL C.K H' a xs) (xs.zipIdx.map fun p => .t [.int (p.2 : Nat), p.1]) H1
      | _ => False
  | .itES e, W => .ofI fun σ H R => (rd C e W).e σ H fun x H1 => match x with
      | .str z => R (fun _ => True) (z.cps.toList.zipIdx.map fun p => .t [.int (p.2 : Nat), .str (S [p.1])]) H1
      | _ => False
  | .itZ a b, W => .ofI fun σ H R => (rd C a W).e σ H fun x H1 => (rd C b W).e σ H1 fun y H2 => match x, y with
      | .ref p, .ref q => ∃ xs ys, SqL C.K H2 p xs ∧ SqL C.K H2 q ys ∧ R (fun H' => SqL C.K H' p xs ∧ SqL C.K H' q ys) ((xs.zip ys).map fun z => .t [z.1, z.2]) H2
      | _, _ => False
  | .set g e, W => .ofS fun D σ H => (rd C e W).e σ H fun x H1 => (rd C g W).g x σ H1 D.nx
  | .setLc i e, W => .ofS fun D σ H => (rd C e W).e σ H fun x H1 => D.nx (σ.set i (some x)) H1
  | .par i j as, W => .ofS (tPar i j (rd C as W).a)
  | .par3 i j l as, W => .ofS noS
  | .aug i op e, W => .ofS noS
  | .expr e, W => .ofS fun D σ H => (rd C e W).e σ H fun _ H1 => D.nx σ H1
  | .ret e, W => .ofS fun D σ H => (rd C e W).e σ H D.rt
  | .retN, _ => .ofS fun D _ H => D.rt .non H
  | .if_ c a b, W => .ofS fun D σ H => (rd C c W).t σ H fun k H1 => if k = true then (rd C a W).s D σ H1 else (rd C b W).s D σ H1
  | .while_ c b, W => .ofS (tWhile (rd C c W).t (rd C b W).s)
  | .for_ tg it b, W => .ofS fun D σ H => (rd C it W).i σ H fun ok items H1 => forGo ok (rd C tg W).g (rd C tg W).gs (rd C b W).s D items σ H1
  | .raise c as, W => .ofS fun _ σ H => (rd C as W).a σ H fun vs H1 => ∃ fs, C.xf c = some fs ∧ vs.length = fs.length ∧ ∀ d, H1 d = none → W (.ref (He.ga C.K c)) (some d) σ (upd H1 d (.xd (fs.zip vs)))
  | .never, _ => .ofS noS
  | .pass, _ => .ofS fun D σ H => D.nx σ H
  | .brk, _ => .ofS fun D σ H => D.bk σ H
  | .cont, _ => .ofS fun D σ H => D.ct σ H
end U

namespace U
open PySem PySem.Spec PyProof.Rows L2

/-! ### what is looked at in the text -/
structure SD where
  frees : List Str
  globs : List Str
  fns : List Str
  clss : List Str
  mks : List Str
structure SC where
  N : List Str
  sc : Scope
  top : Bool
def SC.vis (S : SC) (x : Str) : Bool := match S.sc.names.lookup x with
  | some .local => true | some .cell => true | some .free => true | _ => false
def SC.loc (S : SC) (x : Str) : Bool := match S.sc.names.lookup x with
  | some .local => true | some .cell => S.top | _ => false
def SC.gl (S : SC) (x : Str) : Bool := match S.sc.names.lookup x with
  | some .globalImplicit => !(x == ("__debug__" : Str)) && !(x == ("__name__" : Str)) | _ => false
def nst : Expr → Bool
  | .Starred .. => false
  | _ => true
def abase : Expr → Bool
  | .Call (.Name ..) [] [] _ => false
  | _ => true
def noSlice : Expr → Bool
  | .Slice .. => false
  | _ => true
def noComp : Expr → Bool
  | .ListComp .. => false | .SetComp .. => false | .DictComp .. => false
  | _ => true
def noSet : Expr → Bool
  | .Set .. => false
  | _ => true
def noTup : Expr → Bool
  | .Tuple .. => false | .List .. => false
  | _ => true
def constV : Const → Option V
  | .none => some .non | .bool b => some (.bl b) | .int i => some (.int i) | .str x => some (.str x) | _ => none
def B.nm : B → Str
  | .len => "len" | .abs => "abs" | .int => "int" | .bool => "bool" | .str => "str" | .list => "list" | .tuple => "tuple" | .sum => "sum" | .all => "all" | .any => "any" | .sorted => "sorted" | .dict => "dict"
/-- a class, as isinstance's second argument -/
def crOk (D : SD) (S : SC) (c : CR) : Expr → Bool
  | .Name x _ => S.gl x && (match c with
    | .ty n => decide (x ∈ D.frees) && (decide (bootBuiltins x = some (.type n)) && decide (n ∈ ["int", "bool", "str", "list", "tuple", "dict"]))
    | .own y => decide (x = y) && decide (x ∈ D.clss))
  | _ => false
def crsOk (D : SD) (S : SC) : List CR → List Expr → Bool
  | [], [] => true
  | c :: cs, e :: es => crOk D S c e && crsOk D S cs es
  | _, _ => false

/-- what is called: a name, a call's answer -/
def calE : Expr → Bool
  | .Name .. => true
  | .Call .. => true
  | _ => false
structure Ck where
  e : Expr → Bool := fun _ => false
  a : List Expr → Bool := fun _ => false
  s : Stmt → Bool := fun _ => false
  ss : List Stmt → Bool := fun _ => false
  g : Expr → Bool := fun _ => false
  gs : List Expr → Bool := fun _ => false
  i : Expr → Expr → Bool := fun _ _ => false
  p : List (Option Expr) → List Expr → Bool := fun _ _ => false
  o : Option Expr → Bool := fun _ => false
/-- from a check of an expression: also a part of a slice -/
def Ck.ofE (f : Expr → Bool) : Ck := { e := f, o := fun | some x => f x | none => false }
def Ck.ofB (f : Expr → Bool) : Ck := { e := f }
def isBool (op : BoolOp) (f : List Expr → Bool) : Expr → Bool
  | .BoolOp op' vs _ => decide (op = op') && f vs
  | _ => false

def chk (D : SD) : I → SC → Ck
  | .k v, _ => .ofE fun
      | .Constant c _ _ => decide (constV c = some v)
      | _ => false
  | .v i, S => { Ck.ofE (fun
      | .Name x _ => decide (S.N[i]? = some x) && S.vis x && !(x == ("__debug__" : Str)) && !(x == ("__classdict__" : Str))
      | _ => false) with
      g := fun
      | .Name x _ => decide (S.N[i]? = some x) && S.loc x
      | _ => false }
  | .g y, S => .ofE fun
      | .Name x _ => decide (x = y) && S.gl x && decide (x ∈ D.globs)
      | _ => false
  | .bop op a b, S => .ofE fun
      | .BinOp x op' y _ => decide (op = op') && (chk D a S).e x && (chk D b S).e y
      | _ => false
  | .uop op a, S => .ofE fun
      | .UnaryOp op' x _ => decide (op = op') && decide (op ≠ .Not) && (chk D a S).e x
      | _ => false
  | .not a, S => .ofB fun
      | .UnaryOp op x _ => decide (op = .Not) && (chk D a S).e x
      | _ => false
  | .and a b, S => { Ck.ofB (fun
      | .BoolOp op (x :: rest) pos => decide (op = .And) && !rest.isEmpty && (chk D a S).e x && (match rest with
        | [y] => (chk D b S).e y
        | ys => (chk D b S).e (.BoolOp .And ys pos))
      | _ => false) with a := fun _ => false }
  | .or a b, S => { Ck.ofB (fun
      | .BoolOp op (x :: rest) pos => decide (op = .Or) && !rest.isEmpty && (chk D a S).e x && (match rest with
        | [y] => (chk D b S).e y
        | ys => (chk D b S).e (.BoolOp .Or ys pos))
      | _ => false) with a := fun _ => false }
  | .ite c a b, S => .ofB fun
      | .IfExp x y z _ => (chk D c S).e x && (chk D a S).e y && (chk D b S).e z
      | _ => false
  | .cmp op a b, S => .ofB fun
      | .Compare x ops ys _ => (match ops, ys with
        | [op'], [y] => decide (op = op') && !behindInMarks op y && (chk D a S).e x && (chk D b S).e y
        | _, _ => false)
      | _ => false
  | .cmp2 op1 op2 a b c, S => .ofB fun
      | .Compare x ops ys _ => (match ops, ys with
        | [o1, o2], [y, z] => decide (op1 = o1) && decide (op2 = o2) && !lastMarks [o1, o2] [y, z] && (chk D a S).e x && (chk D b S).e y && (chk D c S).e z
        | _, _ => false)
      | _ => false
  | .lst as, S => .ofE fun
      | .List es _ => (chk D as S).a es
      | _ => false
  | .tup as, S => .ofE fun
      | .Tuple es _ _ => (chk D as S).a es
      | _ => false
  | .dic ps, S => .ofE fun
      | .Dict ks vs _ => decide (ks.length ≤ 15) && decide (ks.length = vs.length) && (chk D ps S).p ks vs
      | _ => false
  | .call f as, S => .ofE fun
      | .Call (.Name x _) es [] _ => decide (x = f) && S.gl x && decide (x ∈ D.fns) && (chk D as S).a es
      | _ => false
  | .mk c as, S => .ofE fun
      | .Call (.Name x _) es [] _ => decide (x = c) && S.gl x && decide (x ∈ D.mks) && (chk D as S).a es
      | _ => false
  | .bi f as, S => .ofE fun
      | .Call (.Name x _) es [] _ => decide (x = f.nm) && S.gl x && decide (x ∈ D.frees) && !es.isEmpty && (chk D as S).a es
      | _ => false
  | .isi a cs many, S => .ofE fun
      | .Call (.Name x _) [y, c] [] _ => decide (x = ("isinstance" : Str)) && S.gl x && decide (x ∈ D.frees) && nst y && !cs.isEmpty && (chk D a S).e y && (match many with
        | false => nst c && crsOk D S cs [c]
        | true => (match c with
          | .Tuple es _ _ => es.all nst && crsOk D S cs es && decide (es.length ≤ 15)
          | _ => false))
      | _ => false
  | .meth o m as, S => .ofE fun
      | .Call (.Attribute x f ap) es [] pos => decide (f = m) && abase x && (ap.endLine == pos.line) && decide (es.length < 29) && (chk D o S).e x && (chk D as S).a es
      | _ => false
  | .bm m o as, S => .ofE fun
      | .Call (.Attribute x f ap) es [] pos => decide (f = m.nm) && abase x && (ap.endLine == pos.line) && decide (es.length < 29) && !es.isEmpty && (chk D o S).e x && (chk D as S).a es
      | _ => false
  | .icall o as ks zs, S => .ofE fun
      | .Call fe es kws pos => calE fe && (chk D o S).e fe && (chk D as S).a es && decide (kws.map (·.arg) = ks.map some) && (chk D zs S).a (kws.map (·.value)) && decide (es.length + kws.length < 12)
      | _ => false
  | .ostr a, S => .ofE fun
      | .Call (.Name x _) [y] [] _ => decide (x = ("str" : Str)) && S.gl x && decide (x ∈ D.frees) && nst y && (chk D a S).e y
      | _ => false
  | .att o f, S => .ofE fun
      | .Attribute x f' _ => decide (f = f') && abase x && (chk D o S).e x
      | _ => false
  | .ix o i, S => .ofE fun
      | .Subscript x y _ => noSlice y && (chk D o S).e x && (chk D i S).e y
      | _ => false
  | .sl o lo hi, S => .ofE fun
      | .Subscript x (.Slice l h none _) _ => (chk D o S).e x && (chk D lo S).o l && (chk D hi S).o h
      | _ => false
  | .lc own elt tg it hasIf cond, S => .ofE fun
      | .ListComp x [⟨t, it', ifs, 0⟩] sc _ => blkC S.N S.sc sc own && noSet it' && (chk D it S).i t it' && (chk D tg ⟨S.N, relS sc S.sc, false⟩).g t && (match hasIf with
        | true => (match ifs with | [c] => (chk D cond ⟨S.N, relS sc S.sc, false⟩).e c | _ => false)
        | false => ifs.isEmpty) && (chk D elt ⟨S.N, relS sc S.sc, false⟩).e x
      | _ => false
  | .nil, _ => ⟨fun _ => false, fun es => es.isEmpty, fun _ => false, fun ss => ss.isEmpty, fun _ => false, fun es => es.isEmpty, fun _ _ => false, fun ks vs => ks.isEmpty && vs.isEmpty, fun o => o.isNone⟩
  | .cons a b, S => ⟨fun _ => false, (fun | e :: es => nst e && (chk D a S).e e && (chk D b S).a es | [] => false), fun _ => false, (fun | s :: ss => (chk D a S).s s && (chk D b S).ss ss | [] => false), fun _ => false,
      (fun | e :: es => nst e && (chk D a S).g e && (chk D b S).gs es | [] => false), fun _ _ => false, fun _ _ => false, fun _ => false⟩
  | .pair k v r, S => { p := fun ks vs => match ks, vs with
      | some x :: ks, y :: vs => (chk D k S).e x && (chk D v S).e y && (chk D r S).p ks vs
      | _, _ => false }
  | .tupG gs, S => { g := fun
      | .Tuple es _ _ => (chk D gs S).gs es
      | _ => false }
  | .subG o i, S => { g := fun
      | .Subscript x y _ => noSlice y && (chk D o S).e x && (chk D i S).e y
      | _ => false }
  | .attG o f, S => { g := fun
      | .Attribute x f' _ => decide (f = f') && abase x && (chk D o S).e x
      | _ => false }
  | .itL e, S => { i := fun _ x => (chk D e S).e x }
  | .itT e, S => { i := fun _ x => (chk D e S).e x }
  | .itS e, S => { i := fun _ x => (chk D e S).e x }
  | .itR1 a, S => { i := fun _ x => match x with
      | .Call (.Name f _) [y] [] _ => decide (f = ("range" : Str)) && S.gl f && decide (f ∈ D.frees) && nst y && (chk D a S).e y
      | _ => false }
  | .itR2 a b, S => { i := fun _ x => match x with
      | .Call (.Name f _) [y, z] [] _ => decide (f = ("range" : Str)) && S.gl f && decide (f ∈ D.frees) && nst y && nst z && (chk D a S).e y && (chk D b S).e z
      | _ => false }
  | .itE e, S => { i := fun t x => match t, x with
      | .Tuple _ _ _, .Call (.Name f _) [y] [] _ => decide (f = ("enumerate" : Str)) && S.gl f && decide (f ∈ D.frees) && nst y && (chk D e S).e y
      | _, _ => false }
  | .itES e, S => { i := fun t x => match t, x with
      | .Tuple _ _ _, .Call (.Name f _) [y] [] _ => decide (f = ("enumerate" : Str)) && S.gl f && decide (f ∈ D.frees) && nst y && (chk D e S).e y
      | _, _ => false }
  | .itZ a b, S => { i := fun t x => match t, x with
      | .Tuple _ _ _, .Call (.Name f _) [y, z] [] _ => decide (f = ("zip" : Str)) && S.gl f && decide (f ∈ D.frees) && nst y && nst z && (chk D a S).e y && (chk D b S).e z
      | _, _ => false }
  | .set g e, S => { s := fun
      | .Assign [t] x _ => noComp x && (noTup t || noTup x) && nst t && (chk D g S).g t && (chk D e S).e x
      | _ => false }
  | .setLc i e, S => { s := fun
      | .Assign [.Name y py] x _ => (match x with
        | .ListComp _ [_] sc pos => decide (S.N[i]? = some y) && decide (S.sc.names.lookup y = some .local) && (py.line == pos.line) && !(sc.names.any fun (n, k) => n == y && (k == .local || k == .cell))
        | _ => false) && (chk D e S).e x
      | _ => false }
  | .par i j as, S => { s := fun
      | .Assign [.Tuple [.Name x px, .Name y py] _ _] (.Tuple [a, b] _ _) _ => decide (S.N[i]? = some x) && decide (S.N[j]? = some y) && decide (i ≠ j) && decide (S.sc.names.lookup x = some .local) && decide (S.sc.names.lookup y = some .local) &&
          (px.line == py.line) && !([a, b].all (foldedForSure 8)) && !([a, b].all (constantsAlone 8)) && (chk D as S).a [a, b]
      | _ => false }
  | .par3 _ _ _ _, _ => {}
  | .aug _ _ _, _ => {}
  | .expr e, S => { s := fun
      | .Expr x _ => noComp x && (chk D e S).e x
      | _ => false }
  | .ret e, S => { s := fun
      | .Return (some x) _ => (chk D e S).e x
      | _ => false }
  | .retN, _ => { s := fun
      | .Return none _ => true
      | _ => false }
  | .if_ c a b, S => { s := fun
      | .If x as bs _ => (chk D c S).e x && (chk D a S).ss as && (chk D b S).ss bs
      | _ => false }
  | .while_ c b, S => { s := fun
      | .While x bs [] _ => (chk D c S).e x && (chk D b S).ss bs
      | _ => false }
  | .for_ tg it b, S => { s := fun
      | .For t x bs [] _ => noSet x && (chk D tg S).g t && (chk D it S).i t x && (chk D b S).ss bs
      | _ => false }
  | .raise _ _, _ => {}
  | .never, _ => { s := fun _ => true }
  | .pass, _ => { s := fun
      | .Pass _ => true
      | _ => false }
  | .brk, _ => { s := fun
      | .Break _ => true
      | _ => false }
  | .cont, _ => { s := fun
      | .Continue _ => true
      | _ => false }
end U

namespace U
open PySem PySem.Spec PyProof.Rows L2
/-! ### side conditions -/
section
variable {env : Env} {e : Expr} {es : List Expr} {pos : Pos}
theorem star_cons (h : nst e = true) : starEach (e :: es) env = (false, eval e env) :: starEach es env := by
  cases e <;> first | rfl | (simp [nst] at h)
theorem star_none : ∀ {es : List Expr}, es.all nst = true → (backTo pos (starEach es env)).any (·.1) = false
  | [], _ => rfl
  | e :: es, h => by
    rw [List.all_cons, Bool.and_eq_true] at h
    rw [star_cons h.1]
    show (false || (backTo pos (starEach es env)).any (·.1)) = false
    rw [star_none h.2, Bool.or_false]
theorem star_none' : ∀ {es : List Expr}, es.all nst = true → (backTo pos (starEach es env)).all (fun x => !x.1) = true
  | [], _ => rfl
  | e :: es, h => by
    rw [List.all_cons, Bool.and_eq_true] at h
    rw [star_cons h.1]
    show (true && (backTo pos (starEach es env)).all (fun x => !x.1)) = true
    rw [star_none' h.2, Bool.and_true]
theorem abase_ok {f : Str} {whole : Sem Value} (h : abase e = true) : attributeBase e f env whole = whole := by
  unfold attributeBase
  cases e <;> try rfl
  rename_i fn as ks p
  cases fn <;> try rfl
  cases as with
  | cons => rfl
  | nil =>
    cases ks with
    | cons => rfl
    | nil => simp [abase] at h
theorem plainIx_ok (h : noSlice e = true) : PlainIx e := by
  intro o i
  cases e <;> first | rfl | (simp [noSlice] at h)
theorem noComp_ok {t : Option Expr} {l : Nat} (h : noComp e = true) : swapsWith e t l env = pure false := by
  unfold swapsWith
  cases e <;> first | rfl | (simp [noComp] at h)
theorem noTup_ok {t : Expr} (h : (noTup t || noTup e) = true) : swappedStores [t] e env = pure none := by
  unfold swappedStores
  cases t <;> first | rfl | skip
  all_goals (cases e <;> first | rfl | (simp [noTup] at h))
theorem noSet_ok {x : Value} (h : noSet e = true) : foldedSetIterable e env x = pure x := by
  unfold foldedSetIterable
  cases e <;> first | rfl | (simp [noSet] at h)
end
theorem lookup_eq {S : SC} {x : Str} {X : Cx} (h : X.env.scope = S.sc) : X.env.scope.names.lookup x = S.sc.names.lookup x := by rw [h]
theorem vis_ok {S : SC} {x : Str} {X : Cx} (h : X.env.scope = S.sc) (hv : S.vis x = true) : Vis X.env.scope x := by
  unfold Vis
  rw [h]
  unfold SC.vis at hv
  split at hv
  · rename_i e; exact .inl e
  · rename_i e; exact .inr (.inl e)
  · rename_i e; exact .inr (.inr e)
  · cases hv
theorem gl_ok {S : SC} {x : Str} {X : Cx} (h : X.env.scope = S.sc) (hv : S.gl x = true) : Gl X x ∧ (x == ("__debug__" : Str)) = false ∧ x ≠ "__name__" := by
  unfold SC.gl at hv
  split at hv
  · rename_i e
    rw [Bool.and_eq_true] at hv
    refine ⟨?_, by simpa using hv.1, by simpa using hv.2⟩
    show X.env.scope.names.lookup x = _
    rw [h, e]
  · cases hv

/-! ### calls -/
/-- the def at f, called with positional values and keywords ks -/
def FnA (P : Program) (w : World) (K : PySem.W.Frag) (mg : Str → Option Value) (base : Heap) (k : Nat) (f : Addr) (ks : List Str) (sp : List V → List V → Hp → VK → XK → Prop) : Prop :=
  ∀ (A : Around) (outer : List Env) (s : Shared) (H : Hp) (us ws : List Value) (vs zs : List V) (Q : VK) (E : XK), Room k A → Env0 P w K mg base A outer s H → Vals vs us → Vals zs ws → zs.length = ks.length → sp vs zs H Q E →
    codeAny (model P w) A (.call (.ref f) ⟨us, ks.zip ws⟩) (L2.CR (CX P w) outer P w H s Q E) s
theorem fnA_of {P : Program} {w : World} {K : PySem.W.Frag} {mg : Str → Option Value} {base : Heap} {k : Nat} {f : Addr} {fd : FuncData} {ps : List Str} {sp : Sp} (F : FnOk P w K mg base (CX P w) k f fd ps sp) (hb : Binds K fd ps []) :
    FnA P w K mg base k f [] (fun vs _ H Q E => sp vs H Q E) := by
  intro A outer s H us ws vs zs Q E hr e0 r rz hl h
  have KX : K.In s.heap := e0.mod.kin.keeps fun b o e => (e0.bs b o e).1
  have hlen : us.length = ps.length := by rw [← r.length]; exact F.len _ _ _ _ h
  have hb2 := hb s us KX (by rw [List.append_nil]; exact hlen)
  rw [List.append_nil] at hb2
  exact F.run A outer s H ⟨us, []⟩ us vs Q E hr e0 hb2 r h
theorem FnA.mono {P : Program} {w : World} {K : PySem.W.Frag} {mg : Str → Option Value} {base : Heap} {j k : Nat} {f : Addr} {ks : List Str} {sp : List V → List V → Hp → VK → XK → Prop} (F : FnA P w K mg base j f ks sp) (h : j ≤ k) : FnA P w K mg base k f ks sp :=
  fun A outer s H us ws vs zs Q E hr => F A outer s H us ws vs zs Q E (hr.mono h)
section
variable {X : Cx} {W : WX} {k : Nat} {f : Addr} {ks : List Str} {sp : List V → List V → Hp → VK → XK → Prop} {pins : List (Addr × Obj)} {σ : St} {H : Hp} {s : Shared} {Q : VK} {us ws : List Value} {vs zs : List V}
theorem ends_of {r : Result} {s' : Shared} (tk : Takes X W) (I : Inv X pins σ H s) (hq : L2.CR (CX X.prog X.w) X.stack X.prog X.w H s Q (fun cls d H' => W cls d σ H') r s') :
    (match r with | .ok (.ret v) => EP X pins σ Q v s' | .ok _ => False | .error e => X.xe e s') := by
  cases r with
  | error e => exact tk _ _ (XE.of_call I (fun _ _ _ h => h) hq)
  | ok fl =>
    cases fl with
    | ret u => exact I.after hq
    | next => exact False.elim hq
    | brk => exact False.elim hq
    | cont => exact False.elim hq
theorem runA (F : FnA X.prog X.w X.K X.mg X.base k f ks sp) (hr : Room k X.A) (tk : Takes X W) (I : Inv X pins σ H s) (r : Vals vs us) (rz : Vals zs ws) (hl : zs.length = ks.length) (h : sp vs zs H Q fun cls d H' => W cls d σ H') :
    wpAny (model X.prog X.w) X.A (call (.ref f) us (ks.zip ws)) (EP X pins σ Q) X.xe s := by
  refine wpAny_call (codeAny_mono (F X.A X.stack s H us ws vs zs Q _ hr I.env0 r rz hl h) fun r s' hq => ?_)
  have := ends_of tk I hq
  cases r with
  | error e => exact this
  | ok fl => cases fl <;> first | exact this | exact this.elim
end

/-! ### what is known of the program -/
structure Fc (D : SD) (C : Ctx) (n : Nat) (P : Program) (w : World) (K : PySem.W.Frag) (mg : Str → Option Value) (base : Heap) : Prop where
  hK : K = C.K
  hw : w = C.w
  kg : KGood K w C.tabs
  fr : ∀ x ∈ D.frees, mg x = none
  gl : ∀ x ∈ D.globs, ∃ v u, C.gv x = some v ∧ mg x = some u ∧ RelV v u
  fn : ∀ x ∈ D.fns, mg x = some (.ref (He.ga K x)) ∧ PySem.W.keepIn K (.ref (He.ga K x)) = true ∧ FnA P w K mg base (3 * n + 1) (He.ga K x) [] (fun vs _ H Q E => C.fn x vs H Q E)
  cls : ∀ c ∈ D.clss, mg c = some (.ref (He.ga K c)) ∧ (∀ t ∈ ["NoneType", "bool", "int", "str", "list", "tuple", "dict"], PySem.W.kitOne K (.type t) (.ref (He.ga K c)) = some false)
  mks : ∀ c ∈ D.mks, mg c = some (.ref (He.ga K c)) ∧ PySem.W.makesIn K (He.ga K c) = true ∧ PySem.W.keepIn K (.ref (He.ga K c)) = true
  mth : ∀ c m key, C.mth c m = some key → ∃ f, Cls K (He.ga K c) ∧ Meth K (He.ga K c) m f ∧ PySem.W.fnIn K f = true ∧ FnA P w K mg base (3 * n + 1) f [] (fun vs _ H Q E => C.fn key vs H Q E) ∧
    ∀ l ks ord, C.kwo key l ks = some ord → FnA P w K mg base (3 * n + 1) f ks (fun vs zs H Q E => vs.length = l ∧ ∃ ts, byOrd (vs ++ zs) ord = some ts ∧ C.fn key ts H Q E)
  prp : ∀ c f key, C.prp c f = some key → Cls K (He.ga K c) ∧ ∃ p g, PropOf K (He.ga K c) f p g ∧ FnA P w K mg base (3 * n + 1) g [] (fun vs _ H Q E => C.fn key vs H Q E)
  fld : ∀ c f, C.fld c f = true → Cls K (He.ga K c) ∧ NoAttr K (He.ga K c) f
  isi : ∀ c r b, C.isi c r = some b → (∃ (_ : Cls K (He.ga K c)), PySem.W.findIn K (.ref (He.ga K c)) "__class__" = some (some (.builtin "object.__class__")) ∧
    PySem.W.specialIn K (.builtin "object.__class__") "__get__" = some (some (.builtin "getset_descriptor.__get__")) ∧ PySem.W.takesIn K (.builtin "object.__class__") = some true ∧ PySem.W.mroIn K (He.ga K c) (.type "object") = some true) ∧
    PySem.W.kitOne K (.ref (He.ga K c)) (match r with | .ty n => .type n | .own x => .ref (He.ga K x)) = some b
/-- the context is a good one -/
structure Gd (D : SD) (C : Ctx) (n : Nat) (X : Cx) (W : WX) (S : SC) : Prop where
  fc : Fc D C n X.prog X.w X.K X.mg X.base
  hN : X.N = S.N
  nd : S.N.Nodup
  sc : X.env.scope = S.sc
  kd : X.env.scope.kind = .function
  fnt : S.top = true → ∀ x, X.fn x = true
  room : Room (3 * n + 3) X.A
  calm : X.calm = true
  tk : Takes X W
  own : PassesOwn (model X.prog X.w) X.A X.env X.xe
section
variable {D : SD} {C : Ctx} {n : Nat} {X : Cx} {W : WX} {S : SC}
theorem Gd.blk (G : Gd D C n X W S) {s : Shared} {H : Hp} {scope : Scope} {cl : List (Str × Addr)} {c : Addr} {fp : List Addr} {own : List (Str × Nat)} (ok : BlkOk X.N X.env.scope scope own) :
    Gd D C n (X.blk s H scope (compEnvC scope cl c X.env) fp) noW ⟨S.N, relS scope S.sc, false⟩ where
  fc := G.fc
  hN := G.hN
  nd := G.nd
  sc := by rw [← G.sc]; rfl
  kd := ok.kind
  fnt := fun z => by cases z
  room := G.room
  calm := G.calm
  tk := fun u s' ⟨_, _, _, _, _, _, _, _, _, _, _, _, _, _, _, _, w⟩ => w.elim
  own := PassesOwn.never
/-! ### the parts of the proof -/
/-- the iterator J yields these -/
def Fits (J : It) (ok : Hp → Prop) (items : List It1) : Prop := ∀ j H', j ≤ items.length → ok H' → match items[j]? with
    | none => J.stop j H'
    | some (It1.v y) => J.go j H' ∧ ∀ z H2, J.yld j H' z H2 → z = y ∧ H2 = H'
    | some (It1.t ys) => J.go j H' ∧ ∀ z H2, J.yld j H' z H2 → ∃ T, z = .ref T ∧ H' T = none ∧ H2 = upd H' T (.tup ys)
def wiOf (t : TI1) : TI := fun σ H R => ∃ R' : (Hp → Prop) → List It1 → Hp → Prop, t σ H R' ∧ ∀ ok items H1, R' ok items H1 → ∀ J : It, Fits J ok items → R J H1
structure Snd1 (D : SD) (C : Ctx) (n : Nat) (i : I) (X : Cx) (W : WX) (S : SC) : Prop where
  e : ∀ x, (chk D i S).e x = true → PE X x (rd C i W).e ∧ PT X x (rd C i W).t
  a : ∀ xs, (chk D i S).a xs = true → PA X xs (rd C i W).a ∧ xs.all nst = true
  k : ∀ kws : List Keyword, (chk D i S).a (kws.map (·.value)) = true → PK X kws (rd C i W).a
  s : ∀ x, (chk D i S).s x = true → PS X x (rd C i W).s
  ss : ∀ xs, (chk D i S).ss xs = true → PSs X xs (rd C i W).s
  g : ∀ x, (chk D i S).g x = true → PG X x (rd C i W).g
  gs : ∀ xs, (chk D i S).gs xs = true → PGs X xs (rd C i W).gs
  it : ∀ tg x, (chk D i S).i tg x = true → PI X tg x (wiOf (rd C i W).i)
  p : ∀ pos ks vs, (chk D i S).p ks vs = true → PPs X pos ks vs (rd C i W).p ∧ ks.all (·.isSome) = true ∧ (rd C i W).p.length = ks.length
  o : ∀ x, (chk D i S).o x = true → PO X x (rd C i W).o
def Snd (D : SD) (C : Ctx) (n : Nat) (i : I) : Prop := ∀ X W S, Gd D C n X W S → Snd1 D C n i X W S
theorem po_of {x : Expr} {t : TE} (h : PE X x t) : PO X (some x) (fun σ H Q => t σ H fun x H' => match x with
      | .int i => Q (some i) H'
      | _ => False) := by
  refine ⟨fun pins s σ H Q I hw => ?_⟩
  rw [evalPart_some]
  refine thn (h.run pins s σ H _ I hw) fun u s1 ⟨x, H1, I1, r1, q1⟩ => ?_
  cases x with
  | int i =>
    obtain ⟨t, rfl⟩ := r1
    exact ⟨some i, H1, I1, .int i t, q1⟩
  | _ => exact q1.elim
theorem pt_of {x : Expr} {t : TE} (h : PE X x t) (he : ∀ whole, isTrue x X.env whole = (do let v ← whole; standAt x.pos; holding [v] (truthy v))) : PT X x (fun σ H Q => t σ H fun x H' => match x with
      | .bl b => Q b H'
      | x => ∃ b, TruV X.K x H' b ∧ Q b H') := by
  refine ⟨fun pins s σ H Q I hw => ?_⟩
  refine isTrue_plain (thn (h.run pins s σ H _ I hw) fun v s1 ⟨x, H1, I1, r1, q1⟩ => ?_) (he _)
  refine tru_ok pins s1 σ H1 x v Q I1 r1 ?_
  cases x <;> first | exact ⟨_, rfl, q1⟩ | exact q1
/-- an expression of which nothing but the value is asked -/
theorem snd_ofE {i : I} {t : TE} {f : Expr → Bool} (hr : rd C i W = .ofE C.K t) (hc : chk D i S = .ofE f) (hk : X.K = C.K)
    (h : ∀ x, f x = true → PE X x t ∧ ∀ whole, isTrue x X.env whole = (do let v ← whole; standAt x.pos; holding [v] (truthy v))) : Snd1 D C n i X W S := by
  refine ⟨fun x hx => ?_, fun xs hx => ?_, fun xs hx => ?_, fun x hx => ?_, fun x hx => ?_, fun x hx => ?_, fun x hx => ?_, fun tg x hx => ?_, fun ps ks vs hx => ?_, fun x hx => ?_⟩
  all_goals rw [hc] at hx
  · rw [hr]
    obtain ⟨h1, h2⟩ := h x hx
    refine ⟨h1, ?_⟩
    have := pt_of h1 h2
    rw [hk] at this
    exact this
  · cases hx
  · cases hx
  · cases hx
  · cases hx
  · cases hx
  · cases hx
  · cases hx
  · cases hx
  · cases x with
    | none => cases hx
    | some y =>
      rw [hr]
      exact po_of (h y hx).1
theorem snd_ofET {i : I} {t : TE} {t' : TT} {f : Expr → Bool} (hr : rd C i W = .ofET t t') (hc : chk D i S = .ofB f) (h : ∀ x, f x = true → PE X x t ∧ PT X x t') : Snd1 D C n i X W S := by
  refine ⟨fun x hx => ?_, fun xs hx => ?_, fun xs hx => ?_, fun x hx => ?_, fun x hx => ?_, fun x hx => ?_, fun x hx => ?_, fun tg x hx => ?_, fun ps ks vs hx => ?_, fun x hx => ?_⟩
  all_goals rw [hc] at hx
  · rw [hr]
    exact h x hx
  all_goals cases hx
theorem snd_ofS {i : I} {t : TS} {f : Stmt → Bool} (hr : rd C i W = .ofS t) (hc : chk D i S = { s := f }) (h : ∀ x, f x = true → PS X x t) : Snd1 D C n i X W S := by
  refine ⟨fun x hx => ?_, fun xs hx => ?_, fun xs hx => ?_, fun x hx => ?_, fun x hx => ?_, fun x hx => ?_, fun x hx => ?_, fun tg x hx => ?_, fun ps ks vs hx => ?_, fun x hx => ?_⟩
  all_goals rw [hc] at hx
  case refine_4 =>
    rw [hr]
    exact h x hx
  all_goals cases hx
theorem snd_ofI {i : I} {t : TI1} {f : Expr → Expr → Bool} (hr : rd C i W = .ofI t) (hc : chk D i S = { i := f }) (h : ∀ tg x, f tg x = true → PI X tg x (wiOf t)) : Snd1 D C n i X W S := by
  refine ⟨fun x hx => ?_, fun xs hx => ?_, fun xs hx => ?_, fun x hx => ?_, fun x hx => ?_, fun x hx => ?_, fun x hx => ?_, fun tg x hx => ?_, fun ps ks vs hx => ?_, fun x hx => ?_⟩
  all_goals rw [hc] at hx
  case refine_8 =>
    rw [hr]
    exact h tg x hx
  all_goals cases hx
end
end U

namespace U
open PySem PySem.Spec PyProof.Rows L2
section
variable {D : SD} {C : Ctx} {n : Nat}
theorem bd {p : Prop} [Decidable p] (h : decide p = true) : p := of_decide_eq_true h
theorem b2 {a b : Bool} (h : (a && b) = true) : a = true ∧ b = true := Bool.and_eq_true_iff.mp h
theorem bn {a : Bool} (h : (!a) = true) : a = false := by cases a <;> first | rfl | cases h

theorem snd_k (v : V) : Snd D C n (.k v) := fun X W S G => snd_ofE (f := fun | .Constant c _ _ => decide (constV c = some v) | _ => false) rfl rfl G.fc.hK fun x hx => by
  cases x <;> first | (cases hx; done) | skip
  rename_i c k pos
  have e : constV c = some v := bd hx
  refine ⟨?_, fun _ => rfl⟩
  cases c <;> first
    | (cases e; done)
    | (cases e; exact pe_non)
    | (cases e; exact pe_bl)
    | (cases e; exact pe_int)
    | (cases e; exact pe_str)
theorem snd_v (i : Nat) : Snd D C n (.v i) := fun X W S G => by
  have base : ∀ x, (chk D (.v i) S).e x = true → PE X x (rd C (.v i) W).e ∧ ∀ whole, isTrue x X.env whole = (do let v ← whole; standAt x.pos; holding [v] (truthy v)) := fun x hx => by
    cases x <;> first | (cases hx; done) | skip
    rename_i y pos
    obtain ⟨h1, h4⟩ := b2 (show (decide (S.N[i]? = some y) && S.vis y && !(y == ("__debug__" : Str)) && !(y == ("__classdict__" : Str))) = true from hx)
    obtain ⟨h1, h3⟩ := b2 h1
    obtain ⟨h1, h2⟩ := b2 h1
    refine ⟨⟨fun pins s σ H Q I h => ?_⟩, fun _ => rfl⟩
    refine (pe_var (X := X) (i := i) (by rw [G.hN]; exact bd h1) (vis_ok G.sc h2) (bn h3) (bn h4)).run pins s σ H Q I ?_
    have h : (match σ[i]? with | some (some v) => Q v H | _ => False) := h
    split at h
    · rename_i v e; exact ⟨v, e, h⟩
    · exact h.elim
  refine ⟨fun x hx => ?_, fun xs hx => ?_, fun xs hx => ?_, fun x hx => ?_, fun x hx => ?_, fun x hx => ?_, fun x hx => ?_, fun tg x hx => ?_, fun ps ks vs hx => ?_, fun x hx => ?_⟩
  · obtain ⟨h1, h2⟩ := base x hx
    refine ⟨h1, ?_⟩
    have := pt_of h1 h2
    rw [G.fc.hK] at this
    exact this
  · cases hx
  · cases hx
  · cases hx
  · cases hx
  · cases x <;> first | (cases hx; done) | skip
    rename_i y pos
    obtain ⟨h1, h2⟩ := b2 (show (decide (S.N[i]? = some y) && S.loc y) = true from hx)
    have hl : X.env.scope.names.lookup y = S.sc.names.lookup y := by rw [G.sc]
    refine pg_name (by rw [G.hN]; exact G.nd) (by rw [G.hN]; exact bd h1) ?_ ?_
    · unfold L2.Loc
      rw [hl]
      unfold SC.loc at h2
      split at h2
      · rename_i e; exact .inl e
      · rename_i e; exact .inr e
      · cases h2
    · rw [hl]
      unfold SC.loc at h2
      split at h2
      · rename_i e; exact .inr e
      · exact .inl (G.fnt h2 y)
      · cases h2
  · cases hx
  · cases hx
  · cases hx
  · cases x with
    | none => cases hx
    | some y => exact po_of (base y hx).1
theorem snd_g (y : Str) : Snd D C n (.g y) := fun X W S G => snd_ofE (f := fun | .Name x _ => decide (x = y) && S.gl x && decide (x ∈ D.globs) | _ => false) rfl rfl G.fc.hK fun x hx => by
  cases x <;> first | (cases hx; done) | skip
  rename_i z pos
  obtain ⟨h1, h3⟩ := b2 (show (decide (z = y) && S.gl z && decide (z ∈ D.globs)) = true from hx)
  obtain ⟨h1, h2⟩ := b2 h1
  obtain rfl := bd h1
  obtain ⟨g1, g2, g3⟩ := gl_ok G.sc h2
  obtain ⟨v, u, e1, e2, r⟩ := G.fc.gl z (bd h3)
  refine ⟨⟨fun pins s σ H Q I h => ?_⟩, fun _ => rfl⟩
  refine (pe_glob g1 e2 r g2).run pins s σ H Q I ?_
  have h : (match C.gv z with | some v => Q v H | none => False) := h
  rw [e1] at h
  exact h
theorem snd_bop {a b : I} (op : Operator) (ha : Snd D C n a) (hb : Snd D C n b) : Snd D C n (.bop op a b) := fun X W S G => snd_ofE (f := fun
      | .BinOp x op' y _ => decide (op = op') && (chk D a S).e x && (chk D b S).e y
      | _ => false) rfl rfl G.fc.hK fun x hx => by
  cases x <;> first | (cases hx; done) | skip
  rename_i x op' y pos
  obtain ⟨h1, h3⟩ := b2 (show (decide (op = op') && (chk D a S).e x && (chk D b S).e y) = true from hx)
  obtain ⟨h1, h2⟩ := b2 h1
  obtain rfl := bd h1
  refine ⟨?_, fun _ => rfl⟩
  have := pe_op (pos := pos) (bin_ok (X := X) op) ((ha X W S G).e x h2).1 ((hb X W S G).e y h3).1
  rw [G.fc.hK] at this
  exact this
theorem snd_uop {a : I} (op : UnaryOp) (ha : Snd D C n a) : Snd D C n (.uop op a) := fun X W S G => snd_ofE (f := fun
      | .UnaryOp op' x _ => decide (op = op') && decide (op ≠ .Not) && (chk D a S).e x
      | _ => false) rfl rfl G.fc.hK fun x hx => by
  cases x <;> first | (cases hx; done) | skip
  rename_i op' x pos
  obtain ⟨h1, h3⟩ := b2 (show (decide (op = op') && decide (op ≠ .Not) && (chk D a S).e x) = true from hx)
  obtain ⟨h1, h2⟩ := b2 h1
  obtain rfl := bd h1
  refine ⟨pe_un (pos := pos) (un_ok (X := X) op) ((ha X W S G).e x h3).1, fun _ => ?_⟩
  have h2 := bd h2
  cases op <;> first | rfl | exact absurd rfl h2
theorem snd_not {a : I} (ha : Snd D C n a) : Snd D C n (.not a) := fun X W S G => snd_ofET (f := fun
      | .UnaryOp op x _ => decide (op = .Not) && (chk D a S).e x
      | _ => false) rfl rfl fun x hx => by
  cases x <;> first | (cases hx; done) | skip
  rename_i op' x pos
  obtain ⟨h1, h3⟩ := b2 (show (decide (op' = .Not) && (chk D a S).e x) = true from hx)
  obtain rfl := bd h1
  obtain ⟨p1, p2⟩ := (ha X W S G).e x h3
  refine ⟨⟨fun pins s σ H Q I h => ?_⟩, pt_not p2⟩
  refine UnaryOp_ (thn (p1.run pins s σ H _ I h) fun v s1 ⟨x, H1, I1, r1, q1⟩ => ?_)
  have q : ∃ k, TruV X.K x H1 k ∧ Q (.bl (!k)) H1 := by
    rw [G.fc.hK]
    cases x <;> first | exact ⟨_, rfl, q1⟩ | exact q1
  obtain ⟨k, e, q1⟩ := q
  exact not_of (thn (tru_ok pins s1 σ H1 x v (fun c H2 => Q (.bl (!c)) H2) I1 r1 ⟨k, e, q1⟩) fun c s2 ⟨H2, I2, q2⟩ => ⟨.bl (!c), H2, I2, rfl, q2⟩)
theorem snd_and {a b : I} (ha : Snd D C n a) (hb : Snd D C n b) : Snd D C n (.and a b) := fun X W S G => snd_ofET (f := fun
      | .BoolOp op (x :: rest) pos => decide (op = .And) && !rest.isEmpty && (chk D a S).e x && (match rest with
        | [y] => (chk D b S).e y
        | ys => (chk D b S).e (.BoolOp .And ys pos))
      | _ => false) rfl rfl fun x hx => by
  cases x <;> first | (cases hx; done) | skip
  rename_i op vs pos
  cases vs with
  | nil => cases hx
  | cons x rest =>
    obtain ⟨h1, h4⟩ := b2 hx
    obtain ⟨h1, h3⟩ := b2 h1
    obtain ⟨h1, h2⟩ := b2 h1
    obtain rfl := bd h1
    obtain ⟨p1, p2⟩ := (ha X W S G).e x h3
    cases rest with
    | nil => cases h2
    | cons y ys =>
      have hy : PE X (.BoolOp .And (y :: ys) pos) (rd C b W).e ∧ PW X (.BoolOp .And (y :: ys) pos) (rd C b W).t := by
        cases ys with
        | nil =>
          obtain ⟨q1, q2⟩ := (hb X W S G).e y h4
          exact ⟨pe_one q1, pw_and1 q2⟩
        | cons z zs =>
          obtain ⟨q1, q2⟩ := (hb X W S G).e _ h4
          exact ⟨q1, ⟨fun whole => q2.run⟩⟩
      refine ⟨⟨fun pins s σ H Q I h => ?_⟩, (pw_and p2 hy.2).pt⟩
      refine BoolOp_and (thn (p1.run pins s σ H _ I h) fun v s1 ⟨x, H1, I1, r1, q1⟩ => ?_)
      cases x with
      | bl c =>
        cases r1
        refine wpAny_truthy_bool ?_
        cases c with
        | true => exact hy.1.run pins s1 σ H1 Q I1 q1
        | false => exact ⟨.bl false, H1, I1, rfl, q1⟩
      | _ => exact q1.elim
theorem snd_or {a b : I} (ha : Snd D C n a) (hb : Snd D C n b) : Snd D C n (.or a b) := fun X W S G => snd_ofET (f := fun
      | .BoolOp op (x :: rest) pos => decide (op = .Or) && !rest.isEmpty && (chk D a S).e x && (match rest with
        | [y] => (chk D b S).e y
        | ys => (chk D b S).e (.BoolOp .Or ys pos))
      | _ => false) rfl rfl fun x hx => by
  cases x <;> first | (cases hx; done) | skip
  rename_i op vs pos
  cases vs with
  | nil => cases hx
  | cons x rest =>
    obtain ⟨h1, h4⟩ := b2 hx
    obtain ⟨h1, h3⟩ := b2 h1
    obtain ⟨h1, h2⟩ := b2 h1
    obtain rfl := bd h1
    obtain ⟨p1, p2⟩ := (ha X W S G).e x h3
    cases rest with
    | nil => cases h2
    | cons y ys =>
      have hy : PE X (.BoolOp .Or (y :: ys) pos) (rd C b W).e ∧ PW X (.BoolOp .Or (y :: ys) pos) (rd C b W).t := by
        cases ys with
        | nil =>
          obtain ⟨q1, q2⟩ := (hb X W S G).e y h4
          exact ⟨pe_one q1, pw_or1 q2⟩
        | cons z zs =>
          obtain ⟨q1, q2⟩ := (hb X W S G).e _ h4
          exact ⟨q1, ⟨fun whole => q2.run⟩⟩
      refine ⟨⟨fun pins s σ H Q I h => ?_⟩, (pw_or p2 hy.2).pt⟩
      refine BoolOp_or (thn (p1.run pins s σ H _ I h) fun v s1 ⟨x, H1, I1, r1, q1⟩ => ?_)
      cases x with
      | bl c =>
        cases r1
        refine wpAny_truthy_bool ?_
        cases c with
        | true => exact ⟨.bl true, H1, I1, rfl, q1⟩
        | false => exact hy.1.run pins s1 σ H1 Q I1 q1
      | _ => exact q1.elim
theorem snd_ite {c a b : I} (hc : Snd D C n c) (ha : Snd D C n a) (hb : Snd D C n b) : Snd D C n (.ite c a b) := fun X W S G => snd_ofET (f := fun
      | .IfExp x y z _ => (chk D c S).e x && (chk D a S).e y && (chk D b S).e z
      | _ => false) rfl rfl fun x hx => by
  cases x <;> first | (cases hx; done) | skip
  rename_i x y z pos
  obtain ⟨h1, h3⟩ := b2 (show ((chk D c S).e x && (chk D a S).e y && (chk D b S).e z) = true from hx)
  obtain ⟨h1, h2⟩ := b2 h1
  exact ⟨pe_ifExp ((hc X W S G).e x h1).2 ((ha X W S G).e y h2).1 ((hb X W S G).e z h3).1, ⟨fun _ _ _ _ _ _ h => h.elim⟩⟩
theorem cmpG {X : Cx} {W : WX} {S : SC} (G : Gd D C n X W S) (op : CmpOp) : OpR X (compareOp op) (rCmp C.K C.w C.tabs op) := by
  have := cmp_ok (X := X) (by have := G.room.un; omega) G.fc.kg op
  rw [G.fc.hK, G.fc.hw] at this
  exact this
theorem pt_bl {X : Cx} {a b : Expr} {op : CmpOp} {r : R2} {ta tb : TE} {pos : Pos} (ho : OpR X (compareOp op) r) (ha : PE X a ta) (hb : PE X b tb) (hm : behindInMarks op b = false) : PT X (.Compare a [op] [b] pos) (fun σ H Q => ta σ H fun x H1 => tb σ H1 fun y H2 => r x y H2 fun z H3 => match z with
        | .bl k => Q k H3
        | _ => False) := by
  refine ⟨fun pins s σ H Q I h => ?_⟩
  refine wpAny_isTrue_Compare1 (thn (ha.run pins s σ H _ I h) fun v s1 ⟨x, H1, I1, r1, q1⟩ => thn (hb.run pins s1 σ H1 _ I1 q1) fun u s2 ⟨y, H2, I2, r2, q2⟩ =>
    thn (ho pins s2 σ H2 x y v u _ I2 r1 r2 q2) fun c s3 ⟨z, H3, I3, r3, q3⟩ => ?_) hm
  cases z with
  | bl k =>
    cases r3
    exact wpAny_truthy_bool ⟨H3, I3, q3⟩
  | _ => exact q3.elim
theorem snd_cmp {a b : I} (op : CmpOp) (ha : Snd D C n a) (hb : Snd D C n b) : Snd D C n (.cmp op a b) := fun X W S G => snd_ofET (f := fun
      | .Compare x ops ys _ => (match ops, ys with
        | [op'], [y] => decide (op = op') && !behindInMarks op y && (chk D a S).e x && (chk D b S).e y
        | _, _ => false)
      | _ => false) rfl rfl fun x hx => by
  cases x <;> first | (cases hx; done) | skip
  rename_i x ops ys pos
  cases ops with
  | nil => cases hx
  | cons op' ops =>
    cases ops with
    | cons => cases hx
    | nil =>
      cases ys with
      | nil => cases hx
      | cons y ys =>
        cases ys with
        | cons => cases hx
        | nil =>
          obtain ⟨h1, h4⟩ := b2 (show (decide (op = op') && !behindInMarks op y && (chk D a S).e x && (chk D b S).e y) = true from hx)
          obtain ⟨h1, h3⟩ := b2 h1
          obtain ⟨h1, h2⟩ := b2 h1
          obtain rfl := bd h1
          exact ⟨pe_cmpR (cmpG G op) ((ha X W S G).e x h3).1 ((hb X W S G).e y h4).1 (bn h2), pt_bl (cmpG G op) ((ha X W S G).e x h3).1 ((hb X W S G).e y h4).1 (bn h2)⟩
theorem snd_cmp2 {a b c : I} (op1 op2 : CmpOp) (ha : Snd D C n a) (hb : Snd D C n b) (hc : Snd D C n c) : Snd D C n (.cmp2 op1 op2 a b c) := fun X W S G => snd_ofET (f := fun
      | .Compare x ops ys _ => (match ops, ys with
        | [o1, o2], [y, z] => decide (op1 = o1) && decide (op2 = o2) && !lastMarks [o1, o2] [y, z] && (chk D a S).e x && (chk D b S).e y && (chk D c S).e z
        | _, _ => false)
      | _ => false) rfl rfl fun x hx => by
  cases x <;> first | (cases hx; done) | skip
  rename_i x ops ys pos
  rcases ops with _ | ⟨o1, _ | ⟨o2, _ | ⟨o3, ops⟩⟩⟩ <;> first | (cases hx; done) | skip
  rcases ys with _ | ⟨y, _ | ⟨z, _ | ⟨u, ys⟩⟩⟩ <;> first | (cases hx; done) | skip
  obtain ⟨h1, h6⟩ := b2 (show (decide (op1 = o1) && decide (op2 = o2) && !lastMarks [o1, o2] [y, z] && (chk D a S).e x && (chk D b S).e y && (chk D c S).e z) = true from hx)
  obtain ⟨h1, h5⟩ := b2 h1
  obtain ⟨h1, h4⟩ := b2 h1
  obtain ⟨h1, h3⟩ := b2 h1
  obtain ⟨h1, h2⟩ := b2 h1
  obtain rfl := bd h1
  obtain rfl := bd h2
  have pa := ((ha X W S G).e x h4).1
  have pb := ((hb X W S G).e y h5).1
  have pc := ((hc X W S G).e z h6).1
  have ho := cmpG G op1
  have ho' := cmpG G op2
  refine ⟨⟨fun pins s σ H Q I h => ?_⟩, ⟨fun pins s σ H Q I h => ?_⟩⟩
  · refine Compare_chain (thn (pa.run pins s σ H _ I h) fun v s1 ⟨x, H1, I1, r1, q1⟩ => chain_link (thn (pb.run pins s1 σ H1 _ I1 q1) fun u s2 ⟨y, H2, I2, r2, q2⟩ =>
      thn (ho pins s2 σ H2 x y v u _ I2 r1 r2 q2) fun d s3 ⟨z, H3, I3, r3, q3⟩ => ?_)) (bn h3)
    cases z with
    | bl k =>
      cases r3
      refine wpAny_truthy_bool ?_
      cases k with
      | false => exact ite_ff ⟨.bl false, H3, I3, rfl, q3⟩
      | true => exact ite_tt (chain_last (thn (pc.run pins s3 σ H3 _ I3 q3) fun w' s4 ⟨z', H4, I4, r4, q4⟩ => ho' pins s4 σ H4 y z' u w' Q I4 r2 r4 q4))
    | _ => exact q3.elim
  · refine isTrue_chain (thn (pa.run pins s σ H _ I h) fun v s1 ⟨x, H1, I1, r1, q1⟩ => test_link (thn (pb.run pins s1 σ H1 _ I1 q1) fun u s2 ⟨y, H2, I2, r2, q2⟩ =>
      thn (ho pins s2 σ H2 x y v u _ I2 r1 r2 q2) fun d s3 ⟨z, H3, I3, r3, q3⟩ => ?_)) (bn h3)
    cases z with
    | bl k =>
      cases r3
      refine wpAny_truthy_bool ?_
      cases k with
      | false => exact ite_ff ⟨H3, I3, q3⟩
      | true =>
        refine ite_tt (test_last (thn (pc.run pins s3 σ H3 _ I3 q3) fun w' s4 ⟨z', H4, I4, r4, q4⟩ => thn (ho' pins s4 σ H4 y z' u w' _ I4 r2 r4 q4) fun d' s5 ⟨z2, H5, I5, r5, q5⟩ => ?_))
        cases z2 with
        | bl k2 =>
          cases r5
          exact wpAny_truthy_bool ⟨H5, I5, q5⟩
        | _ => exact q5.elim
    | _ => exact q3.elim
theorem snd_lst {as : I} (ha : Snd D C n as) : Snd D C n (.lst as) := fun X W S G => snd_ofE (f := fun
      | .List es _ => (chk D as S).a es
      | _ => false) rfl rfl G.fc.hK fun x hx => by
  cases x <;> first | (cases hx; done) | skip
  exact ⟨pe_lst ((ha X W S G).a _ hx).1, fun _ => rfl⟩
theorem snd_tup {as : I} (ha : Snd D C n as) : Snd D C n (.tup as) := fun X W S G => snd_ofE (f := fun
      | .Tuple es _ _ => (chk D as S).a es
      | _ => false) rfl rfl G.fc.hK fun x hx => by
  cases x <;> first | (cases hx; done) | skip
  exact ⟨pe_tup ((ha X W S G).a _ hx).1, fun _ => rfl⟩
theorem snd_dic {ps : I} (ha : Snd D C n ps) : Snd D C n (.dic ps) := fun X W S G => snd_ofE (f := fun
      | .Dict ks vs _ => decide (ks.length ≤ 15) && decide (ks.length = vs.length) && (chk D ps S).p ks vs
      | _ => false) rfl rfl G.fc.hK fun x hx => by
  cases x <;> first | (cases hx; done) | skip
  rename_i ks vs pos
  obtain ⟨h1, h3⟩ := b2 (show (decide (ks.length ≤ 15) && decide (ks.length = vs.length) && (chk D ps S).p ks vs) = true from hx)
  obtain ⟨h1, h2⟩ := b2 h1
  obtain ⟨p1, p2, p3⟩ := (ha X W S G).p pos ks vs h3
  have h2 := bd h2
  refine ⟨⟨fun pins s σ H Q I h => ?_⟩, fun _ => rfl⟩
  have h : (match (rd C ps W).p with
      | [] => ∀ p, H p = none → Q (.ref p) (upd H p (.dK []))
      | trs => tDisp trs σ H Q) := h
  cases ks with
  | nil =>
    cases vs with
    | cons => cases h2
    | nil =>
      refine pe_dnewK.run pins s σ H Q I ?_
      cases e : (rd C ps W).p with
      | nil => rw [e] at h; exact h
      | cons a r => rw [e] at p3; cases p3
  | cons k ks =>
    refine (pe_disp p1 p2 h2 (by simp) (bd h1)).run pins s σ H Q I ?_
    cases e : (rd C ps W).p with
    | nil => rw [e] at p3; cases p3
    | cons a r => rw [e] at h; exact h
end
end U

namespace U
open PySem PySem.Spec PyProof.Rows L2
section
variable {D : SD} {C : Ctx} {n : Nat}
theorem room1 {X : Cx} {W : WX} {S : SC} (G : Gd D C n X W S) : Room (3 * n + 1) X.A := G.room.mono (by omega)
theorem a_nil {as : I} {S : SC} (h : (chk D as S).a [] = true) : as = .nil := by
  cases as <;> first | rfl | cases h
theorem snd_call {as : I} (f : Str) (ha : Snd D C n as) : Snd D C n (.call f as) := fun X W S G => snd_ofE (f := fun
      | .Call (.Name x _) es [] _ => decide (x = f) && S.gl x && decide (x ∈ D.fns) && (chk D as S).a es
      | _ => false) rfl rfl G.fc.hK fun x hx => by
  cases x <;> first | (cases hx; done) | skip
  rename_i fe es kws pos
  cases fe <;> first | (cases hx; done) | skip
  rename_i y p
  cases kws with
  | cons => cases hx
  | nil =>
    obtain ⟨h1, h4⟩ := b2 (show (decide (y = f) && S.gl y && decide (y ∈ D.fns) && (chk D as S).a es) = true from hx)
    obtain ⟨h1, h3⟩ := b2 h1
    obtain ⟨h1, h2⟩ := b2 h1
    obtain rfl := bd h1
    obtain ⟨g1, g2, g3⟩ := gl_ok G.sc h2
    obtain ⟨pa, pn⟩ := (ha X W S G).a es h4
    obtain ⟨m1, m2, F⟩ := G.fc.fn y (bd h3)
    refine ⟨⟨fun pins s σ H Q I h => ?_⟩, fun _ => rfl⟩
    refine wpAny_Call_Name_kw (ld_glob I g1 m1 ?_ g2)
    cases es with
    | nil =>
      obtain rfl := a_nil h4
      have q : C.fn y [] H Q fun cls d H' => W cls d σ H' := h
      exact PySem.W.callWith_K0 I.kIn m2 (runA (us := []) (ws := []) (vs := []) (zs := []) F (room1 G) G.tk I .nil .nil rfl q)
    | cons e es =>
      rw [List.all_cons, Bool.and_eq_true] at pn
      refine PySem.W.callWith_K (h₀ := X.base) I.ok.mod.kin m2 (thn (pa.run pos pins s σ H _ I h) fun us s1 ⟨vs, H1, I1, r, q⟩ => ⟨I1.kIn, ?_⟩) (star_cons pn.1) (star_none pn.2)
      exact runA (ws := []) (zs := []) F (room1 G) G.tk I1 r .nil rfl q
theorem snd_mk {as : I} (c : Str) (ha : Snd D C n as) : Snd D C n (.mk c as) := fun X W S G => snd_ofE (f := fun
      | .Call (.Name x _) es [] _ => decide (x = c) && S.gl x && decide (x ∈ D.mks) && (chk D as S).a es
      | _ => false) rfl rfl G.fc.hK fun x hx => by
  cases x <;> first | (cases hx; done) | skip
  rename_i fe es kws pos
  cases fe <;> first | (cases hx; done) | skip
  rename_i y p
  cases kws with
  | cons => cases hx
  | nil =>
    obtain ⟨h1, h4⟩ := b2 (show (decide (y = c) && S.gl y && decide (y ∈ D.mks) && (chk D as S).a es) = true from hx)
    obtain ⟨h1, h3⟩ := b2 h1
    obtain ⟨h1, h2⟩ := b2 h1
    obtain rfl := bd h1
    obtain ⟨g1, g2, g3⟩ := gl_ok G.sc h2
    obtain ⟨pa, pn⟩ := (ha X W S G).a es h4
    obtain ⟨m1, m2, m3⟩ := G.fc.mks y (bd h3)
    have core : ∀ {H1 : Hp} {s1 : Shared} {us : List Value} {vs : List V} {pins : List (Addr × Obj)} {σ : St} {Q : VK}, Inv X pins σ H1 s1 → Vals vs us → (∀ x dx, H1 x = none → H1 dx = none → dx ≠ x →
      ∃ key, C.mth y "__init__" = some key ∧ C.fn key (.ref x :: vs) (upd (upd H1 dx (.own x)) x (.ins (He.ga C.K y) dx [])) (fun v H2 => v = .non ∧ Q (.ref x) H2) fun cls d H' => W cls d σ H') →
        wpAny (model X.prog X.w) X.A (call (.ref (He.ga X.K y)) us) (EP X pins σ Q) X.xe s1 := fun {H1 s1 us vs pins σ Q} I1 r q => by
      obtain ⟨key, e1, q⟩ := q (s1.heap.objs.size + 1) s1.heap.objs.size (I1.hok.fresh (Nat.le_succ _)) (I1.hok.fresh (Nat.le_refl _)) (Nat.ne_of_lt (Nat.lt_succ_self _))
      obtain ⟨f, c1, c2, c3, F, _⟩ := G.fc.mth y _ key e1
      have I2 := Inv.made (C := He.ga X.K y) I1
      rw [← G.fc.hK] at q
      refine wpAny_call (make_map (f := f) I1.kIn m2 c2.at_ (beq_iff_eq.mp c2.fn) (codeAny_mono (F _ X.stack _ _ (Value.ref (s1.heap.objs.size + 1) :: us) [] (V.ref (s1.heap.objs.size + 1) :: vs) [] _ _ ((G.room.mono (by omega : 3 * n + 1 + 1 ≤ 3 * n + 3)).make (He.ga X.K y) us []) (I2.env0.make (He.ga X.K y) us []) (.cons rfl r) .nil rfl q) fun r s' hq' => ?_))
      cases r with
      | error e => exact G.tk _ _ (XE.of_call I2 (fun _ _ _ h => h) hq')
      | ok fl =>
        cases fl with
        | ret u =>
          obtain ⟨v, H', I3, rv, ev, q3⟩ := I2.after hq'
          subst ev
          exact ⟨rv, ⟨V.ref (s1.heap.objs.size + 1), H', I3, rfl, q3⟩⟩
        | next => exact False.elim hq'
        | brk => exact False.elim hq'
        | cont => exact False.elim hq'
    refine ⟨⟨fun pins s σ H Q I h => ?_⟩, fun _ => rfl⟩
    refine wpAny_Call_Name_kw (ld_glob I g1 m1 ?_ g2)
    cases es with
    | nil =>
      obtain rfl := a_nil h4
      exact PySem.W.callWith_K0 I.kIn m3 (core I .nil h)
    | cons e es =>
      rw [List.all_cons, Bool.and_eq_true] at pn
      exact PySem.W.callWith_K (h₀ := X.base) I.ok.mod.kin m3 (thn (pa.run pos pins s σ H _ I h) fun us s1 ⟨vs, H1, I1, r, q⟩ => ⟨I1.kIn, core I1 r q⟩) (star_cons pn.1) (star_none pn.2)
theorem vals_by : ∀ {xs : List V} {us : List Value}, xs.length = us.length → (∀ (j : Nat) (x : V) (u : Value), xs[j]? = some x → us[j]? = some u → RelV x u) → Vals xs us
  | [], [], _, _ => .nil
  | [], _ :: _, h, _ => by cases h
  | _ :: _, [], h, _ => by cases h
  | x :: xs, u :: us, h, p => .cons (p 0 x u rfl rfl) (vals_by (Nat.succ.inj h) fun j y v e1 e2 => p (j + 1) y v e1 e2)
theorem signs_vals {x : Str} {acc : Array Value} (h : ItemsOf (SignAt x) acc x.cps.size) : Vals (x.cps.toList.map fun c => .str (S [c])) acc.toList := by
  obtain ⟨h1, h2⟩ := h
  refine vals_by (by simp [h1]) fun j y u e1 e2 => ?_
  obtain ⟨c, t, e3, e4⟩ := h2 j u (by simpa using e2)
  rw [List.getElem?_map] at e1
  have e5 : x.cps.toList[j]? = some c := by simpa using e3
  rw [e5] at e1
  cases e1
  exact ⟨t, e4⟩
/-- the value of a built-in's name -/
def B.val : B → Value
  | .len => .builtin "len" | .abs => .builtin "abs" | .sum => .builtin "sum" | .all => .builtin "all" | .any => .builtin "any" | .sorted => .builtin "sorted"
  | .int => .type "int" | .bool => .type "bool" | .str => .type "str" | .list => .type "list" | .tuple => .type "tuple" | .dict => .type "dict"
theorem boot_B (f : B) : bootBuiltins f.nm = some f.val := by cases f <;> decide +kernel
theorem call_B {X : Cx} (hc : X.calm = true) (hh : X.A.handled = none) (f : B) : CallR X f.val (rB X.K f) := by
  cases f with
  | len =>
    refine callImp (callOr call_len_str (callOr call_len_seq call_lenD)) fun xs H Q h => ?_
    have h : rB X.K .len xs H Q := h
    simp only [rB] at h
    split at h
    · exact .inl ⟨_, rfl, h.1, h.2⟩
    · rcases h with ⟨ys, h1, h2⟩ | ⟨ys, h1, h2⟩ | ⟨kvs, h1, h2⟩
      · exact .inr (.inl ⟨_, ys, rfl, .inl h1, h2⟩)
      · exact .inr (.inl ⟨_, ys, rfl, .inr h1, h2⟩)
      · exact .inr (.inr ⟨_, kvs, rfl, h1, h2⟩)
    · exact h.elim
  | abs =>
    refine callImp call_abs fun xs H Q h => ?_
    have h : rB X.K .abs xs H Q := h
    simp only [rB] at h
    split at h
    · exact ⟨_, rfl, h⟩
    · exact h.elim
  | int =>
    refine callImp (callOr call_int1 call_int_str) fun xs H Q h => ?_
    have h : rB X.K .int xs H Q := h
    simp only [rB] at h
    split at h
    · exact .inl (.inl ⟨_, rfl, h⟩)
    · exact .inl (.inr ⟨_, rfl, h⟩)
    · obtain ⟨n, h1, h2, h3⟩ := h
      exact .inr ⟨_, n, rfl, h1, h2, h3⟩
    · exact h.elim
  | bool =>
    refine callImp call_bool1 fun xs H Q h => ?_
    have h : rB X.K .bool xs H Q := h
    simp only [rB] at h
    split at h
    · exact .inl ⟨_, rfl, h⟩
    · exact .inr ⟨_, rfl, h⟩
    · exact h.elim
  | str =>
    refine callImp call_str_int fun xs H Q h => ?_
    have h : rB X.K .str xs H Q := h
    simp only [rB] at h
    split at h
    · exact ⟨_, rfl, h.1, h.2⟩
    · exact h.elim
  | list =>
    intro pins s σ H xs us Q I r h
    have h : rB X.K .list xs H Q := h
    simp only [rB] at h
    split at h
    · obtain ⟨ys, h1, h2⟩ := h
      exact call_list_of pins s σ H _ us Q I r ⟨_, ys, rfl, h1, h2⟩
    · rename_i z h0
      obtain ⟨h1, h2⟩ := h
      obtain ⟨u, rfl, t, rfl⟩ := vals1 r
      have hs : z.cps.size ≤ sizeLine := h1
      refine PySem.call_list_str hh z t (fun h' tk acc' c' kp hl hi => ?_) hs
      refine ⟨.ref s.heap.objs.size, _, I.laid (t' := tk) (o := .lst (z.cps.toList.map fun c => .str (S [c]))) kp (Nat.le_refl _) ⟨by simpa using hs, acc'.toList, c', signs_vals hi, by simpa using hl⟩, rfl, h2 _ (I.hok.fresh (Nat.le_refl _))⟩
    · exact h.elim
  | tuple =>
    intro pins s σ H xs us Q I r h
    have h : rB X.K .tuple xs H Q := h
    simp only [rB] at h
    split at h
    · obtain ⟨ys, h1⟩ := h
      exact call_tuple_of pins s σ H _ us Q I r ⟨_, ys, rfl, h1⟩
    · rename_i z h0
      obtain ⟨h1, h2⟩ := h
      obtain ⟨u, rfl, t, rfl⟩ := vals1 r
      have hs : z.cps.size ≤ sizeLine := h1
      refine PySem.call_tuple_str hh z t (fun h' tk acc kp hi => ?_) hs
      have I1 : Inv X pins σ H { s with heap := h', toks := tk } := I.kept kp
      refine ⟨.ref h'.objs.size, _, I1.laid (t' := tk) (o := .tup (z.cps.toList.map fun c => .str (S [c]))) (fun b ob q => Heap.get?_push_of_some _ q) (Nat.le_refl _) ⟨by simpa using hs, acc.toList, signs_vals hi, ?_⟩, rfl, h2 _ (I1.hok.fresh (Nat.le_refl _))⟩
      exact ⟨_, Heap.get?_push_size _ rfl, rfl, 0, by simp⟩
    · exact h.elim
  | sum =>
    refine callImp (cr_sum hc) fun xs H Q h => ?_
    have h : rB X.K .sum xs H Q := h
    simp only [rB] at h
    split at h
    · obtain ⟨ns, h1, h2⟩ := h
      exact ⟨_, ns, rfl, h1, h2⟩
    · exact h.elim
  | all =>
    refine callImp (cr_all hc) fun xs H Q h => ?_
    have h : rB X.K .all xs H Q := h
    simp only [rB] at h
    split at h
    · obtain ⟨ns, h1, h2⟩ := h
      exact ⟨_, ns, rfl, h1, h2⟩
    · exact h.elim
  | any =>
    refine callImp (cr_any hc) fun xs H Q h => ?_
    have h : rB X.K .any xs H Q := h
    simp only [rB] at h
    split at h
    · obtain ⟨ns, h1, h2⟩ := h
      exact ⟨_, ns, rfl, h1, h2⟩
    · exact h.elim
  | sorted => exact callOr cr_sorted cr_sortedS
  | dict =>
    refine callImp call_dictD fun xs H Q h => ?_
    have h : rB X.K .dict xs H Q := h
    simp only [rB] at h
    split at h
    · obtain ⟨kvs, h1, h2⟩ := h
      exact ⟨_, kvs, rfl, h1, h2⟩
    · exact h.elim
theorem snd_bi {as : I} (f : B) (ha : Snd D C n as) : Snd D C n (.bi f as) := fun X W S G => snd_ofE (f := fun
      | .Call (.Name x _) es [] _ => decide (x = f.nm) && S.gl x && decide (x ∈ D.frees) && !es.isEmpty && (chk D as S).a es
      | _ => false) rfl rfl G.fc.hK fun x hx => by
  cases x <;> first | (cases hx; done) | skip
  rename_i fe es kws pos
  cases fe <;> first | (cases hx; done) | skip
  rename_i y p
  cases kws with
  | cons => cases hx
  | nil =>
    obtain ⟨h1, h5⟩ := b2 (show (decide (y = f.nm) && S.gl y && decide (y ∈ D.frees) && !es.isEmpty && (chk D as S).a es) = true from hx)
    obtain ⟨h1, h4⟩ := b2 h1
    obtain ⟨h1, h3⟩ := b2 h1
    obtain ⟨h1, h2⟩ := b2 h1
    obtain rfl := bd h1
    obtain ⟨g1, g2, g3⟩ := gl_ok G.sc h2
    obtain ⟨pa, pn⟩ := (ha X W S G).a es h5
    cases es with
    | nil => cases h4
    | cons e es =>
      rw [List.all_cons, Bool.and_eq_true] at pn
      refine ⟨?_, fun _ => rfl⟩
      have hb := boot_B f
      have hcall := call_B (X := X) G.calm G.room.hd f
      rw [G.fc.hK] at hcall
      have m := G.fc.fr _ (bd h3)
      cases f <;> first
        | exact pe_callB hcall g1 m hb pa g3 g2 (star_cons pn.1) (star_none pn.2)
        | exact pe_callTy hcall g1 m hb pa g3 g2 (star_cons pn.1) (star_none pn.2)
end
end U

namespace U
open PySem PySem.Spec PyProof.Rows L2
section
variable {D : SD} {C : Ctx} {n : Nat}
/-- a method call, one line, few arguments -/
theorem mcall {X : Cx} {o : Expr} {m : Str} {ap pos : Pos} {es : List Expr} {kws : List Keyword} {Q : Value → Shared → Prop} {s : Shared} (h1 : abase o = true) (h2 : (ap.endLine == pos.line) = true) (h3 : es.length + kws.length + 1 < 30) (h4 : es.all nst = true) (h5 : (backToKw pos (keywordEach kws X.env)).all (fun x => x.1.isSome) = true)
    (h : wpAny (model X.prog X.w) X.A (eval o X.env) (fun ov s₁ => wpAny (model X.prog X.w) X.A (getMethod ov m (plainOf o X.env)) (fun fx s₂ => wpAny (model X.prog X.w) X.A (callWith pos fx.1 fx.2 (backTo pos (starEach es X.env)) (backToKw pos (keywordEach kws X.env))) Q X.xe s₂) X.xe s₁) X.xe s) :
    wpAny (model X.prog X.w) X.A (eval (.Call (.Attribute o m ap) es kws pos) X.env) Q X.xe s := by
  refine PySem.W.methodCall_KW h ?_
  rw [arm_eval_Call, abase_ok h1]
  have hf : methodCallForm (es.length + kws.length) (backTo pos (starEach es X.env)) (backToKw pos (keywordEach kws X.env)) = true := by
    unfold methodCallForm
    rw [star_none' h4, h5]
    simp
    split <;> omega
  simp only [mcall_line hf h2]
theorem snd_meth {o as : I} (m : Str) (ho : Snd D C n o) (ha : Snd D C n as) : Snd D C n (.meth o m as) := fun X W S G => snd_ofE (f := fun
      | .Call (.Attribute x f ap) es [] pos => decide (f = m) && abase x && (ap.endLine == pos.line) && decide (es.length < 29) && (chk D o S).e x && (chk D as S).a es
      | _ => false) rfl rfl G.fc.hK fun x hx => by
  cases x <;> first | (cases hx; done) | skip
  rename_i fe es kws pos
  cases fe <;> first | (cases hx; done) | skip
  rename_i x f ap
  cases kws with
  | cons => cases hx
  | nil =>
    obtain ⟨h1, h6⟩ := b2 (show (decide (f = m) && abase x && (ap.endLine == pos.line) && decide (es.length < 29) && (chk D o S).e x && (chk D as S).a es) = true from hx)
    obtain ⟨h1, h5⟩ := b2 h1
    obtain ⟨h1, h4⟩ := b2 h1
    obtain ⟨h1, h3⟩ := b2 h1
    obtain ⟨h1, h2⟩ := b2 h1
    obtain rfl := bd h1
    obtain ⟨pa, pn⟩ := (ha X W S G).a es h6
    have po := ((ho X W S G).e x h5).1
    refine ⟨⟨fun pins s σ H Q I h => ?_⟩, fun _ => rfl⟩
    refine mcall h2 h3 (by have := bd h4; simp only [List.length_nil]; omega) pn rfl (thn (po.run pins s σ H _ I h) fun u s1 ⟨y, H1, I1, ry, q⟩ => ?_)
    cases y with
    | ref a =>
      obtain rfl : u = Value.ref a := ry
      obtain ⟨cn, dx, fs, key, ea, em, el, q⟩ := q
      obtain ⟨g, c1, c2, c3, F, _⟩ := G.fc.mth cn _ key em
      rw [← G.fc.hK] at ea
      refine getmeth_ok I1 ea c1 c2 el ?_
      cases es with
      | nil =>
        obtain rfl := a_nil h6
        exact PySem.W.callWith_K0 (first := [.ref a]) I1.kIn c2.kp (runA (us := [.ref a]) (vs := [.ref a]) (ws := []) (zs := []) F (room1 G) G.tk I1 (.cons rfl .nil) .nil rfl q)
      | cons e es =>
        rw [List.all_cons, Bool.and_eq_true] at pn
        refine PySem.W.callWith_K (first := [.ref a]) (h₀ := X.base) I.ok.mod.kin c2.kp (thn (pa.run pos pins s1 σ H1 _ I1 q) fun us s2 ⟨vs, H2, I2, r, q2⟩ => ⟨I2.kIn, ?_⟩) (star_cons pn.1) (star_none pn.2)
        exact runA (us := .ref a :: us) (vs := .ref a :: vs) (ws := []) (zs := []) F (room1 G) G.tk I2 (.cons rfl r) .nil rfl q2
    | _ => exact q.elim
theorem mt_get2 {X : Cx} (hu : X.A.units + 1 < cLine) : MtR X "dict.get" (rM X.K .get) := by
  intro pins s σ H x xs v us Q I rx rs h
  obtain ⟨p, y, z, o, rfl, rfl, g, q⟩ := h
  obtain ⟨u1, u2, rfl, r1, r2⟩ := vals2 rs
  obtain rfl : v = Value.ref p := rx
  exact d_get2 hu I g r1 r2 fun w' s' I' rw' => ⟨_, H, I', rw', q⟩
def M.id : M → String
  | .append => "list.append" | .join => "str.join" | .find => "str.find" | .split => "str.split" | .count => "str.count" | .get => "dict.get" | .extend => "list.extend"
theorem M.all (m : M) : PlainAttrs m.T ∧ Slot m.T m.nm m.id ∧ typeOf (.builtin m.id) = pure (.type "method_descriptor") := by
  cases m with
  | append => exact ⟨PySem.F.plainAttrs_list, PySem.F.slot_list_append, PySem.F.type_list_append⟩
  | extend => exact ⟨PySem.F.plainAttrs_list, PySem.F.slot_list_extend, PySem.F.type_list_extend⟩
  | join => exact ⟨PySem.F.plainAttrs_str, PySem.F.slot_str_join, PySem.F.type_str_join⟩
  | find => exact ⟨PySem.F.plainAttrs_str, PySem.F.slot_str_find, PySem.F.type_str_find⟩
  | split => exact ⟨PySem.F.plainAttrs_str, PySem.F.slot_str_split, PySem.F.type_str_split⟩
  | count => exact ⟨PySem.F.plainAttrs_str, PySem.F.slot_str_count, PySem.F.type_str_count⟩
  | get => exact ⟨PySem.F.plainAttrs_dict, PySem.F.slot_dict_get, PySem.F.type_dict_get⟩
theorem mt_M {X : Cx} (hu : X.A.units + 1 < cLine) (m : M) : MtR X m.id (rM X.K m) := by
  cases m with
  | append => exact mt_append
  | extend => exact mt_extend
  | join => exact mt_join
  | find => exact mt_find
  | split => exact mt_split
  | count => exact mt_count
  | get => exact mt_get2 hu
theorem snd_bm {o as : I} (m : M) (ho : Snd D C n o) (ha : Snd D C n as) : Snd D C n (.bm m o as) := fun X W S G => snd_ofE (f := fun
      | .Call (.Attribute x f ap) es [] pos => decide (f = m.nm) && abase x && (ap.endLine == pos.line) && decide (es.length < 29) && !es.isEmpty && (chk D o S).e x && (chk D as S).a es
      | _ => false) rfl rfl G.fc.hK fun x hx => by
  cases x <;> first | (cases hx; done) | skip
  rename_i fe es kws pos
  cases fe <;> first | (cases hx; done) | skip
  rename_i x f ap
  cases kws with
  | cons => cases hx
  | nil =>
    obtain ⟨h1, h7⟩ := b2 (show (decide (f = m.nm) && abase x && (ap.endLine == pos.line) && decide (es.length < 29) && !es.isEmpty && (chk D o S).e x && (chk D as S).a es) = true from hx)
    obtain ⟨h1, h6⟩ := b2 h1
    obtain ⟨h1, h5⟩ := b2 h1
    obtain ⟨h1, h4⟩ := b2 h1
    obtain ⟨h1, h3⟩ := b2 h1
    obtain ⟨h1, h2⟩ := b2 h1
    obtain rfl := bd h1
    obtain ⟨pa, pn⟩ := (ha X W S G).a es h7
    have po := ((ho X W S G).e x h6).1
    cases es with
    | nil => cases h5
    | cons e es =>
      have pn' := pn
      rw [List.all_cons, Bool.and_eq_true] at pn'
      obtain ⟨m1, m2, m3⟩ := M.all m
      refine ⟨?_, fun _ => rfl⟩
      have := pe_bm (cpos := pos) (apos := ap) m1 m2 m3 (mt_M (X := X) (by have := G.room.un; omega) m) po pa (abase_ok h2) (by
        rw [star_none' pn]
        have := bd h4
        simp only [List.length_cons] at this
        simp [keywordEach, backToKw]
        omega) h3 (star_cons pn'.1) (star_none pn'.2)
      rw [G.fc.hK] at this
      exact this
theorem snd_att {o : I} (f : Str) (ho : Snd D C n o) : Snd D C n (.att o f) := fun X W S G => snd_ofE (f := fun
      | .Attribute x f' _ => decide (f = f') && abase x && (chk D o S).e x
      | _ => false) rfl rfl G.fc.hK fun x hx => by
  cases x <;> first | (cases hx; done) | skip
  rename_i x f' pos
  obtain ⟨h1, h3⟩ := b2 (show (decide (f = f') && abase x && (chk D o S).e x) = true from hx)
  obtain ⟨h1, h2⟩ := b2 h1
  obtain rfl := bd h1
  have po := ((ho X W S G).e x h3).1
  refine ⟨⟨fun pins s σ H Q I h => ?_⟩, fun _ => rfl⟩
  refine attr_of (abase_ok h2) (thn (po.run pins s σ H _ I h) fun u s1 ⟨y, H1, I1, ry, q⟩ => ?_)
  cases y with
  | ref a =>
    obtain rfl : u = Value.ref a := ry
    obtain ⟨cn, dx, fs, ea, q⟩ := q
    rw [← G.fc.hK] at ea
    rcases q with ⟨e1, v, l, q⟩ | ⟨key, e1, q⟩
    · obtain ⟨c1, c2⟩ := G.fc.fld cn f e1
      exact getattr_ok I1 ea c1 c2 l fun u' s2 I2 ru => ⟨v, H1, I2, ru, q⟩
    · obtain ⟨c1, p, g, hp, F⟩ := G.fc.prp cn f key e1
      obtain ⟨mA, O, _, _, _, _⟩ := ins_get I1.hok ea
      obtain ⟨od, J, _⟩ := O.look
      obtain ⟨rest, hrec⟩ := hp.rec_
      have I1' := I1.tok (s1.toks + 1)
      have hc : (PySem.W.clsIn X.K (He.ga X.K cn)).isSome = true := by
        obtain ⟨cd, hc, _⟩ := PySem.W.any_some c1.hd
        rw [hc]
        rfl
      refine PySem.W.get_bind I1.kIn J (PySem.W.plainGet_of (c1.get f)).1 (PySem.W.findObj_data hc hp.at_ hp.get hp.tak) (PySem.W.plainGet_of (c1.get f)).2 (wpAny_call (PySem.W.prop_get (s := { s1 with toks := s1.toks + 1 }) I1.kIn hrec ?_))
      refine codeAny_mono (F X.A.in1 X.stack { s1 with toks := s1.toks + 1 } H1 [.ref a] [] [.ref a] [] Q (fun _ _ _ => False) (G.room.mono (by omega : 3 * n + 1 + 1 ≤ 3 * n + 3)).in1 I1'.env0.in1 (.cons rfl .nil) .nil rfl q) fun r s' hq => ?_
      cases r with
      | error er =>
        obtain ⟨_, _, _, _, _, _, _, _, _, _, _, _, z⟩ := hq
        exact z.elim
      | ok fl =>
        cases fl with
        | ret u =>
          obtain ⟨v, H', I3, rv, q3⟩ := I1'.after hq
          show wpAny _ _ (handedOut u) _ _ _
          rw [PySem.W.handedOut_of (handed_of rv)]
          exact wpAny_pure ⟨v, H', I3, rv, q3⟩
        | next => exact False.elim hq
        | brk => exact False.elim hq
        | cont => exact False.elim hq
  | _ => exact q.elim
theorem ix_ok {X : Cx} (hu : X.A.units + 1 < cLine) {T : List KTab} (kg : KGood X.K X.w T) : IxR X (rIxU X.K X.w T) := by
  intro value slice pins s σ H x y v u Q I rx ry h hs
  unfold rIxU at h
  split at h
  · obtain ⟨h1, c, h2, q⟩ := h
    exact ix_str value slice pins s σ H _ _ v u Q I rx ry ⟨_, _, c, rfl, rfl, h1, h2, q⟩ hs
  · rcases h with ⟨xs, h1, z, h2, q⟩ | ⟨xs, h1, z, h2, q⟩ | ⟨z, g, q⟩
    · exact ix_list value slice pins s σ H _ _ v u Q I rx ry ⟨_, xs, _, z, rfl, rfl, h1, h2, q⟩ hs
    · exact ix_tup value slice pins s σ H _ _ v u Q I rx ry ⟨_, xs, _, z, rfl, rfl, h1, h2, q⟩ hs
    · cases rx
      exact tail_any (dict_typeIs I g) PySem.F.slot_dict_getitem.lookup (d_getItem hu I g ry fun w' s3 I3 rw' => ⟨z, H, I3, rw', q⟩) hs
  · rcases h with ⟨kvs, e, z, h2, q⟩ | ⟨z, ⟨t, ht, rfl, e⟩, q⟩
    · have g : DGet H _ (.str _) (some z) := .inl ⟨kvs, .inr _, e, rfl, h2.symm⟩
      cases rx
      exact tail_any (dict_typeIs I g) PySem.F.slot_dict_getitem.lookup (d_getItem hu I g ry fun w' s3 I3 rw' => ⟨z, H, I3, rw', q⟩) hs
    · obtain ⟨es, n, D, g⟩ := kg t ht
      obtain ⟨r, er, rr⟩ := g _
      rw [← e] at rr
      obtain ⟨u0, e0, r0⟩ := RelO.some_of rr
      subst e0
      exact ix_kdict value slice pins s σ H _ _ v u Q I rx ry ⟨_, _, z, rfl, rfl, ⟨es, n, u0, D.at_, D.lit, er, r0⟩, q⟩ hs
  · exact h.elim
theorem snd_ix {o i : I} (ho : Snd D C n o) (hi : Snd D C n i) : Snd D C n (.ix o i) := fun X W S G => snd_ofE (f := fun
      | .Subscript x y _ => noSlice y && (chk D o S).e x && (chk D i S).e y
      | _ => false) rfl rfl G.fc.hK fun x hx => by
  cases x <;> first | (cases hx; done) | skip
  rename_i x y pos
  obtain ⟨h1, h3⟩ := b2 (show (noSlice y && (chk D o S).e x && (chk D i S).e y) = true from hx)
  obtain ⟨h1, h2⟩ := b2 h1
  refine ⟨?_, fun _ => rfl⟩
  have := pe_ix (pos := pos) (ix_ok (X := X) (by have := G.room.un; omega) G.fc.kg) ((ho X W S G).e x h2).1 ((hi X W S G).e y h3).1 (plainIx_ok h1)
  rw [G.fc.hK, G.fc.hw] at this
  exact this
theorem sl_ok {X : Cx} : SlR X (rSlU X.K) := by
  intro pins s σ H x v vl vu lo hi sl Q I rx hs pl pu h
  unfold rSlU at h
  split at h
  · exact sl_str pins s σ H _ v vl vu lo hi sl Q I rx hs pl pu ⟨_, rfl, h⟩
  · rcases h with h | h
    · exact sl_list pins s σ H _ v vl vu lo hi sl Q I rx hs pl pu h
    · exact sl_tupA pins s σ H _ v vl vu lo hi sl Q I rx hs pl pu h
  · exact h.elim
theorem snd_sl {o lo hi : I} (ho : Snd D C n o) (hl : Snd D C n lo) (hh : Snd D C n hi) : Snd D C n (.sl o lo hi) := fun X W S G => snd_ofE (f := fun
      | .Subscript x (.Slice l h none _) _ => (chk D o S).e x && (chk D lo S).o l && (chk D hi S).o h
      | _ => false) rfl rfl G.fc.hK fun x hx => by
  cases x <;> first | (cases hx; done) | skip
  rename_i x y pos
  cases y <;> first | (cases hx; done) | skip
  rename_i l h st p2
  cases st with
  | some => cases hx
  | none =>
    obtain ⟨h1, h3⟩ := b2 (show ((chk D o S).e x && (chk D lo S).o l && (chk D hi S).o h) = true from hx)
    obtain ⟨h1, h2⟩ := b2 h1
    refine ⟨?_, fun _ => rfl⟩
    have := pe_slice (pos := pos) (p2 := p2) (sl_ok (X := X)) ((ho X W S G).e x h1).1 ((hl X W S G).o l h2) ((hh X W S G).o h h3)
    rw [G.fc.hK] at this
    exact this
theorem snd_ostr {a : I} (ha : Snd D C n a) : Snd D C n (.ostr a) := fun X W S G => snd_ofE (f := fun
      | .Call (.Name x _) [y] [] _ => decide (x = ("str" : Str)) && S.gl x && decide (x ∈ D.frees) && nst y && (chk D a S).e y
      | _ => false) rfl rfl G.fc.hK fun x hx => by
  cases x <;> first | (cases hx; done) | skip
  rename_i fe es kws pos
  cases fe <;> first | (cases hx; done) | skip
  rename_i x p
  rcases es with _ | ⟨y, _ | ⟨y2, es⟩⟩ <;> first | (cases hx; done) | skip
  cases kws with
  | cons => cases hx
  | nil =>
    obtain ⟨h1, h5⟩ := b2 (show (decide (x = ("str" : Str)) && S.gl x && decide (x ∈ D.frees) && nst y && (chk D a S).e y) = true from hx)
    obtain ⟨h1, h4⟩ := b2 h1
    obtain ⟨h1, h3⟩ := b2 h1
    obtain ⟨h1, h2⟩ := b2 h1
    obtain rfl := bd h1
    obtain ⟨g1, g2, g3⟩ := gl_ok G.sc h2
    have pa := ((ha X W S G).e y h5).1
    have hcall : CallR X (.type "str") (fun xs H1 Q => ∃ a cn dx fs key, xs = [.ref a] ∧ H1 a = some (.ins (He.ga C.K cn) dx fs) ∧ C.mth cn "__str__" = some key ∧ C.fn key [.ref a] H1 (fun v H2 => match v with | .str z => Q (.str z) H2 | _ => False) fun _ _ _ => False) := by
      intro pins s σ H xs us Q I r h
      obtain ⟨a, cn, dx, fs, key, rfl, ea, em, q⟩ := h
      obtain ⟨u, rfl, ru⟩ := vals1 r
      obtain rfl : u = Value.ref a := ru
      obtain ⟨g, c1, c2, c3, F, _⟩ := G.fc.mth cn _ key em
      rw [← G.fc.hK] at ea
      obtain ⟨mA, O, _, _, _, _⟩ := ins_get I.hok ea
      obtain ⟨od, J, _⟩ := O.look
      have hu := G.room.un
      refine PySem.W.kso_call (by show X.A.units + 1 + 1 < cLine; omega) I.kIn J c2.at_ c2.fn ?_
      refine wpAny_call (codeAny_mono (F X.A.in1.in1 X.stack s H [.ref a] [] [.ref a] [] _ (fun _ _ _ => False) (G.room.mono (by omega : 3 * n + 1 + 1 + 1 ≤ 3 * n + 3)).in1.in1 I.env0.in1.in1 (.cons rfl .nil) .nil rfl q) fun r s' hq => ?_)
      cases r with
      | error er =>
        obtain ⟨_, _, _, _, _, _, _, _, _, _, _, _, z⟩ := hq
        exact z.elim
      | ok fl =>
        cases fl with
        | ret u =>
          obtain ⟨v, H', I3, rv, q3⟩ := I.after hq
          cases v with
          | str z =>
            obtain ⟨t, rfl⟩ := rv
            exact ⟨.str z, H', I3, ⟨t, rfl⟩, q3⟩
          | _ => exact q3.elim
        | next => exact False.elim hq
        | brk => exact False.elim hq
        | cont => exact False.elim hq
    refine ⟨⟨fun pins s σ H Q I h => ?_⟩, fun _ => rfl⟩
    refine wpAny_Call_Name_kw (ld_blt I g1 (G.fc.fr _ (bd h3)) (by decide +kernel : bootBuiltins "str" = some (.type "str")) ?_ g3 g2)
    refine PyProof.Rows.callWith_type1 ?_ (star_cons h4) rfl
    rw [star_cons h4]
    show wpAny _ _ (spliced ((false, eval y X.env) :: backTo pos (starEach [] X.env))) _ _ s
    refine Calls.spliced_cons (thn (pa.run pins s σ H _ I h) fun u s1 ⟨x, H1, I1, r1, q1⟩ => Calls.spliced_nil ?_)
    cases x with
    | ref a =>
      obtain ⟨cn, dx, fs, key, q⟩ := q1
      exact hcall pins s1 σ H1 _ _ Q I1 (.cons r1 .nil) ⟨a, cn, dx, fs, key, rfl, q⟩
    | _ => exact q1.elim
end
end U

namespace U
open PySem PySem.Spec PyProof.Rows L2
section
variable {D : SD} {C : Ctx} {n : Nat}
/-! ### isinstance -/
abbrev tyNames : List String := ["NoneType", "bool", "int", "str", "list", "tuple", "dict"]
abbrev clNames : List String := ["int", "bool", "str", "list", "tuple", "dict"]
theorem kitB_all : ∀ t ∈ tyNames, ∀ c ∈ clNames, kitB t c = some (subTy t c) := by decide +kernel
def crV (K : PySem.W.Frag) : CR → V
  | .ty n => .ty n
  | .own x => .ref (He.ga K x)
def crU (K : PySem.W.Frag) : CR → Value
  | .ty n => .type n
  | .own x => .ref (He.ga K x)
/-- a class reference of the text -/
def crG (D : SD) : CR → Prop
  | .ty n => n ∈ clNames
  | .own x => x ∈ D.clss
theorem isiT_kit {P : Program} {w : World} {K : PySem.W.Frag} {mg : Str → Option Value} {base : Heap} (F : Fc D C n P w K mg base) {t : String} (ht : t ∈ tyNames) {c : CR} (hc : crG D c) : PySem.W.kitOne K (.type t) (crU K c) = some (isiT t c) := by
  cases c with
  | ty m => exact kit_ty (kitB_all t ht m hc)
  | own x => exact (F.cls x hc).2 t ht
theorem kitAny_of {K : PySem.W.Frag} {t : Value} : ∀ {cs : List CR} {bs : List Bool}, cs.map (fun c => PySem.W.kitOne K t (crU K c)) = bs.map some → PySem.W.kitAny K t (cs.map (crU K)) = some (bs.any id)
  | [], [], _ => rfl
  | [], _ :: _, h => by cases h
  | _ :: _, [], h => by cases h
  | c :: cs, b :: bs, h => by
    obtain ⟨h1, h2⟩ := List.cons.inj h
    refine kitAny_cons h1 (fun e => ?_) (fun e => ?_)
    · subst e
      rw [List.any_cons]
      exact kitAny_of h2
    · subst e
      rfl
theorem crs_len : ∀ {cs : List CR} {es : List Expr} {S : SC}, crsOk D S cs es = true → cs.length = es.length
  | [], [], _, _ => rfl
  | [], _ :: _, _, h => by cases h
  | _ :: _, [], _, h => by cases h
  | c :: cs, e :: es, S, h => by rw [List.length_cons, List.length_cons, crs_len (b2 h).2]
theorem cr_ok {X : Cx} {W : WX} {S : SC} (G : Gd D C n X W S) {c : CR} {e : Expr} (h : crOk D S c e = true) : PE X e (tC (crV X.K c)) ∧ crG D c ∧ nst e = true := by
  cases e <;> first | (cases h; done) | skip
  rename_i x pos
  obtain ⟨h1, h2⟩ := b2 h
  obtain ⟨g1, g2, g3⟩ := gl_ok G.sc h1
  cases c with
  | ty m =>
    obtain ⟨h3, h4⟩ := b2 h2
    obtain ⟨h4, h5⟩ := b2 h4
    exact ⟨pe_bltn g1 (G.fc.fr _ (bd h3)) (bd h4) rfl g3 g2, (show m ∈ clNames from bd h5), rfl⟩
  | own y =>
    obtain ⟨h3, h4⟩ := b2 h2
    obtain rfl := bd h3
    exact ⟨pe_glob g1 (G.fc.cls _ (bd h4)).1 rfl g2, (show x ∈ D.clss from bd h4), rfl⟩
/-- the classes of a display, from the left -/
theorem crs_ok {X : Cx} {W : WX} {S : SC} (G : Gd D C n X W S) : ∀ {cs : List CR} {es : List Expr}, crsOk D S cs es = true → PA X es (fun _ H Q => Q (cs.map (crV X.K)) H) ∧ (∀ c ∈ cs, crG D c) ∧ es.all nst = true
  | [], [], _ => ⟨pa_nil, (fun c hc => nomatch hc), rfl⟩
  | [], _ :: _, h => by cases h
  | _ :: _, [], h => by cases h
  | c :: cs, e :: es, h => by
    obtain ⟨h1, h2⟩ := b2 h
    obtain ⟨p1, p2, p3⟩ := cr_ok G h1
    obtain ⟨q1, q2, q3⟩ := crs_ok G h2
    refine ⟨pa_cons p1 q1 (star_cons p3), fun z hz => ?_, by rw [List.all_cons, p3, q3]; rfl⟩
    rcases List.mem_cons.mp hz with e | hz
    · rw [e]; exact p2
    · exact q2 z hz
theorem clsV_all {K : PySem.W.Frag} : ∀ cs : List CR, Paired ClsV (cs.map (crV K)) (cs.map (crU K))
  | [] => .nil
  | .ty n :: cs => .cons (.ty n) (clsV_all cs)
  | .own x :: cs => .cons (.own _) (clsV_all cs)
/-- what Isi says, for the library's rule -/
theorem isi_look {P : Program} {w : World} {K : PySem.W.Frag} {mg : Str → Option Value} {base : Heap} (F : Fc D C n P w K mg base) {H : Hp} {x : V} {cs : List CR} {Q : VK} (hg : ∀ c ∈ cs, crG D c) (hne : cs ≠ []) (h : Isi C H x cs Q) :
    ∃ (t : Value) (bs : List Bool), TyX K H x t ∧ cs.map (fun c => PySem.W.kitOne K t (crU K c)) = bs.map some ∧ Q (.bl (bs.any id)) H := by
  have byT : ∀ {t : String}, t ∈ tyNames → cs.map (fun c => PySem.W.kitOne K (.type t) (crU K c)) = (cs.map (isiT t)).map some := fun {t} ht => by
    rw [List.map_map]
    exact List.map_congr_left fun c hc => isiT_kit F ht (hg c hc)
  have fin : ∀ {t : String}, Q (.bl (cs.any (isiT t))) H → Q (.bl ((cs.map (isiT t)).any id)) H := fun {t} q => by
    rw [List.any_map]
    exact q
  unfold Isi at h
  cases x with
  | non => exact ⟨_, _, .base .non, byT (by decide), fin h⟩
  | bl b => exact ⟨_, _, .base (.bl b), byT (by decide), fin h⟩
  | int i => exact ⟨_, _, .base (.int i), byT (by decide), fin h⟩
  | str z => exact ⟨_, _, .base (.str z), byT (by decide), fin h⟩
  | byt _ => exact h.elim
  | flt _ => exact h.elim
  | ty _ => exact h.elim
  | ref p =>
    rcases h with ⟨cn, dx, fs, ho, bs, e, q⟩ | ⟨o, ho, t, e, q⟩
    · rw [← F.hK] at ho
      have all : ∀ {cs : List CR} {bs : List Bool}, cs.map (C.isi cn) = bs.map some → cs.map (fun c => PySem.W.kitOne K (.ref (He.ga K cn)) (crU K c)) = bs.map some := by
        intro cs
        induction cs with
        | nil => intro bs e; exact e
        | cons c cs ih =>
          intro bs e
          cases bs with
          | nil => cases e
          | cons b bs =>
            obtain ⟨e1, e2⟩ := List.cons.inj e
            rw [List.map_cons, List.map_cons, ih e2]
            congr 1
            have := (F.isi cn c b e1).2
            cases c <;> exact this
      cases cs with
      | nil => exact absurd rfl hne
      | cons c cs =>
        cases bs with
        | nil => cases e
        | cons b bs =>
          obtain ⟨e1, e2⟩ := List.cons.inj e
          obtain ⟨⟨c1, a1, a2, a3, a4⟩, _⟩ := F.isi cn c b e1
          exact ⟨_, b :: bs, .base (.ins ho c1 a1 a2 a3 a4), all e, q⟩
    · cases o with
      | lst xs =>
        cases e
        rcases ho with ho | ⟨ob, ho⟩
        · exact ⟨_, _, .base (.lst ho), byT (by decide), fin q⟩
        · exact ⟨_, _, .base (.frz ho), byT (by decide), fin q⟩
      | tup xs =>
        cases e
        rcases ho with ho | ⟨ob, ho⟩
        · exact ⟨_, _, .base (.tup ho), byT (by decide), fin q⟩
        · exact ⟨_, _, .fTuple ho, byT (by decide), fin q⟩
      | dK kvs =>
        cases e
        rcases ho with ho | ⟨ob, ho⟩
        · exact ⟨_, _, .base (.dK ho), byT (by decide), fin q⟩
        · exact ⟨_, _, .fDict ho, byT (by decide), fin q⟩
      | _ => cases e
theorem snd_isi {a : I} (cs : List CR) (many : Bool) (ha : Snd D C n a) : Snd D C n (.isi a cs many) := fun X W S G => snd_ofE (f := fun
      | .Call (.Name x _) [y, c] [] _ => decide (x = ("isinstance" : Str)) && S.gl x && decide (x ∈ D.frees) && nst y && !cs.isEmpty && (chk D a S).e y && (match many with
        | false => nst c && crsOk D S cs [c]
        | true => (match c with
          | .Tuple es _ _ => es.all nst && crsOk D S cs es && decide (es.length ≤ 15)
          | _ => false))
      | _ => false) rfl rfl G.fc.hK fun x hx => by
  cases x <;> first | (cases hx; done) | skip
  rename_i fe es kws pos
  cases fe <;> first | (cases hx; done) | skip
  rename_i x p
  rcases es with _ | ⟨y, _ | ⟨c, _ | ⟨y2, es⟩⟩⟩ <;> first | (cases hx; done) | skip
  cases kws with
  | cons => cases hx
  | nil =>
    obtain ⟨h1, h7⟩ := b2 hx
    obtain ⟨h1, h6⟩ := b2 h1
    obtain ⟨h1, h5⟩ := b2 h1
    obtain ⟨h1, h4⟩ := b2 h1
    obtain ⟨h1, h3⟩ := b2 h1
    obtain ⟨h1, h2⟩ := b2 h1
    obtain rfl := bd h1
    obtain ⟨g1, g2, g3⟩ := gl_ok G.sc h2
    have pa := ((ha X W S G).e y h6).1
    have hne : cs ≠ [] := by
      intro z
      rw [z] at h5
      cases h5
    have hnc : nst c = true := by
      cases many with
      | false => exact (b2 h7).1
      | true => cases c <;> first | rfl | (cases h7; done)
    refine ⟨⟨fun pins s σ H Q I h => ?_⟩, fun _ => rfl⟩
    refine wpAny_Call_Name_kw (ld_blt I g1 (G.fc.fr _ (bd h3)) (by decide +kernel : bootBuiltins "isinstance" = some (.builtin "isinstance")) ?_ g3 g2)
    refine PyProof.Rows.callWith_builtin1 ?_ (star_cons h4) (star_none (by rw [List.all_cons, hnc]; rfl))
    rw [star_cons h4]
    show wpAny _ _ (spliced ((false, eval y X.env) :: backTo pos (starEach [c] X.env))) _ _ s
    refine Calls.spliced_cons (thn (pa.run pins s σ H _ I h) fun u s1 ⟨x, H1, I1, r1, q1⟩ => ?_)
    rw [star_cons hnc]
    show wpAny _ _ (spliced ((false, eval c X.env) :: backTo pos (starEach [] X.env))) _ _ s1
    cases many with
    | false =>
      obtain ⟨_, h8⟩ := b2 h7
      rcases cs with _ | ⟨c0, _ | ⟨c1, cs⟩⟩
      · exact absurd rfl hne
      · obtain ⟨h9, _⟩ := b2 h8
        obtain ⟨p1, p2, _⟩ := cr_ok G h9
        have q1 : Isi C H1 x [c0] Q := q1
        obtain ⟨t, bs, ty, e, q⟩ := isi_look G.fc (fun z hz => by rw [List.mem_singleton.mp hz]; exact p2) hne q1
        cases bs with
        | nil => cases e
        | cons b bs =>
        obtain ⟨e1, e2⟩ := List.cons.inj e
        have e3 : bs = [] := by
          cases bs with
          | nil => rfl
          | cons => cases e2
        subst e3
        refine Calls.spliced_cons (thn (p1.run pins s1 σ H1 (fun v H2 => v = crV X.K c0 ∧ H2 = H1) I1 ⟨rfl, rfl⟩) fun u2 s2 ⟨x2, H2, I2, r2, q2⟩ => Calls.spliced_nil ?_)
        obtain ⟨rfl, rfl⟩ := q2
        refine call_isi pins s2 σ H2 [x, crV X.K c0] _ Q I2 (.cons r1 (.cons r2 .nil)) ⟨x, crV X.K c0, t, crU X.K c0, b, rfl, ?_, ty, e1, by simpa using q⟩
        cases c0 with
        | ty m => exact .ty m
        | own z => exact .own _
      · obtain ⟨_, h9⟩ := b2 h8
        cases h9
    | true =>
      cases c <;> first | (cases h7; done) | skip
      rename_i es kk tp
      obtain ⟨h7, h9⟩ := b2 h7
      obtain ⟨_, h8⟩ := b2 h7
      obtain ⟨p1, p2, _⟩ := crs_ok G h8
      have hlen := crs_len h8
      refine Calls.spliced_cons (thn ((pe_tup (x1 := kk) (pos := tp) p1).run pins s1 σ H1 (fun v H2 => ∃ p, H1 p = none ∧ v = .ref p ∧ H2 = upd H1 p (.tup (cs.map (crV X.K)))) I1 ⟨by rw [List.length_map, hlen, sizeLine_eq]; have := bd h9; omega, fun p hp => ⟨p, hp, rfl, rfl⟩⟩) fun u2 s2 ⟨x2, H2, I2, r2, q2⟩ => Calls.spliced_nil ?_)
      obtain ⟨p, hp, rfl, rfl⟩ := q2
      have q1 : Isi C (upd H1 p (.tup (cs.map (crV X.K)))) x cs Q := by
        rw [G.fc.hK]
        exact q1 p hp
      obtain ⟨t, bs, ty, e, q⟩ := isi_look G.fc p2 hne q1
      exact call_isiT pins s2 σ _ [x, .ref p] _ Q I2 (.cons r1 (.cons r2 .nil)) ⟨x, p, _, t, _, _, rfl, upd_same, clsV_all cs, ty, kitAny_of e, q⟩
end
end U

namespace U
open PySem PySem.Spec PyProof.Rows L2
section
variable {D : SD} {C : Ctx} {n : Nat}
theorem callO_kw {M : Model} {A : Around} {E : Value → Shared → Prop} {s : Shared} {a : Addr} {pos : Pos} {Q : Value → Shared → Prop} {args : List (Bool × Sem Value)} {kws : List (Option Str × Sem Value)} (hplain : (args.any (·.1) || kws.any (·.1.isNone)) = false)
    (h : wpAny M A (evalArgs (.ref a) true args kws) (fun z s₁ => (∃ C ox od, PySem.W.InstAt s₁.heap a ox C od ∧ ox.data = .plain) ∧ wpAny M A (call (.ref a) ([] ++ z.pos) z.kw) Q E s₁) E s) : wpAny M A (callWith pos (.ref a) [] args kws) Q E s := by
  unfold callWith
  refine wpAny_bind (wpAny_holding (wpAny_mono h (fun z s₁ h₁ => wpAny_bind (wpAny_standAt ?_)) fun _ _ y => y))
  obtain ⟨⟨C, ox, od, J, hd⟩, h₁⟩ := h₁
  have L := PySem.W.kco_keeper (M := M) J hd
  simp only [hplain]
  refine wpAny_bind (L.here ?_)
  have tail : ∀ {t : Sem Value}, wpAny M A t Q E s₁ → wpAny M A (t >>= fun r => holding [r] point >>= fun _ => pure r) Q E s₁ :=
    fun ht => wpAny_bind (wpAny_mono ht (fun r s₂ hr => wpAny_bind (wpAny_holding (wpAny_point (wpAny_pure hr)))) fun _ _ y => y)
  exact tail (wpAny_operateT h₁)
theorem kw_names {env : Env} {pos : Pos} : ∀ {kws : List Keyword} {ks : List Str}, kws.map (·.arg) = ks.map some →
    (backToKw pos (keywordEach kws env)).all (·.1.isSome) = true ∧ (backToKw pos (keywordEach kws env)).filterMap (·.1) = ks ∧ (backToKw pos (keywordEach kws env)).any (·.1.isNone) = false ∧ kws.length = ks.length
  | [], [], _ => ⟨rfl, rfl, rfl, rfl⟩
  | [], _ :: _, h => by cases h
  | _ :: _, [], h => by cases h
  | ⟨nm, v, p⟩ :: kws, k :: ks, h => by
    obtain ⟨h1, h2⟩ := List.cons.inj h
    obtain ⟨i1, i2, i3, i4⟩ := kw_names (env := env) (pos := pos) h2
    have h1 : nm = some k := h1
    subst h1
    refine ⟨?_, ?_, ?_, by simp [i4]⟩
    · show (true && (backToKw pos (keywordEach kws env)).all (·.1.isSome)) = true
      rw [i1]; rfl
    · show k :: (backToKw pos (keywordEach kws env)).filterMap (·.1) = k :: ks
      rw [i2]
    · show (false || (backToKw pos (keywordEach kws env)).any (·.1.isNone)) = false
      rw [i3]; rfl
theorem call_fe {M : Model} {A : Around} {env : Env} {fe : Expr} {es : List Expr} {kws : List Keyword} {pos : Pos} {Q : Value → Shared → Prop} {E : Value → Shared → Prop} {s : Shared} (hc : calE fe = true)
    (h : wpAny M A (eval fe env) (fun f s' => wpAny M A (callWith pos f [] (backTo pos (starEach es env)) (backToKw pos (keywordEach kws env))) Q E s') E s) : wpAny M A (eval (.Call fe es kws pos) env) Q E s := by
  cases fe <;> first | (cases hc; done) | skip
  · exact wpAny_bind h
  · exact wpAny_bind h
theorem snd_icall {o as zs : I} (ks : List Str) (ho : Snd D C n o) (ha : Snd D C n as) (hz : Snd D C n zs) : Snd D C n (.icall o as ks zs) := fun X W S G => snd_ofE (f := fun
      | .Call fe es kws pos => calE fe && (chk D o S).e fe && (chk D as S).a es && decide (kws.map (·.arg) = ks.map some) && (chk D zs S).a (kws.map (·.value)) && decide (es.length + kws.length < 12)
      | _ => false) rfl rfl G.fc.hK fun x hx => by
  cases x <;> first | (cases hx; done) | skip
  rename_i fe es kws pos
  obtain ⟨h1, h6⟩ := b2 (show (calE fe && (chk D o S).e fe && (chk D as S).a es && decide (kws.map (·.arg) = ks.map some) && (chk D zs S).a (kws.map (·.value)) && decide (es.length + kws.length < 12)) = true from hx)
  obtain ⟨h1, h5⟩ := b2 h1
  obtain ⟨h1, h4⟩ := b2 h1
  obtain ⟨h1, h3⟩ := b2 h1
  obtain ⟨h1, h2⟩ := b2 h1
  have h4 := bd h4
  obtain ⟨k1, k2, k3, k4⟩ := kw_names (env := X.env) (pos := pos) h4
  have po := ((ho X W S G).e _ h2).1
  obtain ⟨pa, pn⟩ := (ha X W S G).a es h3
  have pk := (hz X W S G).k kws h5
  refine ⟨⟨fun pins s σ H Q I h => ?_⟩, fun _ => rfl⟩
  refine call_fe h1 (thn (po.run pins s σ H _ I h) fun u s1 ⟨y, H1, I1, ry, q⟩ => ?_)
  cases y with
  | ref a =>
    obtain rfl : u = Value.ref a := ry
    obtain ⟨cn, _, q⟩ := q
    have fin : ∀ {s3 : Shared} {H3 : Hp} {us ws : List Value} {vs ts : List V}, Inv X pins σ H3 s3 → Vals vs us → Vals ts ws → (∃ dx fs key, H3 a = some (.ins (He.ga C.K cn) dx fs) ∧ C.mth cn "__call__" = some key ∧
          kwRun C key ks (.ref a :: vs) ts H3 Q (fun cls d H' => W cls d σ H')) →
        (∃ C ox od, PySem.W.InstAt s3.heap a ox C od ∧ ox.data = .plain) ∧ wpAny (model X.prog X.w) X.A (call (.ref a) ([] ++ us) (ks.zip ws)) (EP X pins σ Q) X.xe s3 := fun {s3 H3 us ws vs ts} I3 r rt q => by
      obtain ⟨dx, fs, key, ea, em, q⟩ := q
      obtain ⟨g, c1, c2, c3, F, FK⟩ := G.fc.mth cn _ key em
      rw [← G.fc.hK] at ea
      obtain ⟨mA, O, _, _, _, _⟩ := ins_get I3.hok ea
      obtain ⟨od, J, _⟩ := O.look
      refine ⟨⟨_, _, _, J, rfl⟩, ?_⟩
      refine wpAny_call (PySem.W.kco_code I3.kIn J rfl c2.at_ c2.fn c3 ?_)
      cases ks with
      | nil =>
        refine codeAny_mono (F X.A X.stack s3 H3 (.ref a :: us) [] (.ref a :: vs) [] Q _ (room1 G) I3.env0 (.cons rfl r) .nil rfl q) fun r s' hq => ?_
        have := ends_of G.tk I3 hq
        cases r with
        | error e => exact this
        | ok fl => cases fl <;> first | exact this | exact this.elim
      | cons k ks =>
        obtain ⟨hl, ord, zs, e1, e2, q⟩ := q
        refine codeAny_mono (FK _ _ ord e1 X.A X.stack s3 H3 (.ref a :: us) ws (.ref a :: vs) ts Q _ (room1 G) I3.env0 (.cons rfl r) rt hl ⟨rfl, zs, e2, q⟩) fun r s' hq => ?_
        have := ends_of G.tk I3 hq
        cases r with
        | error e => exact this
        | ok fl => cases fl <;> first | exact this | exact this.elim
    cases es with
    | nil =>
      obtain rfl := a_nil h3
      refine callO_kw (by rw [k3]; rfl) (PyProof.Rows.evalArgs_kw2_nil k1 ?_)
      refine thn (pk.run pos pins s1 σ H1 _ I1 q) fun ws s3 ⟨ts, H3, I3, rt, q3⟩ => ?_
      rw [k2]
      exact fin I3 .nil rt q3
    | cons e es =>
      have pn' := pn
      rw [List.all_cons, Bool.and_eq_true] at pn'
      refine callO_kw (by rw [k3, star_none pn]; rfl) (PyProof.Rows.evalArgs_kw2 k1 ?_ (star_cons pn'.1))
      refine thn (pa.run pos pins s1 σ H1 _ I1 q) fun us s2 ⟨vs, H2, I2, r, q2⟩ => ?_
      refine thn (pk.run pos pins s2 σ H2 _ I2 q2) fun ws s3 ⟨ts, H3, I3, rt, q3⟩ => ?_
      rw [k2]
      exact fin I3 r rt q3
  | _ => exact q.elim
/-! ### lists of parts -/
theorem snd_nil : Snd D C n .nil := fun X W S G => by
  refine ⟨fun x hx => ?_, fun xs hx => ?_, fun xs hx => ?_, fun x hx => ?_, fun x hx => ?_, fun x hx => ?_, fun x hx => ?_, fun tg x hx => ?_, fun ps ks vs hx => ?_, fun x hx => ?_⟩
  · cases hx
  · cases xs with
    | nil => exact ⟨pa_nil, rfl⟩
    | cons => cases hx
  · cases xs with
    | nil => exact pk_nil
    | cons => cases hx
  · cases hx
  · cases x with
    | nil => exact pss_nil
    | cons => cases hx
  · cases hx
  · cases x with
    | nil => exact pgs_nil
    | cons => cases hx
  · cases hx
  · obtain ⟨h1, h2⟩ := b2 (show (ks.isEmpty && vs.isEmpty) = true from hx)
    cases ks with
    | cons => cases h1
    | nil =>
      cases vs with
      | cons => cases h2
      | nil => exact ⟨pps_nil, rfl, rfl⟩
  · cases x with
    | none => exact po_none
    | some => cases hx
theorem asg_cons {env : Env} {e : Expr} {es : List Expr} (h : nst e = true) : assignEach (e :: es) env = (false, assign e env) :: assignEach es env := by
  cases e <;> first | rfl | (cases h; done)
theorem asg_len {env : Env} : ∀ {es : List Expr}, es.all nst = true → (assignEach es env).length = es.length ∧ (assignEach es env).findIdx? (·.1) = none
  | [], _ => ⟨rfl, rfl⟩
  | e :: es, h => by
    rw [List.all_cons, Bool.and_eq_true] at h
    obtain ⟨i1, i2⟩ := asg_len (env := env) h.2
    rw [asg_cons h.1]
    refine ⟨by simp [i1], ?_⟩
    rw [List.findIdx?_cons]
    simp [i2]
theorem snd_cons {a b : I} (ha : Snd D C n a) (hb : Snd D C n b) : Snd D C n (.cons a b) := fun X W S G => by
  refine ⟨fun x hx => ?_, fun xs hx => ?_, fun xs hx => ?_, fun x hx => ?_, fun x hx => ?_, fun x hx => ?_, fun x hx => ?_, fun tg x hx => ?_, fun ps ks vs hx => ?_, fun x hx => ?_⟩
  · cases hx
  · cases xs with
    | nil => cases hx
    | cons e es =>
      obtain ⟨h1, h3⟩ := b2 (show (nst e && (chk D a S).e e && (chk D b S).a es) = true from hx)
      obtain ⟨h1, h2⟩ := b2 h1
      obtain ⟨p1, p2⟩ := (hb X W S G).a es h3
      exact ⟨pa_cons ((ha X W S G).e e h2).1 p1 (star_cons h1), by rw [List.all_cons, h1, p2]; rfl⟩
  · cases xs with
    | nil => cases hx
    | cons e es =>
      obtain ⟨nm, e, kp⟩ := e
      obtain ⟨h1, h3⟩ := b2 (show (nst e && (chk D a S).e e && (chk D b S).a (es.map (·.value))) = true from hx)
      obtain ⟨h1, h2⟩ := b2 h1
      exact pk_cons ((ha X W S G).e e h2).1 ((hb X W S G).k es h3)
  · cases hx
  · cases x with
    | nil => cases hx
    | cons e es =>
      obtain ⟨h1, h2⟩ := b2 (show ((chk D a S).s e && (chk D b S).ss es) = true from hx)
      show PSs X (e :: es) (tSeq (rd C a W).s (rd C b W).s)
      exact pss_cons ((ha X W S G).s e h1) ((hb X W S G).ss es h2)
  · cases hx
  · cases x with
    | nil => cases hx
    | cons e es =>
      obtain ⟨h1, h3⟩ := b2 (show (nst e && (chk D a S).g e && (chk D b S).gs es) = true from hx)
      obtain ⟨h1, h2⟩ := b2 h1
      refine ⟨fun pins s σ H vs us Q I r h => ?_⟩
      refine (pgs_cons ((ha X W S G).g e h2) ((hb X W S G).gs es h3) (by rw [asg_cons h1]; rfl)).run pins s σ H vs us Q I r ?_
      cases vs with
      | nil => exact h.elim
      | cons v vs => exact ⟨v, vs, rfl, h⟩
  · cases hx
  · cases hx
  · cases hx
theorem snd_pair {k v r : I} (hk : Snd D C n k) (hv : Snd D C n v) (hr : Snd D C n r) : Snd D C n (.pair k v r) := fun X W S G => by
  refine ⟨fun x hx => ?_, fun xs hx => ?_, fun xs hx => ?_, fun x hx => ?_, fun x hx => ?_, fun x hx => ?_, fun x hx => ?_, fun tg x hx => ?_, fun ps ks vs hx => ?_, fun x hx => ?_⟩
  case refine_9 =>
    cases ks with
    | nil => cases hx
    | cons x ks =>
      cases x with
      | none => cases hx
      | some x =>
        cases vs with
        | nil => cases hx
        | cons y vs =>
          obtain ⟨h1, h3⟩ := b2 (show ((chk D k S).e x && (chk D v S).e y && (chk D r S).p ks vs) = true from hx)
          obtain ⟨h1, h2⟩ := b2 h1
          obtain ⟨p1, p2, p3⟩ := (hr X W S G).p ps ks vs h3
          exact ⟨pps_cons ((hk X W S G).e x h1).1 ((hv X W S G).e y h2).1 p1, by rw [List.all_cons, p2]; rfl, by show (_ :: _).length = _; rw [List.length_cons, List.length_cons, p3]⟩
  all_goals cases hx
theorem gs_nst {gs : I} {S : SC} : ∀ {es : List Expr}, (chk D gs S).gs es = true → es.all nst = true := by
  induction gs with
  | nil =>
    intro es h
    cases es with
    | nil => rfl
    | cons => cases h
  | cons a b _ ih =>
    intro es h
    cases es with
    | nil => cases h
    | cons e es =>
      obtain ⟨h1, h3⟩ := b2 (show (nst e && (chk D a S).g e && (chk D b S).gs es) = true from h)
      rw [List.all_cons, (b2 h1).1, ih h3]
      rfl
  | _ => intro es h; cases h
theorem gs_len {gs : I} {S : SC} : ∀ {es : List Expr} {xs : List V} {σ : St} {H : Hp} {Q : St → Hp → Prop} {W : WX}, (chk D gs S).gs es = true → (rd C gs W).gs xs σ H Q → True := fun _ _ => trivial
end
end U

namespace U
open PySem PySem.Spec PyProof.Rows L2
section
variable {D : SD} {C : Ctx} {n : Nat}
theorem gs_count {gs : I} {S : SC} : ∀ {es : List Expr}, (chk D gs S).gs es = true → es.length = gs.len := by
  induction gs with
  | nil =>
    intro es h
    cases es with
    | nil => rfl
    | cons => cases h
  | cons a b _ ih =>
    intro es h
    cases es with
    | nil => cases h
    | cons e es =>
      obtain ⟨h1, h3⟩ := b2 (show (nst e && (chk D a S).g e && (chk D b S).gs es) = true from h)
      show es.length + 1 = b.len + 1
      rw [ih h3]
  | _ => intro es h; cases h
theorem snd_g1 {i : I} {X : Cx} {W : WX} {S : SC} {t : TG} {f : Expr → Bool} (hr : (rd C i W).g = t) (hc : chk D i S = { g := f }) (h : ∀ x, f x = true → PG X x t) : Snd1 D C n i X W S := by
  refine ⟨fun x hx => ?_, fun xs hx => ?_, fun xs hx => ?_, fun x hx => ?_, fun x hx => ?_, fun x hx => ?_, fun x hx => ?_, fun tg x hx => ?_, fun ps ks vs hx => ?_, fun x hx => ?_⟩
  all_goals rw [hc] at hx
  case refine_6 =>
    rw [hr]
    exact h x hx
  all_goals cases hx
theorem snd_tupG {gs : I} (hg : Snd D C n gs) : Snd D C n (.tupG gs) := fun X W S G => snd_g1 (f := fun
      | .Tuple es _ _ => (chk D gs S).gs es
      | _ => false) rfl rfl fun x hx => by
  cases x <;> first | (cases hx; done) | skip
  rename_i es k pos
  have hn := gs_nst (D := D) (S := S) hx
  obtain ⟨a1, a2⟩ := asg_len (env := X.env) hn
  refine ⟨fun pins s σ H v u Q I r h => ?_⟩
  refine (pg_tup (k := k) (pos := pos) G.calm ((hg X W S G).gs es hx) a1 a2).run pins s σ H v u Q I r ?_
  cases v with
  | ref a =>
    obtain ⟨xs, h1, h2, h3⟩ := h
    rw [← G.fc.hK] at h1
    exact ⟨a, xs, rfl, h1, by rw [h2, gs_count hx], h3⟩
  | _ => exact h.elim
theorem set_ok {X : Cx} (hu : X.A.units + 1 < cLine) : PSet X rSetU := by
  intro pins s σ H o i v ov iv u Q I ro ri rv h
  unfold rSetU at h
  split at h
  · rcases h with ⟨xs, h1, m, h2, q⟩ | ⟨kvs, h1, h2, q⟩
    · exact set_list pins s σ H _ _ v ov iv u Q I ro ri rv ⟨_, xs, _, m, rfl, rfl, h1, h2, q⟩
    · cases ro
      exact d_setItem hu I (.inl ⟨kvs, .inl _, h1, rfl, h2, rfl⟩) ri rv fun s' I' => ⟨_, I', q⟩
  · obtain ⟨kvs, h1, h2, q⟩ := h
    cases ro
    exact d_setItem hu I (.inl ⟨kvs, .inr _, h1, rfl, h2, rfl⟩) ri rv fun s' I' => ⟨_, I', q⟩
  · exact h.elim
theorem snd_subG {o i : I} (ho : Snd D C n o) (hi : Snd D C n i) : Snd D C n (.subG o i) := fun X W S G => snd_g1 (f := fun
      | .Subscript x y _ => noSlice y && (chk D o S).e x && (chk D i S).e y
      | _ => false) rfl rfl fun x hx => by
  cases x <;> first | (cases hx; done) | skip
  rename_i x y pos
  obtain ⟨h1, h3⟩ := b2 (show (noSlice y && (chk D o S).e x && (chk D i S).e y) = true from hx)
  obtain ⟨h1, h2⟩ := b2 h1
  exact pg_sub ((ho X W S G).e x h2).1 ((hi X W S G).e y h3).1 (set_ok (by have := G.room.un; omega)) (fun v => by cases y <;> first | rfl | (cases h1; done))
theorem snd_attG {o : I} (f : Str) (ho : Snd D C n o) : Snd D C n (.attG o f) := fun X W S G => snd_g1 (f := fun
      | .Attribute x f' _ => decide (f = f') && abase x && (chk D o S).e x
      | _ => false) rfl rfl fun x hx => by
  cases x <;> first | (cases hx; done) | skip
  rename_i x f' pos
  obtain ⟨h1, h3⟩ := b2 (show (decide (f = f') && abase x && (chk D o S).e x) = true from hx)
  obtain ⟨h1, h2⟩ := b2 h1
  obtain rfl := bd h1
  have po := ((ho X W S G).e x h3).1
  refine ⟨fun pins s σ H v u Q I r h => ?_⟩
  rw [arm_assign_Attribute]
  refine wpAny_bind (wpAny_holding (thn (po.run pins s σ H _ I h) fun ov s1 ⟨y, H1, I1, r1, q1⟩ => ?_))
  cases y with
  | ref a =>
    obtain rfl : ov = Value.ref a := r1
    obtain ⟨cn, dx, fs, ea, ef, el, q⟩ := q1
    obtain ⟨c1, c2⟩ := G.fc.fld cn f ef
    rw [← G.fc.hK] at ea q
    refine wpAny_bind (wpAny_standAt (wpAny_bind (wpAny_holding (setattr_ok I1 ea c1 c2 el r fun s2 I2 => ?_))))
    exact wpAny_release ⟨σ, _, I2, q⟩
  | _ => exact q1.elim
/-! ### statements -/
theorem snd_set {g e : I} (hg : Snd D C n g) (he : Snd D C n e) : Snd D C n (.set g e) := fun X W S G => snd_ofS (f := fun
      | .Assign [t] x _ => noComp x && (noTup t || noTup x) && nst t && (chk D g S).g t && (chk D e S).e x
      | _ => false) rfl rfl fun x hx => by
  cases x <;> first | (cases hx; done) | skip
  rename_i ts x pos
  rcases ts with _ | ⟨t, _ | ⟨t2, ts⟩⟩ <;> first | (cases hx; done) | skip
  obtain ⟨h1, h5⟩ := b2 (show (noComp x && (noTup t || noTup x) && nst t && (chk D g S).g t && (chk D e S).e x) = true from hx)
  obtain ⟨h1, h4⟩ := b2 h1
  obtain ⟨h1, h3⟩ := b2 h1
  obtain ⟨h1, h2⟩ := b2 h1
  exact ps_asg ((he X W S G).e x h5).1 ((hg X W S G).g t h4) (noComp_ok h1) (noTup_ok h2) (by rw [asg_cons h3]; rfl)
theorem snd_expr {e : I} (he : Snd D C n e) : Snd D C n (.expr e) := fun X W S G => snd_ofS (f := fun
      | .Expr x _ => noComp x && (chk D e S).e x
      | _ => false) rfl rfl fun x hx => by
  cases x <;> first | (cases hx; done) | skip
  rename_i x pos
  obtain ⟨h1, h2⟩ := b2 (show (noComp x && (chk D e S).e x) = true from hx)
  exact ps_expr ((he X W S G).e x h2).1 (noComp_ok h1)
theorem snd_ret {e : I} (he : Snd D C n e) : Snd D C n (.ret e) := fun X W S G => snd_ofS (f := fun
      | .Return (some x) _ => (chk D e S).e x
      | _ => false) rfl rfl fun x hx => by
  cases x <;> first | (cases hx; done) | skip
  rename_i x pos
  cases x with
  | none => cases hx
  | some x => exact ps_ret ((he X W S G).e x hx).1
theorem snd_retN : Snd D C n .retN := fun X W S G => snd_ofS (f := fun
      | .Return none _ => true
      | _ => false) rfl rfl fun x hx => by
  cases x <;> first | (cases hx; done) | skip
  rename_i x pos
  cases x with
  | none => exact ps_retN
  | some x => cases hx
theorem snd_if {c a b : I} (hc : Snd D C n c) (ha : Snd D C n a) (hb : Snd D C n b) : Snd D C n (.if_ c a b) := fun X W S G => snd_ofS (f := fun
      | .If x as bs _ => (chk D c S).e x && (chk D a S).ss as && (chk D b S).ss bs
      | _ => false) rfl rfl fun x hx => by
  cases x <;> first | (cases hx; done) | skip
  rename_i x as bs pos
  obtain ⟨h1, h3⟩ := b2 (show ((chk D c S).e x && (chk D a S).ss as && (chk D b S).ss bs) = true from hx)
  obtain ⟨h1, h2⟩ := b2 h1
  exact ps_if ((hc X W S G).e x h1).2 ((ha X W S G).ss as h2) ((hb X W S G).ss bs h3)
theorem snd_while {c b : I} (hc : Snd D C n c) (hb : Snd D C n b) : Snd D C n (.while_ c b) := fun X W S G => snd_ofS (f := fun
      | .While x bs [] _ => (chk D c S).e x && (chk D b S).ss bs
      | _ => false) rfl rfl fun x hx => by
  cases x <;> first | (cases hx; done) | skip
  rename_i x bs os pos
  cases os with
  | cons => cases hx
  | nil =>
    obtain ⟨h1, h3⟩ := b2 (show ((chk D c S).e x && (chk D b S).ss bs) = true from hx)
    exact ps_while G.own ((hc X W S G).e x h1).2 ((hb X W S G).ss bs h3)
theorem snd_never : Snd D C n .never := fun X W S G => snd_ofS (f := fun _ => true) rfl rfl fun x hx => ps_never
theorem snd_pass : Snd D C n .pass := fun X W S G => snd_ofS (f := fun
      | .Pass _ => true
      | _ => false) rfl rfl fun x hx => by
  cases x <;> first | (cases hx; done) | skip
  exact ps_pass
theorem snd_brk : Snd D C n .brk := fun X W S G => snd_ofS (f := fun
      | .Break _ => true
      | _ => false) rfl rfl fun x hx => by
  cases x <;> first | (cases hx; done) | skip
  exact ps_break
theorem snd_cont : Snd D C n .cont := fun X W S G => snd_ofS (f := fun
      | .Continue _ => true
      | _ => false) rfl rfl fun x hx => by
  cases x <;> first | (cases hx; done) | skip
  exact ps_continue
theorem noStar2 {a b : Expr} (p1 : nst a = true) (p2 : nst b = true) : ([a, b].any fun | .Starred .. => true | _ => false) = false := by
  cases a <;> first | (cases p1; done) | (cases b <;> first | rfl | (cases p2; done))
theorem nd_ne {N : List Str} (nd : N.Nodup) {i j : Nat} {x y : Str} (m1 : N[i]? = some x) (m2 : N[j]? = some y) (h : i ≠ j) : x ≠ y := fun e => by
  subst e
  exact h ((List.getElem?_inj (List.getElem?_eq_some_iff.mp m1).1 nd).mp (m1.trans m2.symm))
theorem snd_par {as : I} (i j : Nat) (ha : Snd D C n as) : Snd D C n (.par i j as) := fun X W S G => snd_ofS (f := fun
      | .Assign [.Tuple [.Name x px, .Name y py] _ _] (.Tuple [a, b] _ _) _ => decide (S.N[i]? = some x) && decide (S.N[j]? = some y) && decide (i ≠ j) && decide (S.sc.names.lookup x = some .local) && decide (S.sc.names.lookup y = some .local) &&
          (px.line == py.line) && !([a, b].all (foldedForSure 8)) && !([a, b].all (constantsAlone 8)) && (chk D as S).a [a, b]
      | _ => false) rfl rfl fun x hx => by
  split at hx
  rotate_left
  · cases hx
  rename_i x px y py kt pt a b k2 pt2 pos
  obtain ⟨h1, h9⟩ := b2 hx
  obtain ⟨h1, h8⟩ := b2 h1
  obtain ⟨h1, h7⟩ := b2 h1
  obtain ⟨h1, h6⟩ := b2 h1
  obtain ⟨h1, h5⟩ := b2 h1
  obtain ⟨h1, h4⟩ := b2 h1
  obtain ⟨h1, h3⟩ := b2 h1
  obtain ⟨h1, h2⟩ := b2 h1
  have h1 := bd h1
  have h2 := bd h2
  have h3 := bd h3
  have h4 := bd h4
  have h5 := bd h5
  obtain ⟨pa, pn⟩ := (ha X W S G).a _ h9
  have lx : X.env.scope.names.lookup x = some .local := by rw [G.sc]; exact h4
  have ly : X.env.scope.names.lookup y = some .local := by rw [G.sc]; exact h5
  have hxy : x ≠ y := nd_ne G.nd h1 h2 h3
  refine ps_par G.calm (by rw [G.hN]; exact G.nd) (by rw [G.hN]; exact h1) (by rw [G.hN]; exact h2) h3 lx ly pa ?_ rfl
  have kx : X.env.kindOf x = some .local := lx
  have ky : X.env.kindOf y = some .local := ly
  have hb : X.env.blockKind = .function := by unfold Env.blockKind; rw [G.kd]; rfl
  rw [List.all_cons, List.all_cons, Bool.and_eq_true, Bool.and_eq_true] at pn
  have hst := noStar2 pn.1 pn.2.1
  have hp : py.line = px.line := (beq_iff_eq.mp h6).symm
  have he : ([x, y] : List Str).eraseDups.length = 2 := by
    have hyx : (y == x) = false := by simpa using Ne.symm hxy
    have hxy' : (x == y) = false := by simpa using hxy
    simp [List.eraseDups, List.eraseDupsBy, List.eraseDupsBy.loop, hyx, hxy']
  unfold swappedStores
  simp only [hb, kx, ky, bn h7, bn h8, Expr.pos, hp, he, List.filterMap_cons, List.filterMap_nil, List.length_cons, List.length_nil, List.head?_cons, Option.map_some, Option.getD_some, beq_self_eq_true, Bool.and_self, if_true, Bool.true_or, Bool.not_true, Bool.false_or, bne_self_eq_false, Bool.or_false, Bool.false_eq_true, if_false]
  exact if_neg (fun z => Bool.false_ne_true (hst.symm.trans z))
end
end U

namespace U
open PySem PySem.Spec PyProof.Rows L2
section
variable {D : SD} {C : Ctx} {n : Nat} {X : Cx}
/-- a reading closed upwards -/
def up (t : TE) : TE := fun σ H Q => ∃ Q' : VK, t σ H Q' ∧ ∀ v H', Q' v H' → Q v H'
theorem pe_up {e : Expr} {t : TE} (h : PE X e t) : PE X e (up t) := ⟨fun pins s σ H Q I ⟨Q', h1, h2⟩ => thn (h.run pins s σ H Q' I h1) fun _ _ ⟨v, H', I', r, q⟩ => ⟨v, H', I', r, h2 v H' q⟩⟩
theorem pi_imp {tg e : Expr} {w1 w2 : TI} (h : PI X tg e w1) (k : ∀ σ H R, w2 σ H R → w1 σ H R) : PI X tg e w2 := ⟨fun pins s σ H R I q => h.run pins s σ H R I (k σ H R q)⟩
theorem fits_list {K : PySem.W.Frag} {a : Addr} {xs : List V} : Fits (Itl K a) (fun H' => SqL K H' a xs) (xs.map .v) := by
  intro j H' hj ok
  rw [List.getElem?_map]
  cases e : xs[j]? with
  | none => exact ⟨xs, ok, List.getElem?_eq_none_iff.mp e⟩
  | some y =>
    refine ⟨⟨xs, y, ok, e⟩, fun z H2 ⟨h1, h2⟩ => ?_⟩
    have := h2 xs ok
    rw [e] at this
    exact ⟨(Option.some.inj this).symm, h1⟩
theorem fits_tup {K : PySem.W.Frag} {a : Addr} {xs : List V} : Fits (Itt K a) (fun H' => SqT K H' a xs) (xs.map .v) := by
  intro j H' hj ok
  rw [List.getElem?_map]
  cases e : xs[j]? with
  | none => exact ⟨xs, ok, List.getElem?_eq_none_iff.mp e⟩
  | some y =>
    refine ⟨⟨xs, y, ok, e⟩, fun z H2 ⟨h1, h2⟩ => ?_⟩
    have := h2 xs ok
    rw [e] at this
    exact ⟨(Option.some.inj this).symm, h1⟩
theorem fits_range {lo : Int} {m : Nat} : Fits (Itr lo m) (fun _ => True) ((List.range m).map fun k => .v (.int (lo + (k : Nat)))) := by
  intro j H' hj ok
  rw [List.getElem?_map]
  by_cases h : j < m
  · rw [List.getElem?_range h]
    exact ⟨h, fun z H2 ⟨h1, h2⟩ => ⟨h2, h1⟩⟩
  · rw [List.getElem?_eq_none (by simpa using h)]
    exact Nat.le_of_not_lt h
theorem fits_str {x : Str} : Fits (Its x) (fun _ => True) (x.cps.toList.map fun c => .v (.str (S [c]))) := by
  intro j H' hj ok
  rw [List.getElem?_map]
  cases e : x.cps.toList[j]? with
  | none =>
    show x.cps.size ≤ j
    have := List.getElem?_eq_none_iff.mp e
    simpa using this
  | some y =>
    have e' : x.cps[j]? = some y := by simpa using e
    refine ⟨?_, fun z H2 ⟨h1, c, h2, h3⟩ => ?_⟩
    · have := (List.getElem?_eq_some_iff.mp e).1
      show j < x.cps.size
      simpa using this
    · rw [e'] at h2
      cases h2
      exact ⟨h3, h1⟩
theorem fits_enum {K : PySem.W.Frag} {a : Addr} {xs : List V} : Fits (Ite K a) (fun H' => SqL K H' a xs) (xs.zipIdx.map fun p => .t [.int (p.2 : Nat), p.1]) := by
  intro j H' hj ok
  rw [List.getElem?_map, List.getElem?_zipIdx]
  cases e : xs[j]? with
  | none => exact ⟨xs, ok, List.getElem?_eq_none_iff.mp e⟩
  | some y =>
    refine ⟨⟨xs, y, ok, e⟩, fun z H2 ⟨T, x, h1, h2, h3, h4⟩ => ?_⟩
    have := h4 xs ok
    rw [e] at this
    obtain rfl := Option.some.inj this
    exact ⟨T, h1, h2, by simpa using h3⟩
theorem fits_zip {K : PySem.W.Frag} {a b : Addr} {xs ys : List V} : Fits (Itz K a b) (fun H' => SqL K H' a xs ∧ SqL K H' b ys) ((xs.zip ys).map fun z => .t [z.1, z.2]) := by
  intro j H' hj ok
  rw [List.getElem?_map]
  cases e : (xs.zip ys)[j]? with
  | none =>
    have := List.getElem?_eq_none_iff.mp e
    rw [List.length_zip] at this
    exact ⟨xs, ys, ok.1, ok.2, by omega⟩
  | some p =>
    obtain ⟨e1, e2⟩ := List.getElem?_zip_eq_some.mp e
    refine ⟨⟨xs, ys, p.1, p.2, ok.1, ok.2, e1, e2⟩, fun z H2 ⟨T, x, y, h1, h2, h3, h4, h5⟩ => ?_⟩
    have q1 := h4 xs ok.1
    have q2 := h5 ys ok.2
    rw [e1] at q1
    rw [e2] at q2
    obtain rfl := Option.some.inj q1
    obtain rfl := Option.some.inj q2
    exact ⟨T, h1, h2, h3⟩
theorem snd_itL {e : I} (he : Snd D C n e) : Snd D C n (.itL e) := fun X W S G => snd_ofI (f := fun _ x => (chk D e S).e x) rfl rfl fun tg x hx =>
  pi_imp (pi_list (pe_up ((he X W S G).e x hx).1)) fun σ H R ⟨R', h, kk⟩ => ⟨_, h, fun v H' q => by
    cases v with
    | ref a =>
      obtain ⟨xs, h1, q⟩ := q
      rw [G.fc.hK]
      exact ⟨a, rfl, ⟨xs, h1⟩, kk _ _ _ q _ fits_list⟩
    | _ => exact q.elim⟩
theorem snd_itT {e : I} (he : Snd D C n e) : Snd D C n (.itT e) := fun X W S G => snd_ofI (f := fun _ x => (chk D e S).e x) rfl rfl fun tg x hx =>
  pi_imp (pi_tup (pe_up ((he X W S G).e x hx).1)) fun σ H R ⟨R', h, kk⟩ => ⟨_, h, fun v H' q => by
    cases v with
    | ref a =>
      obtain ⟨xs, h1, q⟩ := q
      rw [G.fc.hK]
      exact ⟨a, rfl, ⟨xs, h1⟩, kk _ _ _ q _ fits_tup⟩
    | _ => exact q.elim⟩
theorem snd_itS {e : I} (he : Snd D C n e) : Snd D C n (.itS e) := fun X W S G => snd_ofI (f := fun _ x => (chk D e S).e x) rfl rfl fun tg x hx =>
  pi_imp (pi_str (pe_up ((he X W S G).e x hx).1)) fun σ H R ⟨R', h, kk⟩ => ⟨_, h, fun v H' q => by
    cases v with
    | str z => exact ⟨z, rfl, kk _ _ _ q _ fits_str⟩
    | _ => exact q.elim⟩
theorem snd_itR1 {a : I} (ha : Snd D C n a) : Snd D C n (.itR1 a) := fun X W S G => snd_ofI (f := fun _ x => match x with
      | .Call (.Name f _) [y] [] _ => decide (f = ("range" : Str)) && S.gl f && decide (f ∈ D.frees) && nst y && (chk D a S).e y
      | _ => false) rfl rfl fun tg x hx => by
  split at hx
  rotate_left
  · cases hx
  rename_i f p y pos
  obtain ⟨h1, h5⟩ := b2 hx
  obtain ⟨h1, h4⟩ := b2 h1
  obtain ⟨h1, h3⟩ := b2 h1
  obtain ⟨h1, h2⟩ := b2 h1
  obtain rfl := bd h1
  obtain ⟨g1, g2, g3⟩ := gl_ok G.sc h2
  refine pi_imp (pi_range1 g1 (G.fc.fr _ (bd h3)) (pa_cons (pe_up ((ha X W S G).e y h5).1) pa_nil (star_cons h4)) (star_cons h4)) fun σ H R ⟨R', h, kk⟩ => ⟨_, h, fun v H' q => ?_⟩
  cases v with
  | int j =>
    obtain ⟨q1, q2, q⟩ := q
    refine ⟨j, rfl, q1, q2, kk _ _ _ q _ ?_⟩
    have := fits_range (lo := 0) (m := j.toNat)
    simpa using this
  | _ => exact q.elim
theorem snd_itR2 {a b : I} (ha : Snd D C n a) (hb : Snd D C n b) : Snd D C n (.itR2 a b) := fun X W S G => snd_ofI (f := fun _ x => match x with
      | .Call (.Name f _) [y, z] [] _ => decide (f = ("range" : Str)) && S.gl f && decide (f ∈ D.frees) && nst y && nst z && (chk D a S).e y && (chk D b S).e z
      | _ => false) rfl rfl fun tg x hx => by
  split at hx
  rotate_left
  · cases hx
  rename_i f p y z pos
  obtain ⟨h1, h7⟩ := b2 hx
  obtain ⟨h1, h6⟩ := b2 h1
  obtain ⟨h1, h5⟩ := b2 h1
  obtain ⟨h1, h4⟩ := b2 h1
  obtain ⟨h1, h3⟩ := b2 h1
  obtain ⟨h1, h2⟩ := b2 h1
  obtain rfl := bd h1
  obtain ⟨g1, g2, g3⟩ := gl_ok G.sc h2
  refine pi_imp (pi_range2 g1 (G.fc.fr _ (bd h3)) (pa_cons (pe_up ((ha X W S G).e y h6).1) (pa_cons (pe_up ((hb X W S G).e z h7).1) pa_nil (star_cons h5)) (star_cons h4)) (by rw [star_cons h4, star_cons h5]; rfl) (star_cons h5)) fun σ H R ⟨R', h, kk⟩ => ⟨_, h, fun v H' q => ⟨_, q, fun u H2 q2 => ?_⟩⟩
  cases v with
  | int i =>
    cases u with
    | int j =>
      obtain ⟨q1, q⟩ := q2
      exact ⟨i, j, rfl, q1, kk _ _ _ q _ fits_range⟩
    | _ => exact q2.elim
  | _ => exact q2.elim
theorem snd_itE {e : I} (he : Snd D C n e) : Snd D C n (.itE e) := fun X W S G => snd_ofI (f := fun t x => match t, x with
      | .Tuple _ _ _, .Call (.Name f _) [y] [] _ => decide (f = ("enumerate" : Str)) && S.gl f && decide (f ∈ D.frees) && nst y && (chk D e S).e y
      | _, _ => false) rfl rfl fun tg x hx => by
  split at hx
  rotate_left
  · cases hx
  rename_i es kk tp f p y pos
  obtain ⟨h1, h5⟩ := b2 hx
  obtain ⟨h1, h4⟩ := b2 h1
  obtain ⟨h1, h3⟩ := b2 h1
  obtain ⟨h1, h2⟩ := b2 h1
  obtain rfl := bd h1
  obtain ⟨g1, g2, g3⟩ := gl_ok G.sc h2
  refine pi_imp (pi_enum g1 (G.fc.fr _ (bd h3)) (pa_cons (pe_up ((he X W S G).e y h5).1) pa_nil (star_cons h4)) (star_cons h4)) fun σ H R ⟨R', h, kk⟩ => ⟨_, h, fun v H' q => ?_⟩
  cases v with
  | ref a =>
    obtain ⟨xs, h1, q⟩ := q
    rw [G.fc.hK]
    exact ⟨a, xs, rfl, h1, kk _ _ _ q _ fits_enum⟩
  | _ => exact q.elim
theorem snd_itZ {a b : I} (ha : Snd D C n a) (hb : Snd D C n b) : Snd D C n (.itZ a b) := fun X W S G => snd_ofI (f := fun t x => match t, x with
      | .Tuple _ _ _, .Call (.Name f _) [y, z] [] _ => decide (f = ("zip" : Str)) && S.gl f && decide (f ∈ D.frees) && nst y && nst z && (chk D a S).e y && (chk D b S).e z
      | _, _ => false) rfl rfl fun tg x hx => by
  split at hx
  rotate_left
  · cases hx
  rename_i es kk tp f p y z pos
  obtain ⟨h1, h7⟩ := b2 hx
  obtain ⟨h1, h6⟩ := b2 h1
  obtain ⟨h1, h5⟩ := b2 h1
  obtain ⟨h1, h4⟩ := b2 h1
  obtain ⟨h1, h3⟩ := b2 h1
  obtain ⟨h1, h2⟩ := b2 h1
  obtain rfl := bd h1
  obtain ⟨g1, g2, g3⟩ := gl_ok G.sc h2
  refine pi_imp (pi_zip g1 (G.fc.fr _ (bd h3)) (pa_cons (pe_up ((ha X W S G).e y h6).1) (pa_cons (pe_up ((hb X W S G).e z h7).1) pa_nil (star_cons h5)) (star_cons h4)) (star_cons h4) (star_none (by rw [List.all_cons, h5]; rfl))) fun σ H R ⟨R', h, kk⟩ => ⟨_, h, fun v H' q => ⟨_, q, fun u H2 q2 => ?_⟩⟩
  cases v with
  | ref i =>
    cases u with
    | ref j =>
      obtain ⟨xs, ys, h1, h2, q⟩ := q2
      rw [G.fc.hK]
      exact ⟨i, j, xs, ys, rfl, h1, h2, kk _ _ _ q _ fits_zip⟩
    | _ => exact q2.elim
  | _ => exact q2.elim
/-! ### enumerate(text) -/
def Itn (x : Str) : It := ⟨fun i _ => i < x.cps.size, fun i H v H' => ∃ T c, v = .ref T ∧ H T = none ∧ H' = upd H T (.tup [.int (i : Nat), .str ⟨#[c]⟩]) ∧ x.cps[i]? = some c, fun i _ => x.cps.size = i⟩
theorem turn_enumS {P : Program} {w : World} {K : PySem.W.Frag} {elts : List Expr} {kk : Nat} {tpos : Pos} (x : Str) (t : Tok) (e it : Addr) :
    Turn P w K (.Tuple elts kk tpos) (Itn x) [e, it] e (fun i h => (∃ old, IsEnum h e it ((i : Nat) : Int) old) ∧ h.IsStrIter it (strIterType x) x t i ∧ e ≠ it) where
  mem := by simp
  obj := fun i h st b hb => by
    obtain ⟨⟨old, he⟩, ⟨o, ho, hc, hd⟩, _⟩ := st
    have e' : b = e ∨ b = it := by simpa using hb
    rcases e' with z | z
    · rw [z]; exact ⟨_, he, fun v q => nomatch q⟩
    · rw [z]; exact ⟨o, ho, fun v q => by rw [hd] at q; cases q⟩
  keep := fun i h h' st k => let ⟨⟨old, he⟩, ⟨o, ho, r⟩, hne⟩ := st; ⟨⟨old, k e (by simp) _ he⟩, ⟨o, k it (by simp) o ho, r⟩, hne⟩
  item := by
    intro X hP hw hK hc i pins s σ H E I hf st hg
    subst hP hw hK
    obtain ⟨⟨old, he⟩, hit, hne⟩ := st
    have hel : e < s.heap.objs.size := Heap.lt_size he
    have hil : it < s.heap.objs.size := by obtain ⟨_, q, _⟩ := hit; exact Heap.lt_size q
    have Dr : Draws X.prog X.w X.A.in1 it [it] x.cps.size (fun i v => ∃ c u, x.cps[i]? = some c ∧ v = .str ⟨#[c]⟩ u) (fun i h => h.IsStrIter it (strIterType x) x t i) := by
      unfold strIterType
      cases x.cps.all (· < 128)
      · exact Draws.strWide (A := X.A.in1) (show X.A.in1.handled = none from I.ok.hd hc) it x t
      · exact Draws.strAscii (A := X.A.in1) (show X.A.in1.handled = none from I.ok.hd hc) it x t
    refine wpAny_pyNext_enum_itemD Dr he hit hg hne (by simpa using hne) fun u h' tk hP ho hit' hT hsz hk => ?_
    obtain ⟨c, tu, hcx, rfl⟩ := hP
    refine ⟨_, rfl, wpAny_letOwnedTupleGo_enum (s := { s with heap := h', toks := tk + 1 }) ho fun h'' he' sb => ?_⟩
    have hT2 : h''.get? s.heap.objs.size = some { cls := .type "tuple", data := .seq #[.int i tk, .str ⟨#[c]⟩ tu] } := (sb.2 _ (Nat.ne_of_gt hel)).trans hT
    have new : ObjOk X.prog X.w (upd H s.heap.objs.size (.tup [.int (i : Nat), .str ⟨#[c]⟩])) h'' s.heap.objs.size (.tup [.int (i : Nat), .str ⟨#[c]⟩]) :=
      ⟨by show 2 ≤ sizeLine; decide, [.int i tk, .str ⟨#[c]⟩ tu], .cons ⟨_, rfl⟩ (.cons ⟨_, rfl⟩ .nil), ⟨_, hT2, rfl, _, rfl⟩⟩
    have I1 : Inv X pins σ (upd H s.heap.objs.size (.tup [.int (i : Nat), .str ⟨#[c]⟩])) { s with heap := h'', toks := tk + 1 } :=
      I.turnedNew (ch := [e, it]) (fun b ob hb q => (sb.2 b (fun z => hb (by simp [z]))).trans (hk b ob (fun z => hb (by simp [z])) (fun z => hb (by simp [z])) q)) hf (Nat.le_refl _) new
    refine ⟨.ref s.heap.objs.size, _, I1, rfl, ⟨_, c, rfl, I.hok.fresh (Nat.le_refl _), rfl, hcx⟩, ⟨⟨.str ⟨#[c]⟩ tu, ?_⟩, ?_, hne⟩, fun b hb => ?_⟩
    · have e1 : ((i + 1 : Nat) : Int) = (i : Int) + 1 := by omega
      rw [e1]; exact he'
    · obtain ⟨o, ho', r⟩ := hit'
      exact ⟨o, (sb.2 it (Ne.symm hne)).trans ho', r⟩
    · have hb' : b < s.heap.objs.size := by
        have e' : b = e ∨ b = it := by simpa using hb
        rcases e' with z | z
        · rw [z]; exact hel
        · rw [z]; exact hil
      rw [upd_ne (Nat.ne_of_lt hb')]
      exact (hf b hb).1
  done := by
    intro X hP hw hK hc i pins s σ H E I hf st hg
    subst hP hw hK
    obtain ⟨⟨old, he⟩, hit, hne⟩ := st
    obtain ⟨f0, f1, f2, f3, f4, f5⟩ := hf it (by simp)
    have Dr : Draws X.prog X.w X.A.in1 it [it] x.cps.size (fun i v => ∃ c u, x.cps[i]? = some c ∧ v = .str ⟨#[c]⟩ u) (fun i h => h.IsStrIter it (strIterType x) x t i) := by
      unfold strIterType
      cases x.cps.all (· < 128)
      · exact Draws.strWide (A := X.A.in1) (show X.A.in1.handled = none from I.ok.hd hc) it x t
      · exact Draws.strAscii (A := X.A.in1) (show X.A.in1.handled = none from I.ok.hd hc) it x t
    have hg : x.cps.size = i := hg
    exact wpAny_pyNext_enum_endD Dr he (by rw [hg]; exact hit) fun h' eb => ⟨rfl, I.turned (t' := s.toks) (fun b o hb q => eb b o hb q) f0 f1 f3 f4 f5⟩
  self := fun A i s Q E st h => let ⟨⟨_, he⟩, _⟩ := st; wpAny_pyIter_enum he h
theorem fits_enumS {x : Str} : Fits (Itn x) (fun _ => True) (x.cps.toList.zipIdx.map fun p => .t [.int (p.2 : Nat), .str (S [p.1])]) := by
  intro j H' hj ok
  simp only [List.length_map, List.length_zipIdx, Array.length_toList] at hj
  rw [List.getElem?_map, List.getElem?_zipIdx]
  cases e : x.cps.toList[j]? with
  | none =>
    show x.cps.size = j
    have := List.getElem?_eq_none_iff.mp e
    simp only [Array.length_toList] at this
    omega
  | some y =>
    have e' : x.cps[j]? = some y := by simpa using e
    refine ⟨?_, fun z H2 ⟨T, c, h1, h2, h3, h4⟩ => ?_⟩
    · have := (List.getElem?_eq_some_iff.mp e).1
      show j < x.cps.size
      simpa using this
    · rw [e'] at h4
      cases h4
      exact ⟨T, h1, h2, by simpa using h3⟩
theorem snd_itES {e : I} (he : Snd D C n e) : Snd D C n (.itES e) := fun X W S G => snd_ofI (f := fun t x => match t, x with
      | .Tuple _ _ _, .Call (.Name f _) [y] [] _ => decide (f = ("enumerate" : Str)) && S.gl f && decide (f ∈ D.frees) && nst y && (chk D e S).e y
      | _, _ => false) rfl rfl fun tg x hx => by
  split at hx
  rotate_left
  · cases hx
  rename_i es kk tp f p y pos
  obtain ⟨h1, h5⟩ := b2 hx
  obtain ⟨h1, h4⟩ := b2 h1
  obtain ⟨h1, h3⟩ := b2 h1
  obtain ⟨h1, h2⟩ := b2 h1
  obtain rfl := bd h1
  obtain ⟨g1, g2, g3⟩ := gl_ok G.sc h2
  have po := ((he X W S G).e y h5).1
  refine ⟨fun pins s σ H R I ⟨R', h, k⟩ => ?_⟩
  refine Call_ (ld_blt I g1 (G.fc.fr _ (bd h3)) boot_enumerate (PyProof.Rows.callWith_type1 ?_ (star_cons h4) rfl))
  rw [star_cons h4]
  show wpAny _ _ (spliced ((false, eval y X.env) :: backTo pos (starEach [] X.env))) _ _ s
  refine Calls.spliced_cons (thn (po.run pins s σ H _ I h) fun u s1 ⟨v, H1, I1, r1, q1⟩ => Calls.spliced_nil ?_)
  cases v with
  | str z =>
    obtain ⟨t, rfl⟩ := r1
    refine call_enumerate_str fun h' he hit hsz hk => wpAny_pyIter_enum he ?_
    have I2 : Inv X pins σ H1 { s1 with heap := h' } := I1.kept (t' := s1.toks) hk
    refine ⟨s1.heap.objs.size + 1, [s1.heap.objs.size + 1, s1.heap.objs.size], _, _, H1, rfl, I2, turn_enumS z t (s1.heap.objs.size + 1) s1.heap.objs.size, ⟨⟨.none, he⟩, hit, Nat.succ_ne_self _⟩, fun b hb => ?_, k _ _ _ q1 _ fits_enumS⟩
    have e' : b = s1.heap.objs.size + 1 ∨ b = s1.heap.objs.size := by simpa using hb
    have hle : s1.heap.objs.size ≤ b := by
      rcases e' with z | z
      · rw [z]; exact Nat.le_add_right _ _
      · rw [z]; exact Nat.le_refl _
    exact I1.fpOk hle (I1.hok.fresh hle)
  | _ => exact q1.elim
/-! ### for -/
theorem gs_g {tg : I} {W : WX} {S : SC} {x : Expr} {xs : List V} {σ : St} {H : Hp} {T : Addr} {Q : St → Hp → Prop} (hc : (chk D tg S).g x = true) (h : (rd C tg W).gs xs σ (upd H T (.tup xs)) Q) : (rd C tg W).g (.ref T) σ (upd H T (.tup xs)) Q := by
  cases tg <;> first | (cases hc; done) | exact h.elim | skip
  obtain ⟨h1, h2⟩ := h
  exact ⟨xs, SqT.of upd_same, h1, h2⟩
theorem snd_for {tg it b : I} (hg : Snd D C n tg) (hi : Snd D C n it) (hb : Snd D C n b) : Snd D C n (.for_ tg it b) := fun X W S G => snd_ofS (f := fun
      | .For t x bs [] _ => noSet x && (chk D tg S).g t && (chk D it S).i t x && (chk D b S).ss bs
      | _ => false) rfl rfl fun x hx => by
  split at hx
  rotate_left
  · cases hx
  rename_i t x bs pos
  obtain ⟨h1, h4⟩ := b2 hx
  obtain ⟨h1, h3⟩ := b2 h1
  obtain ⟨h1, h2⟩ := b2 h1
  refine ⟨fun pins s σ H D' I h => ?_⟩
  refine (ps_for (pos := pos) G.own G.calm ((hi X W S G).it t x h3) ((hg X W S G).g t h2) ((hb X W S G).ss bs h4) (fun _ => noSet_ok h1)).run pins s σ H D' I ?_
  refine ⟨_, h, fun ok items H1 q J fit => ?_⟩
  refine ⟨fun i m σ' H' => i + m = items.length ∧ forGo ok (rd C tg W).g (rd C tg W).gs (rd C b W).s D' (items.drop i) σ' H', ⟨items.length, by simp, by simpa using q⟩, ?_⟩
  rintro i m σ' H' ⟨e, q⟩
  cases er : items[i]? with
  | none =>
    have hle := List.getElem?_eq_none_iff.mp er
    rw [List.drop_eq_nil_of_le hle] at q
    obtain ⟨q1, q2⟩ := q
    have f := fit i H' (by omega) q1
    rw [er] at f
    exact .inl ⟨f, q2⟩
  | some y =>
    obtain ⟨hlt, ey⟩ := List.getElem?_eq_some_iff.mp er
    rw [List.drop_eq_getElem_cons hlt, ey] at q
    cases y with
    | v y =>
      obtain ⟨q1, q2⟩ := q
      have f := fit i H' (by omega) q1
      rw [er] at f
      refine .inr ⟨f.1, forGo ok (rd C tg W).g (rd C tg W).gs (rd C b W).s D' (items.drop (i + 1)), fun σ2 H2 z => ⟨m - 1, by omega, by omega, z⟩, fun z H2 yl => ?_⟩
      obtain ⟨rfl, rfl⟩ := f.2 z H2 yl
      exact q2
    | t ys =>
      obtain ⟨q1, q2⟩ := q
      have f := fit i H' (by omega) q1
      rw [er] at f
      refine .inr ⟨f.1, forGo ok (rd C tg W).g (rd C tg W).gs (rd C b W).s D' (items.drop (i + 1)), fun σ2 H2 z => ⟨m - 1, by omega, by omega, z⟩, fun z H2 yl => ?_⟩
      obtain ⟨T, rfl, hT, rfl⟩ := f.2 z H2 yl
      exact gs_g h2 (q2 T hT)
/-! ### comprehensions -/
theorem pe_lcG {own : List (Str × Nat)} {elt tg it cond : I} {hasIf : Bool} (he : Snd D C n elt) (hg : Snd D C n tg) (hi : Snd D C n it) (hc : Snd D C n cond) {X : Cx} {W : WX} {S : SC} (G : Gd D C n X W S) {x t it' : Expr} {ifs : List Expr} {sc : Scope} {pos : Pos}
    (h1 : blkC S.N S.sc sc own = true) (h2 : noSet it' = true) (h3 : (chk D it S).i t it' = true) (h4 : (chk D tg ⟨S.N, relS sc S.sc, false⟩).g t = true)
    (h5 : (match hasIf with
        | true => (match ifs with | [c] => (chk D cond ⟨S.N, relS sc S.sc, false⟩).e c | _ => false)
        | false => ifs.isEmpty) = true) (h6 : (chk D elt ⟨S.N, relS sc S.sc, false⟩).e x = true) :
    ∃ (wi : TI) (g : TG) (tt : TT) (te : TE), PI X t it' wi ∧ BlkOk X.N X.env.scope sc own ∧ (∀ (s : Shared) (H : Hp) (c : Addr) (cl : List (Str × Addr)) (fp : List Addr), PG (X.blk s H sc (compEnvC sc cl c X.env) fp) t g) ∧
      (∀ (s : Shared) (H : Hp) (c : Addr) (cl : List (Str × Addr)) (fp : List Addr), PTs (X.blk s H sc (compEnvC sc cl c X.env) fp) ifs tt) ∧ (∀ (s : Shared) (H : Hp) (c : Addr) (cl : List (Str × Addr)) (fp : List Addr), PE (X.blk s H sc (compEnvC sc cl c X.env) fp) x te) ∧
      ∀ σ H Q, (rd C (.lc own elt tg it hasIf cond) W).e σ H Q → tLc wi g tt te (own.map (·.2)) σ H Q := by
  have ok : BlkOk X.N X.env.scope sc own := by
    rw [G.hN, G.sc]
    exact blkOk_by h1
  have GB := fun (s : Shared) (H : Hp) (c : Addr) (cl : List (Str × Addr)) (fp : List Addr) => Gd.blk (s := s) (H := H) (cl := cl) (c := c) (fp := fp) G ok
  refine ⟨wiOf (rd C it W).i, (rd C tg noW).g, lcIf hasIf (rd C cond noW).t, (rd C elt noW).e, (hi X W S G).it t it' h3, ok, fun s H c cl fp => (hg _ _ _ (GB s H c cl fp)).g t h4, fun s H c cl fp => ?_, fun s H c cl fp => ((he _ _ _ (GB s H c cl fp)).e x h6).1, fun σ H Q h => ?_⟩
  · cases hasIf with
    | false =>
      cases ifs with
      | nil => exact pts_nil
      | cons => cases h5
    | true =>
      rcases ifs with _ | ⟨c0, _ | ⟨c1, ifs⟩⟩ <;> first | (cases h5; done) | skip
      exact pts_one ((hc _ _ _ (GB s H c cl fp)).e c0 h5).2
  · refine ⟨_, h, fun okk items H1 q J fit Dl hDl => ?_⟩
    refine ⟨fun i m H' => i + m = items.length ∧ lcGo okk (rd C tg noW).g (rd C tg noW).gs (lcIf hasIf (rd C cond noW).t) (rd C elt noW).e Dl (own.map (·.2)) σ Q (items.drop i) H', ⟨items.length, by simp, by simpa using q Dl hDl⟩, ?_⟩
    rintro i m H' ⟨e, q⟩
    cases er : items[i]? with
    | none =>
      have hle := List.getElem?_eq_none_iff.mp er
      rw [List.drop_eq_nil_of_le hle] at q
      obtain ⟨q1, q2⟩ := q
      have f := fit i H' (by omega) q1
      rw [er] at f
      exact .inl ⟨f, q2⟩
    | some y =>
      obtain ⟨hlt, ey⟩ := List.getElem?_eq_some_iff.mp er
      rw [List.drop_eq_getElem_cons hlt, ey] at q
      cases y with
      | v y =>
        obtain ⟨q1, q2⟩ := q
        have f := fit i H' (by omega) q1
        rw [er] at f
        refine .inr ⟨f.1, _, fun H2 z => ⟨m - 1, by omega, by omega, z⟩, fun z H2 yl => ?_⟩
        obtain ⟨rfl, rfl⟩ := f.2 z H2 yl
        exact q2
      | t ys =>
        obtain ⟨q1, q2⟩ := q
        have f := fit i H' (by omega) q1
        rw [er] at f
        refine .inr ⟨f.1, _, fun H2 z => ⟨m - 1, by omega, by omega, z⟩, fun z H2 yl => ?_⟩
        obtain ⟨T, rfl, hT, rfl⟩ := f.2 z H2 yl
        exact gs_g h4 (q2 T hT)
theorem snd_lc {elt tg it cond : I} (own : List (Str × Nat)) (hasIf : Bool) (he : Snd D C n elt) (hg : Snd D C n tg) (hi : Snd D C n it) (hc : Snd D C n cond) : Snd D C n (.lc own elt tg it hasIf cond) := fun X W S G => snd_ofE (f := fun
      | .ListComp x [⟨t, it', ifs, 0⟩] sc _ => blkC S.N S.sc sc own && noSet it' && (chk D it S).i t it' && (chk D tg ⟨S.N, relS sc S.sc, false⟩).g t && (match hasIf with
        | true => (match ifs with | [c] => (chk D cond ⟨S.N, relS sc S.sc, false⟩).e c | _ => false)
        | false => ifs.isEmpty) && (chk D elt ⟨S.N, relS sc S.sc, false⟩).e x
      | _ => false) rfl rfl G.fc.hK fun x hx => by
  split at hx
  rotate_left
  · cases hx
  rename_i x t it' ifs sc pos
  obtain ⟨h1, h6⟩ := b2 hx
  obtain ⟨h1, h5⟩ := b2 h1
  obtain ⟨h1, h4⟩ := b2 h1
  obtain ⟨h1, h3⟩ := b2 h1
  obtain ⟨h1, h2⟩ := b2 h1
  obtain ⟨wi, g, tt, te, p1, p2, p3, p4, p5, p6⟩ := pe_lcG (own := own) (hasIf := hasIf) he hg hi hc G h1 h2 h3 h4 h5 h6 (pos := pos)
  refine ⟨⟨fun pins s σ H Q I h => ?_⟩, fun _ => rfl⟩
  exact (pe_lc G.calm (by rw [G.hN]; exact G.nd) p1 p2 p3 p4 p5 (fun _ => noSet_ok h2)).run pins s σ H Q I (p6 σ H Q h)
theorem lc_inv {elt tg it cond : I} {own : List (Str × Nat)} {hasIf : Bool} {S : SC} : ∀ {x : Expr}, (chk D (.lc own elt tg it hasIf cond) S).e x = true → ∃ y t it' ifs sc pos, x = .ListComp y [⟨t, it', ifs, 0⟩] sc pos ∧
    (blkC S.N S.sc sc own && noSet it' && (chk D it S).i t it' && (chk D tg ⟨S.N, relS sc S.sc, false⟩).g t && (match hasIf with
        | true => (match ifs with | [c] => (chk D cond ⟨S.N, relS sc S.sc, false⟩).e c | _ => false)
        | false => ifs.isEmpty) && (chk D elt ⟨S.N, relS sc S.sc, false⟩).e y) = true := by
  intro x hx
  simp only [chk, Ck.ofE] at hx
  split at hx
  · exact ⟨_, _, _, _, _, _, rfl, hx⟩
  · cases hx
/-- name = [..], on one line -/
theorem snd_setLc {elt tg it cond : I} (i : Nat) (own : List (Str × Nat)) (hasIf : Bool) (he : Snd D C n elt) (hg : Snd D C n tg) (hi : Snd D C n it) (hc : Snd D C n cond) : Snd D C n (.setLc i (.lc own elt tg it hasIf cond)) := fun X W S G => snd_ofS (f := fun
      | .Assign [.Name y py] x _ => (match x with
        | .ListComp _ [_] sc pos => decide (S.N[i]? = some y) && decide (S.sc.names.lookup y = some .local) && (py.line == pos.line) && !(sc.names.any fun (n, k) => n == y && (k == .local || k == .cell))
        | _ => false) && (chk D (.lc own elt tg it hasIf cond) S).e x
      | _ => false) rfl rfl fun x hx => by
  split at hx
  rotate_left
  · cases hx
  rename_i y py x pos
  obtain ⟨k1, hx⟩ := b2 hx
  obtain ⟨x, t, it', ifs, sc, lpos, rfl, hx⟩ := lc_inv hx
  obtain ⟨k1, k4⟩ := b2 k1
  obtain ⟨k1, k3⟩ := b2 k1
  obtain ⟨k1, k2⟩ := b2 k1
  obtain ⟨h1, h6⟩ := b2 hx
  obtain ⟨h1, h5⟩ := b2 h1
  obtain ⟨h1, h4⟩ := b2 h1
  obtain ⟨h1, h3⟩ := b2 h1
  obtain ⟨h1, h2⟩ := b2 h1
  obtain ⟨wi, g, tt, te, p1, p2, p3, p4, p5, p6⟩ := pe_lcG (own := own) (hasIf := hasIf) he hg hi hc G h1 h2 h3 h4 h5 h6 (pos := lpos)
  have ly : X.env.scope.names.lookup y = some .local := by rw [G.sc]; exact bd k2
  refine ⟨fun pins s σ H D' I h => ?_⟩
  refine (ps_setLc (i := i) G.calm (by rw [G.hN]; exact G.nd) (by rw [G.hN]; exact bd k1) ly (sw_true G.kd ly k3 (bn k4)) p1 p2 p3 p4 p5 (fun _ => noSet_ok h2)).run pins s σ H D' I ?_
  exact p6 σ H _ h
end
end U

namespace U
open PySem PySem.Spec PyProof.Rows L2
section
variable {D : SD} {C : Ctx} {n : Nat}
theorem snd_no {i : I} (h : ∀ S, chk D i S = {}) : Snd D C n i := fun X W S G => by
  refine ⟨fun x hx => ?_, fun xs hx => ?_, fun xs hx => ?_, fun x hx => ?_, fun x hx => ?_, fun x hx => ?_, fun x hx => ?_, fun tg x hx => ?_, fun ps ks vs hx => ?_, fun x hx => ?_⟩
  all_goals (rw [h S] at hx; cases hx)
theorem snd_setE {i : Nat} {e : I} (h : ∀ own elt tg it b c, e ≠ .lc own elt tg it b c) : Snd D C n (.setLc i e) := fun X W S G => snd_ofS (f := fun
      | .Assign [.Name y py] x _ => (match x with
        | .ListComp _ [_] sc pos => decide (S.N[i]? = some y) && decide (S.sc.names.lookup y = some .local) && (py.line == pos.line) && !(sc.names.any fun (n, k) => n == y && (k == .local || k == .cell))
        | _ => false) && (chk D e S).e x
      | _ => false) rfl rfl fun x hx => by
  split at hx
  rotate_left
  · cases hx
  rename_i y py x pos
  obtain ⟨k1, k2⟩ := b2 hx
  split at k1
  rotate_left
  · cases k1
  cases e <;> first | (cases k2; done) | exact absurd rfl (h _ _ _ _ _ _)
def SndP (D : SD) (C : Ctx) (n : Nat) (i : I) : Prop := Snd D C n i ∧ ∀ own elt tg it b c, i = .lc own elt tg it b c → Snd D C n elt ∧ Snd D C n tg ∧ Snd D C n it ∧ Snd D C n c
theorem snd_all (i : I) : SndP D C n i := by
  induction i with
  | lc own elt tg it b c h1 h2 h3 h4 => exact ⟨snd_lc own b h1.1 h2.1 h3.1 h4.1, fun _ _ _ _ _ _ e => by cases e; exact ⟨h1.1, h2.1, h3.1, h4.1⟩⟩
  | setLc i e h =>
    refine ⟨?_, fun _ _ _ _ _ _ e => nomatch e⟩
    by_cases hl : ∃ own elt tg it b c, e = .lc own elt tg it b c
    · obtain ⟨own, elt, tg, it, b, c, rfl⟩ := hl
      obtain ⟨h1, h2, h3, h4⟩ := h.2 _ _ _ _ _ _ rfl
      exact snd_setLc i own b h1 h2 h3 h4
    · exact snd_setE fun own elt tg it b c e => hl ⟨own, elt, tg, it, b, c, e⟩
  | k v => exact ⟨snd_k v, fun _ _ _ _ _ _ e => nomatch e⟩
  | v i => exact ⟨snd_v i, fun _ _ _ _ _ _ e => nomatch e⟩
  | g x => exact ⟨snd_g x, fun _ _ _ _ _ _ e => nomatch e⟩
  | bop op a b h1 h2 => exact ⟨snd_bop op h1.1 h2.1, fun _ _ _ _ _ _ e => nomatch e⟩
  | uop op a h1 => exact ⟨snd_uop op h1.1, fun _ _ _ _ _ _ e => nomatch e⟩
  | not a h1 => exact ⟨snd_not h1.1, fun _ _ _ _ _ _ e => nomatch e⟩
  | and a b h1 h2 => exact ⟨snd_and h1.1 h2.1, fun _ _ _ _ _ _ e => nomatch e⟩
  | or a b h1 h2 => exact ⟨snd_or h1.1 h2.1, fun _ _ _ _ _ _ e => nomatch e⟩
  | ite c a b h1 h2 h3 => exact ⟨snd_ite h1.1 h2.1 h3.1, fun _ _ _ _ _ _ e => nomatch e⟩
  | cmp op a b h1 h2 => exact ⟨snd_cmp op h1.1 h2.1, fun _ _ _ _ _ _ e => nomatch e⟩
  | cmp2 op op' a b c h1 h2 h3 => exact ⟨snd_cmp2 op op' h1.1 h2.1 h3.1, fun _ _ _ _ _ _ e => nomatch e⟩
  | lst a h1 => exact ⟨snd_lst h1.1, fun _ _ _ _ _ _ e => nomatch e⟩
  | tup a h1 => exact ⟨snd_tup h1.1, fun _ _ _ _ _ _ e => nomatch e⟩
  | dic a h1 => exact ⟨snd_dic h1.1, fun _ _ _ _ _ _ e => nomatch e⟩
  | call f a h1 => exact ⟨snd_call f h1.1, fun _ _ _ _ _ _ e => nomatch e⟩
  | mk f a h1 => exact ⟨snd_mk f h1.1, fun _ _ _ _ _ _ e => nomatch e⟩
  | bi f a h1 => exact ⟨snd_bi f h1.1, fun _ _ _ _ _ _ e => nomatch e⟩
  | isi a cs m h1 => exact ⟨snd_isi cs m h1.1, fun _ _ _ _ _ _ e => nomatch e⟩
  | meth o m a h1 h2 => exact ⟨snd_meth m h1.1 h2.1, fun _ _ _ _ _ _ e => nomatch e⟩
  | bm m o a h1 h2 => exact ⟨snd_bm m h1.1 h2.1, fun _ _ _ _ _ _ e => nomatch e⟩
  | icall o a ks zs h1 h2 h3 => exact ⟨snd_icall ks h1.1 h2.1 h3.1, fun _ _ _ _ _ _ e => nomatch e⟩
  | ostr a h1 => exact ⟨snd_ostr h1.1, fun _ _ _ _ _ _ e => nomatch e⟩
  | att o f h1 => exact ⟨snd_att f h1.1, fun _ _ _ _ _ _ e => nomatch e⟩
  | ix a b h1 h2 => exact ⟨snd_ix h1.1 h2.1, fun _ _ _ _ _ _ e => nomatch e⟩
  | sl o a b h1 h2 h3 => exact ⟨snd_sl h1.1 h2.1 h3.1, fun _ _ _ _ _ _ e => nomatch e⟩
  | nil => exact ⟨snd_nil, fun _ _ _ _ _ _ e => nomatch e⟩
  | cons a b h1 h2 => exact ⟨snd_cons h1.1 h2.1, fun _ _ _ _ _ _ e => nomatch e⟩
  | pair a b c h1 h2 h3 => exact ⟨snd_pair h1.1 h2.1 h3.1, fun _ _ _ _ _ _ e => nomatch e⟩
  | tupG a h1 => exact ⟨snd_tupG h1.1, fun _ _ _ _ _ _ e => nomatch e⟩
  | subG a b h1 h2 => exact ⟨snd_subG h1.1 h2.1, fun _ _ _ _ _ _ e => nomatch e⟩
  | attG a f h1 => exact ⟨snd_attG f h1.1, fun _ _ _ _ _ _ e => nomatch e⟩
  | itL a h1 => exact ⟨snd_itL h1.1, fun _ _ _ _ _ _ e => nomatch e⟩
  | itT a h1 => exact ⟨snd_itT h1.1, fun _ _ _ _ _ _ e => nomatch e⟩
  | itS a h1 => exact ⟨snd_itS h1.1, fun _ _ _ _ _ _ e => nomatch e⟩
  | itR1 a h1 => exact ⟨snd_itR1 h1.1, fun _ _ _ _ _ _ e => nomatch e⟩
  | itR2 a b h1 h2 => exact ⟨snd_itR2 h1.1 h2.1, fun _ _ _ _ _ _ e => nomatch e⟩
  | itE a h1 => exact ⟨snd_itE h1.1, fun _ _ _ _ _ _ e => nomatch e⟩
  | itES a h1 => exact ⟨snd_itES h1.1, fun _ _ _ _ _ _ e => nomatch e⟩
  | itZ a b h1 h2 => exact ⟨snd_itZ h1.1 h2.1, fun _ _ _ _ _ _ e => nomatch e⟩
  | set a b h1 h2 => exact ⟨snd_set h1.1 h2.1, fun _ _ _ _ _ _ e => nomatch e⟩
  | par i j a h1 => exact ⟨snd_par i j h1.1, fun _ _ _ _ _ _ e => nomatch e⟩
  | par3 i j l a h1 => exact ⟨snd_no fun _ => rfl, fun _ _ _ _ _ _ e => nomatch e⟩
  | aug i op a h1 => exact ⟨snd_no fun _ => rfl, fun _ _ _ _ _ _ e => nomatch e⟩
  | expr a h1 => exact ⟨snd_expr h1.1, fun _ _ _ _ _ _ e => nomatch e⟩
  | ret a h1 => exact ⟨snd_ret h1.1, fun _ _ _ _ _ _ e => nomatch e⟩
  | retN => exact ⟨snd_retN, fun _ _ _ _ _ _ e => nomatch e⟩
  | if_ a b c h1 h2 h3 => exact ⟨snd_if h1.1 h2.1 h3.1, fun _ _ _ _ _ _ e => nomatch e⟩
  | while_ a b h1 h2 => exact ⟨snd_while h1.1 h2.1, fun _ _ _ _ _ _ e => nomatch e⟩
  | for_ a b c h1 h2 h3 => exact ⟨snd_for h1.1 h2.1 h3.1, fun _ _ _ _ _ _ e => nomatch e⟩
  | raise c a h1 => exact ⟨snd_no fun _ => rfl, fun _ _ _ _ _ _ e => nomatch e⟩
  | never => exact ⟨snd_never, fun _ _ _ _ _ _ e => nomatch e⟩
  | pass => exact ⟨snd_pass, fun _ _ _ _ _ _ e => nomatch e⟩
  | brk => exact ⟨snd_brk, fun _ _ _ _ _ _ e => nomatch e⟩
  | cont => exact ⟨snd_cont, fun _ _ _ _ _ _ e => nomatch e⟩
end
/-! ### the program's defs -/
/-- where a def stands: a name of the module, a method, a property's getter -/
inductive Pth where
  | glo (x : Str) | meth (c m : Str) | getr (c f : Str)
  deriving DecidableEq
def Pth.ad (K : PySem.W.Frag) : Pth → Addr
  | .glo x => He.ga K x
  | .meth c m => He.ma K (He.ga K c) m
  | .getr c f => match PySem.W.recIn K (He.ma K (He.ga K c) f) "property" with
    | some (.ref g :: _) => g
    | _ => 0
/-- a def of the text, and how its body is read -/
structure DefI where
  key : Str
  at_ : Pth
  name : Str
  qual : Str
  st : Stmt
  N : List Str
  ps : List Str
  body : I
/-- the program: its defs, and what of the classes is known -/
structure Pg where
  defs : List DefI
  sd : SD
  gv : PySem.W.Frag → Str → Option V
  tabs : List KTab
  mth : Str → Str → Option Str
  prp : Str → Str → Option Str
  fld : Str → Str → Bool
  isi : Str → CR → Option Bool
  xf : Str → Option (List Str)
  kwo : Str → Nat → List Str → Option (List Nat)
def Pg.find (p : Pg) (key : Str) : Option DefI := p.defs.find? fun d => d.key == key
def Pg.ctx (p : Pg) (K : PySem.W.Frag) (w : World) (fn : Str → Sp) : Ctx := ⟨K, w, fn, p.gv K, p.tabs, p.mth, p.prp, p.fld, p.isi, p.xf, p.kwo⟩
def stepP (p : Pg) (K : PySem.W.Frag) (w : World) (fn : Str → Sp) (key : Str) : Sp := fun vs H Q E => match p.find key with
    | none => False
    | some d => vs.length = d.ps.length ∧ (rd (p.ctx K w fn) d.body fun cls dd _ H' => E cls dd H').s { nx := fun _ H' => Q .non H', rt := Q } (start d.N vs) H
/-- what a def promises: what its own text says, n calls deep at most -/
@[irreducible] def run (p : Pg) (K : PySem.W.Frag) (w : World) (n : Nat) : Str → Sp := Nat.rec (fun _ _ _ _ _ => False) (fun _ ih => stepP p K w ih) n
theorem run_succ (p : Pg) (K : PySem.W.Frag) (w : World) (n : Nat) : run p K w (n + 1) = stepP p K w (run p K w n) := by
  unfold run
  rfl
theorem run_zero (p : Pg) (K : PySem.W.Frag) (w : World) : run p K w 0 = fun _ _ _ _ _ => False := by
  unfold run
  rfl
theorem run_of {p : Pg} {K : PySem.W.Frag} {w : World} {n : Nat} {key : Str} {d : DefI} (h : p.find key = some d) {vs : List V} {H : Hp} {Q : VK} {E : XK} (hl : vs.length = d.ps.length)
    (hb : (rd (p.ctx K w (run p K w n)) d.body fun cls dd _ H' => E cls dd H').s { nx := fun _ H' => Q .non H', rt := Q } (start d.N vs) H) : run p K w (n + 1) key vs H Q E := by
  rw [run_succ]
  unfold stepP
  rw [h]
  exact ⟨hl, hb⟩
/-- what must be shown of the program's tables -/
structure PgOk (p : Pg) (P : Program) (w : World) (K : PySem.W.Frag) (mg : Str → Option Value) : Prop where
  defs : ∀ d ∈ p.defs, (∃ fd, FunD K d.name d.qual (defArgs d.st) (defBody d.st) (defScope d.st) [] [] (d.at_.ad K) fd ∧ Binds K fd d.ps [] ∧
      ∀ l ks ord, p.kwo d.key l ks = some ord → ∀ (s : Shared) (us ws : List Value) , K.In s.heap → us.length = l → ws.length = ks.length → ∃ ts, ord.mapM (fun i => (us ++ ws)[i]?) = some ts ∧ BindsTo s fd ⟨us, ks.zip ws⟩ (d.ps.zip ts)) ∧
    FnScope d.N d.ps (defScope d.st) ∧ (chk p.sd d.body ⟨d.N, defScope d.st, true⟩).ss (defBody d.st) = true
  kg : KGood K w p.tabs
  fr : ∀ x ∈ p.sd.frees, mg x = none
  gl : ∀ x ∈ p.sd.globs, ∃ v u, p.gv K x = some v ∧ mg x = some u ∧ RelV v u
  fn : ∀ x ∈ p.sd.fns, mg x = some (.ref (He.ga K x)) ∧ ∃ d, p.find x = some d ∧ d.at_ = .glo x
  cls : ∀ c ∈ p.sd.clss, mg c = some (.ref (He.ga K c)) ∧ (∀ t ∈ ["NoneType", "bool", "int", "str", "list", "tuple", "dict"], PySem.W.kitOne K (.type t) (.ref (He.ga K c)) = some false)
  mks : ∀ c ∈ p.sd.mks, mg c = some (.ref (He.ga K c)) ∧ PySem.W.makesIn K (He.ga K c) = true ∧ PySem.W.keepIn K (.ref (He.ga K c)) = true
  mth : ∀ c m key, p.mth c m = some key → ∃ d, p.find key = some d ∧ Cls K (He.ga K c) ∧ Meth K (He.ga K c) m (d.at_.ad K)
  prp : ∀ c f key, p.prp c f = some key → ∃ d, p.find key = some d ∧ Cls K (He.ga K c) ∧ ∃ q, PropOf K (He.ga K c) f q (d.at_.ad K)
  fld : ∀ c f, p.fld c f = true → Cls K (He.ga K c) ∧ NoAttr K (He.ga K c) f
  isi : ∀ c r b, p.isi c r = some b → (∃ (_ : Cls K (He.ga K c)), PySem.W.findIn K (.ref (He.ga K c)) "__class__" = some (some (.builtin "object.__class__")) ∧
    PySem.W.specialIn K (.builtin "object.__class__") "__get__" = some (some (.builtin "getset_descriptor.__get__")) ∧ PySem.W.takesIn K (.builtin "object.__class__") = some true ∧ PySem.W.mroIn K (He.ga K c) (.type "object") = some true) ∧
    PySem.W.kitOne K (.ref (He.ga K c)) (match r with | .ty n => .type n | .own x => .ref (He.ga K x)) = some b
theorem byOrd_vals {vs : List V} {us : List Value} (r : Vals vs us) : ∀ {ord : List Nat} {ts : List V} {zs : List Value}, byOrd vs ord = some ts → ord.mapM (fun i => us[i]?) = some zs → Vals ts zs := by
  intro ord
  unfold byOrd
  induction ord with
  | nil => intro ts zs h1 h2; cases h1; cases h2; exact .nil
  | cons i ord ih =>
    intro ts zs h1 h2
    rw [List.mapM_cons] at h1 h2
    cases e1 : vs[i]? with
    | none => rw [e1] at h1; cases h1
    | some a =>
      cases e2 : us[i]? with
      | none => rw [e2] at h2; cases h2
      | some b =>
        rw [e1] at h1
        rw [e2] at h2
        obtain ⟨u, hu, ru⟩ := r.get e1
        rw [e2] at hu
        cases hu
        cases e3 : ord.mapM (fun i => vs[i]?) with
        | none => rw [e3] at h1; cases h1
        | some ts' =>
          cases e4 : ord.mapM (fun i => us[i]?) with
          | none => rw [e4] at h2; cases h2
          | some zs' =>
            rw [e3] at h1
            rw [e4] at h2
            cases h1
            cases h2
            exact .cons ru (ih e3 e4)
theorem find_mem {p : Pg} {key : Str} {d : DefI} (h : p.find key = some d) : d ∈ p.defs ∧ d.key = key := ⟨List.mem_of_find?_eq_some h, by simpa using List.find?_some h⟩
section
variable {p : Pg} {P : Program} {w : World} {K : PySem.W.Frag} {mg : Str → Option Value}
theorem fnIn_of {x qual : Str} {params : Arguments} {body : List Stmt} {scope : Scope} {f : Addr} {fd : FuncData} (F : FunD K x qual params body scope [] [] f fd) : PySem.W.fnIn K f = true := by
  obtain ⟨oc, od, dV, kV, doc, pm, an, cdv, ct, osl, _, lk, _⟩ := F.ex
  unfold PySem.W.fnIn
  rw [lk]
/-- what is known of a def: n calls deep -/
def Keeps (p : Pg) (P : Program) (w : World) (K : PySem.W.Frag) (mg : Str → Option Value) (base : Heap) (n : Nat) : Prop :=
    ∀ key d, p.find key = some d → ∃ fd, FnOk P w K mg base (CX P w) (3 * n + 1) (d.at_.ad K) fd d.ps (run p K w n key) ∧ Binds K fd d.ps [] ∧ PySem.W.keepIn K (.ref (d.at_.ad K)) = true ∧ PySem.W.fnIn K (d.at_.ad K) = true ∧
      (∀ l ks ord, p.kwo key l ks = some ord → FnA P w K mg base (3 * n + 1) (d.at_.ad K) ks (fun vs zs H Q E => vs.length = l ∧ ∃ ts, byOrd (vs ++ zs) ord = some ts ∧ run p K w n key ts H Q E)) ∧
      ∃ o, K.lookup (d.at_.ad K) = some o ∧ o.data = .func fd
theorem fc_of (ok : PgOk p P w K mg) {base : Heap} {n : Nat} (kp : Keeps p P w K mg base n) : Fc p.sd (p.ctx K w (run p K w n)) n P w K mg base where
  hK := rfl
  hw := rfl
  kg := ok.kg
  fr := ok.fr
  gl := ok.gl
  fn := fun x hx => by
    obtain ⟨h1, d, h2, h3⟩ := ok.fn x hx
    obtain ⟨fd, k1, k2, k3, k4, k5, _⟩ := kp x d h2
    rw [h3] at k1 k3
    exact ⟨h1, k3, fnA_of k1 k2⟩
  cls := ok.cls
  mks := ok.mks
  mth := fun c m key h => by
    obtain ⟨d, h2, h3, h4⟩ := ok.mth c m key h
    obtain ⟨fd, k1, k2, k3, k4, k5, _⟩ := kp key d h2
    exact ⟨_, h3, h4, k4, fnA_of k1 k2, k5⟩
  prp := fun c f key h => by
    obtain ⟨d, h2, h3, q, h4⟩ := ok.prp c f key h
    obtain ⟨fd, k1, k2, k3, k4, k5, _⟩ := kp key d h2
    exact ⟨h3, q, _, h4, fnA_of k1 k2⟩
  fld := ok.fld
  isi := ok.isi
theorem keeps_of (ok : PgOk p P w K mg) {base : Heap} {n : Nat}
    (h : ∀ key d fd, p.find key = some d → FunD K d.name d.qual (defArgs d.st) (defBody d.st) (defScope d.st) [] [] (d.at_.ad K) fd → FnOk P w K mg base (CX P w) (3 * n + 1) (d.at_.ad K) fd d.ps (run p K w n key)) : Keeps p P w K mg base n := by
  intro key d hd
  obtain ⟨⟨fd, F, B, kw⟩, S, hc⟩ := ok.defs d (find_mem hd).1
  have F1 := h key d fd hd F
  refine ⟨fd, F1, B, F.kp, fnIn_of F, fun l ks ord ho => ?_, by
    obtain ⟨oc, od, dV, kV, doc, pm, an, cdv, ct, osl, e, lk, _⟩ := F.ex
    exact ⟨_, lk, rfl⟩⟩
  rw [← (find_mem hd).2] at ho
  intro A outer s H us ws vs zs Q E hr e0 r rz hl hq
  obtain ⟨h1, ts, h2, h3⟩ := hq
  have KX : K.In s.heap := e0.mod.kin.keeps fun b o e => (e0.bs b o e).1
  obtain ⟨us', g1, g2⟩ := kw l ks ord ho s us ws KX (by rw [← r.length, h1]) (by rw [← rz.length, hl])
  exact F1.run A outer s H ⟨us, ks.zip ws⟩ us' ts Q E hr e0 g2 (byOrd_vals (r.append rz) h2 g1) h3
/-- every def keeps its promise -/
theorem run_ok (ok : PgOk p P w K mg) (base : Heap) : ∀ n, Keeps p P w K mg base n := by
  intro n
  induction n with
  | zero =>
    refine keeps_of ok fun key d fd hd F => ?_
    rw [run_zero]
    exact ⟨fun _ _ _ _ h => h.elim, fun _ _ _ _ _ _ _ _ _ _ _ _ _ h => h.elim⟩
  | succ n ih =>
    refine keeps_of ok fun key d fd hd F => ?_
    obtain ⟨_, S, hc⟩ := ok.defs d (find_mem hd).1
    have hs : ∀ vs H Q E, run p K w (n + 1) key vs H Q E → vs.length = d.ps.length ∧ (rd (p.ctx K w (run p K w n)) d.body fun cls dd _ H' => E cls dd H').s { nx := fun _ H' => Q .non H', rt := Q } (start d.N vs) H := by
      intro vs H Q E h
      rw [run_succ] at h
      unfold stepP at h
      rw [hd] at h
      exact h
    refine FunD.ok (k := 3 * n + 3) F S (fun vs H Q E h => (hs vs H Q E h).1) fun cdv A outer s H vs Q E hr hsp => ?_
    obtain ⟨hl, hb⟩ := hs vs H Q E hsp
    refine ⟨_, ((snd_all (D := p.sd) (C := p.ctx K w (run p K w n)) (n := n) d.body).1 (cxOf (CX P w) P w K mg base d.N d.qual (defScope d.st) (d.at_.ad K) cdv A outer s H E) (fun cls dd _ H' => E cls dd H') ⟨d.N, defScope d.st, true⟩ ?_).ss _ hc, hb⟩
    exact { fc := fc_of ok ih, hN := rfl, nd := S.nd, sc := rfl, kd := S.kind, fnt := fun _ _ => rfl, room := hr, calm := rfl, tk := takes_of rfl rfl rfl rfl, own := passes_of rfl }
end
end U

namespace U
open PySem PySem.Spec PyProof.Rows L2
/-! ### the head: what is looked at behind the top -/
/-- what is said of the program: lists, so that all of it is judged at once -/
structure Hd where
  defs : List DefI
  frees : List Str
  globs : List (Str × He.Dv)
  fns : List Str
  clss : List Str
  mks : List Str
  mth : List ((Str × Str) × Str)
  prp : List ((Str × Str) × Str)
  fld : List (Str × Str)
  isi : List ((Str × CR) × Bool)
  tabs : List (Str × List (Str × V))
  xf : List (Str × List Str)
  kwo : List ((Str × Nat × List Str) × List Nat)
def Hd.pg (h : Hd) : Pg where
  defs := h.defs
  sd := ⟨h.frees, h.globs.map (·.1), h.fns, h.clss, h.mks⟩
  gv := fun K x => (h.globs.lookup x).map (He.Dv.v K)
  tabs := h.tabs.map fun t => ⟨fun K => He.ga K t.1, t.2⟩
  mth := fun c m => h.mth.lookup (c, m)
  prp := fun c m => h.prp.lookup (c, m)
  fld := fun c f => h.fld.elem (c, f)
  isi := fun c r => h.isi.lookup (c, r)
  xf := fun c => h.xf.lookup c
  kwo := fun k l ks => h.kwo.lookup (k, l, ks)
theorem lookup_mem {α β : Type} [BEq α] [LawfulBEq α] {a : α} {b : β} : ∀ {l : List (α × β)}, l.lookup a = some b → (a, b) ∈ l
  | [], h => by cases h
  | (x, y) :: r, h => by
    rw [List.lookup_cons] at h
    cases e : (a == x) with
    | true =>
      rw [e] at h
      have hy : y = b := Option.some.inj h
      rw [eq_of_beq e, hy]
      exact List.mem_cons_self ..
    | false =>
      rw [e] at h
      exact List.mem_cons_of_mem _ (lookup_mem h)
theorem lookup_of_mem {α β : Type} [BEq α] [LawfulBEq α] {a : α} : ∀ {l : List (α × β)}, a ∈ l.map (·.1) → ∃ b, l.lookup a = some b
  | [], h => by cases h
  | (x, y) :: r, h => by
    rw [List.lookup_cons]
    cases e : (a == x) with
    | true => exact ⟨y, rfl⟩
    | false =>
      refine lookup_of_mem ?_
      rcases List.mem_cons.mp h with h | h
      · rw [h] at e
        simp at e
      · exact h
/-! #### tables -/
def tabL : List DictEntry → List (Str × V) → Bool
  | [], [] => true
  | e :: es, (k, v) :: r => (match e.key with
    | .str x _ => decide (x = k) && He.relB v e.val
    | _ => false) && tabL es r
  | _, _ => false
def tabB (K : PySem.W.Frag) (a : Addr) (kvs : List (Str × V)) : Bool := match K.lookup a with
  | some ⟨_, _, .dict es _, _⟩ => tabL es.toList kvs
  | _ => false
theorem tabL_ref : ∀ {es : List DictEntry} {kvs : List (Str × V)}, tabL es kvs = true → es.any (·.refKey) = false
  | [], _, _ => rfl
  | e :: es, [], h => by cases h
  | e :: es, (k, v) :: r, h => by
    unfold tabL at h
    obtain ⟨h1, h2⟩ := He.ba h
    rw [List.any_cons, tabL_ref h2, Bool.or_false]
    split at h1
    · rename_i x t ek
      unfold DictEntry.refKey
      rw [ek]
    · cases h1
theorem tabL_ok (z : Str) : ∀ {es : List DictEntry} {kvs : List (Str × V)}, tabL es kvs = true → RelO (kvs.lookup z) ((es.find? (·.key.isStr z)).map (·.val))
  | [], [], _ => trivial
  | [], _ :: _, h => by cases h
  | e :: es, [], h => by cases h
  | e :: es, (k, v) :: r, h => by
    unfold tabL at h
    obtain ⟨h1, h2⟩ := He.ba h
    split at h1
    · rename_i x t ek
      obtain ⟨h3, h4⟩ := He.ba h1
      have ex : x = k := of_decide_eq_true h3
      rw [List.lookup_cons, List.find?_cons]
      have es' : e.key.isStr z = (x == z) := by rw [ek] <;> rfl
      rw [es', ex]
      by_cases hz : z = k
      · rw [hz, beq_self_eq_true]
        exact He.relB_ok h4
      · have e1 : (z == k) = false := beq_false_of_ne hz
        have e2 : (k == z) = false := beq_false_of_ne fun q => hz q.symm
        rw [e1, e2]
        exact tabL_ok z h2
    · cases h1
theorem tabB_ok {K : PySem.W.Frag} {a : Addr} {kvs : List (Str × V)} (h : tabB K a kvs = true) (z : Str) : ∃ r, PySem.W.nsIn K a z = some r ∧ RelO (kvs.lookup z) r := by
  unfold tabB at h
  unfold PySem.W.nsIn
  split at h
  · rename_i es n sl e
    rw [e]
    have k := tabL_ok z h
    dsimp only
    cases q : es.toList.find? (·.key.isStr z) with
    | some u =>
      rw [q] at k
      exact ⟨_, rfl, k⟩
    | none =>
      rw [q] at k
      rw [tabL_ref h]
      exact ⟨_, rfl, k⟩
  · cases h
/-! #### defs -/
def fnV (K : PySem.W.Frag) (a : Addr) : He.FnW := match K.lookup a with
  | some ⟨_, _, .func fd, _⟩ => some (fd.name, fd.qualname, fd.params, fd.body, fd.scope, fd.globals, fd.closure, fd.builtins)
  | _ => none
def DefI.val (d : DefI) : He.FnW := some (d.name, d.qual, defArgs d.st, .stmts (defBody d.st), defScope d.st, mainGlobals, [], builtinsNs)
def DefI.ok (K : PySem.W.Frag) (d : DefI) : Bool := PySem.W.keepIn K (.ref (d.at_.ad K)) && (match K.lookup (d.at_.ad K) with
  | some ⟨_, _, .func fd, _⟩ => PySem.W.codeIn K fd.code d.qual && He.dflB K fd.defaults []
  | _ => false)
theorem DefI.funD {K : PySem.W.Frag} {d : DefI} (e : fnV K (d.at_.ad K) = d.val) (c : d.ok K = true) : ∃ fd, FunD K d.name d.qual (defArgs d.st) (defBody d.st) (defScope d.st) [] [] (d.at_.ad K) fd := by
  obtain ⟨kp, c2⟩ := He.ba c
  unfold fnV at e
  cases q : K.lookup (d.at_.ad K) with
  | none => rw [q] at c2; cases c2
  | some o =>
    obtain ⟨oc, od, dt, osl⟩ := o
    rw [q] at c2 e
    cases dt with
    | func fd =>
      obtain ⟨n1, n2, n3, n4, n5, n6, n7, n8, n9, n10, n11, n12, n13, n14, n15⟩ := fd
      have e' := Option.some.inj e
      simp only [Prod.mk.injEq] at e'
      obtain ⟨h1, h2, h3, h4, h5, h6, h7, h8⟩ := e'
      rw [h1, h2, h3, h4, h5, h6, h7, h8] at q
      obtain ⟨k1, k2⟩ := He.ba c2
      exact ⟨_, ⟨oc, od, n8, n9, n10, n11, n12, n13, n14, osl, rfl, q, k1, He.dflB_ok k2, .inl rfl⟩, kp⟩
    | _ => cases c2
/-! #### the check -/
def tyL : List String := ["NoneType", "bool", "int", "str", "list", "tuple", "dict"]
def crW (K : PySem.W.Frag) (r : CR) : Value := match r with | .ty n => .type n | .own x => .ref (He.ga K x)
def gloB (K : PySem.W.Frag) (x : Str) : Bool := (He.Fa.glo x).ok K
def Hd.okB (h : Hd) (K : PySem.W.Frag) : Bool :=
  h.defs.all (·.ok K) && (h.frees.all (fun x => (He.Fa.free x).ok K) && (h.globs.all (fun q => match PySem.W.nsIn K mainGlobals q.1 with
    | some (some u) => He.relB (q.2.v K) u
    | _ => false) && (h.fns.all (gloB K) && (h.clss.all (fun c => gloB K c && tyL.all fun t => decide (PySem.W.kitOne K (.type t) (.ref (He.ga K c)) = some false)) &&
  (h.mks.all (fun c => gloB K c && (PySem.W.makesIn K (He.ga K c) && PySem.W.keepIn K (.ref (He.ga K c)))) &&
  (h.mth.all (fun q => match h.pg.find q.2 with
    | some d => (He.Fa.cls q.1.1).ok K && ((He.Fa.meth q.1.1 q.1.2).ok K && decide (d.at_.ad K = He.ma K (He.ga K q.1.1) q.1.2))
    | none => false) &&
  (h.prp.all (fun q => match h.pg.find q.2 with
    | some d => (He.Fa.cls q.1.1).ok K && (He.eqO (PySem.W.findIn K (.ref (He.ga K q.1.1)) q.1.2) (some (some (.ref (He.ma K (He.ga K q.1.1) q.1.2)))) &&
      (He.eqO (PySem.W.specialIn K (.ref (He.ma K (He.ga K q.1.1) q.1.2)) "__get__") (some (some (.builtin "property.__get__"))) && (decide (PySem.W.takesIn K (.ref (He.ma K (He.ga K q.1.1) q.1.2)) = some true) &&
      (match PySem.W.recIn K (He.ma K (He.ga K q.1.1) q.1.2) "property" with
        | some (.ref g :: _) => decide (g = d.at_.ad K)
        | _ => false))))
    | none => false) &&
  (h.fld.all (fun q => (He.Fa.cls q.1).ok K && (He.Fa.noat q.1 q.2).ok K) &&
  (h.isi.all (fun q => (He.Fa.cls q.1.1).ok K && (He.eqO (PySem.W.findIn K (.ref (He.ga K q.1.1)) "__class__") (some (some (.builtin "object.__class__"))) &&
      (He.eqO (PySem.W.specialIn K (.builtin "object.__class__") "__get__") (some (some (.builtin "getset_descriptor.__get__"))) && (decide (PySem.W.takesIn K (.builtin "object.__class__") = some true) &&
      (decide (PySem.W.mroIn K (He.ga K q.1.1) (.type "object") = some true) && decide (PySem.W.kitOne K (.ref (He.ga K q.1.1)) (crW K q.1.2) = some q.2)))))) &&
  h.tabs.all (fun t => tabB K (He.ga K t.1) t.2))))))))))
abbrev AlU : Type := Bool × List He.FnW × List (Option (List (Option (Str × Int))))
def Hd.obs (h : Hd) (K : PySem.W.Frag) : AlU := (h.okB K, h.defs.map fun d => fnV K (d.at_.ad K), h.tabs.map fun t => He.dicW K (He.ga K t.1))
def Hd.val (h : Hd) (w : World) : AlU := (true, h.defs.map DefI.val, h.tabs.map fun t => some (He.keysIn w.params (t.2.map (·.1))))
def Hd.obsG (h : Hd) (n : Nat) (g : Addr → Option Obj) : AlU := h.obs (He.frG g (He.asD g n))
def Hd.hook (h : Hd) (n : Nat) : PySem.W.Hook where
  α := AlU
  obs := fun s => h.obsG n s.heap.get?
  val := fun w => h.val w
  says := fun w hp => ∃ K : PySem.W.Frag, K.In hp ∧ h.obs K = h.val w
  of := fun _ _ e => ⟨_, He.frG_in, e⟩
  keeps := fun _ _ _ ⟨K, hK, c⟩ k => ⟨K, PySem.W.Frag.In.keeps hK k, c⟩
def Hd.ob (h : Hd) (n : Nat) (s : PySem.W.SharedT) : AlU := h.obsG n (HandSHeadRun.getT s)
theorem Hd.ob_eq (h : Hd) (n : Nat) (s : PySem.W.SharedT) : h.ob n s = (h.hook n).obs s.abs := by
  have e : HandSHeadRun.getT s = s.abs.heap.get? := funext (HandSHeadRun.getT_eq s)
  unfold Hd.ob
  rw [e] <;> rfl
/-! #### what is judged of the text alone -/
def scB (N ps : List Str) (sc : Scope) : Bool := (match sc.kind with | .function => true | _ => false) && (!sc.isCoroutine && (!sc.isGenerator && (decide N.Nodup && (decide (N.take ps.length = ps) &&
  (ps.all (fun x => match sc.names.lookup x with | some .local => true | some .cell => true | _ => false) && sc.names.all fun y => match y.2 with | .free => false | _ => true)))))
theorem scB_ok {N ps : List Str} {sc : Scope} (h : scB N ps sc = true) : FnScope N ps sc := by
  unfold scB at h
  obtain ⟨h1, h⟩ := He.ba h
  obtain ⟨h2, h⟩ := He.ba h
  obtain ⟨h3, h⟩ := He.ba h
  obtain ⟨h4, h⟩ := He.ba h
  obtain ⟨h5, h⟩ := He.ba h
  obtain ⟨h6, h7⟩ := He.ba h
  refine ⟨?_, by simpa using h2, by simpa using h3, of_decide_eq_true h4, of_decide_eq_true h5, fun x hx => ?_, fun y hy e => ?_⟩
  · split at h1
    · assumption
    · cases h1
  · have := List.all_eq_true.mp h6 x hx
    split at this
    · rename_i e; exact .inl e
    · rename_i e; exact .inr e
    · cases this
  · have := List.all_eq_true.mp h7 y hy
    rw [e] at this
    cases this
def Hd.stat (h : Hd) : Bool := h.defs.all (fun d => scB d.N d.ps (defScope d.st) && (chk h.pg.sd d.body ⟨d.N, defScope d.st, true⟩).ss (defBody d.st)) &&
  h.fns.all (fun x => match h.pg.find x with
    | some d => decide (d.at_ = .glo x)
    | none => false)
/-- how a def's arguments are bound -/
structure DefI.Bnd (h : Hd) (d : DefI) : Prop where
  all : ∀ (kV doc pm : Value) (an : Option Addr) (cdv ct : Value) (us : List Value), us.length = d.ps.length → bindArgs (PySem.W.fnOf d.name d.qual (defArgs d.st) (defBody d.st) (defScope d.st) .none kV doc pm an cdv ct) ⟨us, []⟩ = pure (d.ps.zip us)
  kw : ∀ l ks ord, ((d.key, l, ks), ord) ∈ h.kwo → ∀ (kV doc pm : Value) (an : Option Addr) (cdv ct : Value) (us ws : List Value), us.length = l → ws.length = ks.length →
    ∃ ts, ord.mapM (fun i => (us ++ ws)[i]?) = some ts ∧ bindArgs (PySem.W.fnOf d.name d.qual (defArgs d.st) (defBody d.st) (defScope d.st) .none kV doc pm an cdv ct) ⟨us, ks.zip ws⟩ = pure (d.ps.zip ts)
theorem pgOk_of {h : Hd} {P : Program} {w : World} {K : PySem.W.Frag} {mg : Str → Option Value} {hp : Heap} (st : h.stat = true) (bn : ∀ d ∈ h.defs, d.Bnd h) (KX : K.In hp) (G : hp.Ns mainGlobals mg) (c : h.obs K = h.val w) : PgOk h.pg P w K mg := by
  have c1 : h.okB K = true := congrArg (fun z : AlU => z.1) c
  have c2 : (h.defs.map fun d => fnV K (d.at_.ad K)) = h.defs.map DefI.val := congrArg (fun z : AlU => z.2.1) c
  have c3 : (h.tabs.map fun t => He.dicW K (He.ga K t.1)) = h.tabs.map fun t => some (He.keysIn w.params (t.2.map (·.1))) := congrArg (fun z : AlU => z.2.2) c
  unfold Hd.okB at c1
  obtain ⟨k1, c1⟩ := He.ba c1
  obtain ⟨k2, c1⟩ := He.ba c1
  obtain ⟨k3, c1⟩ := He.ba c1
  obtain ⟨k4, c1⟩ := He.ba c1
  obtain ⟨k5, c1⟩ := He.ba c1
  obtain ⟨k6, c1⟩ := He.ba c1
  obtain ⟨k7, c1⟩ := He.ba c1
  obtain ⟨k8, c1⟩ := He.ba c1
  obtain ⟨k9, c1⟩ := He.ba c1
  obtain ⟨k10, k11⟩ := He.ba c1
  obtain ⟨s1, s2⟩ := He.ba st
  refine ⟨fun d hd => ?_, fun t ht => ?_, fun x hx => ?_, fun x hx => ?_, fun x hx => ?_, fun x hx => ?_, fun x hx => ?_, fun x m key hx => ?_, fun x m key hx => ?_, fun x f hx => ?_, fun x r b hx => ?_⟩
  · have e : fnV K (d.at_.ad K) = d.val := List.map_inj_left.mp c2 d hd
    obtain ⟨fd, F⟩ := DefI.funD e (List.all_eq_true.mp k1 d hd)
    obtain ⟨s3, s4⟩ := He.ba (List.all_eq_true.mp s1 d hd)
    refine ⟨⟨fd, F, F.bindsN (bn d hd).all, fun l ks ord ho s us ws _ hl hz => ?_⟩, scB_ok s3, s4⟩
    obtain ⟨oc, od, dV, kV, doc, pm, an, cdv, ct, osl, rfl, lk, hcd, hD, hK⟩ := F.ex
    rcases hD with ⟨_, rfl⟩ | ⟨e, _⟩
    · obtain ⟨ts, g1, g2⟩ := (bn d hd).kw l ks ord (lookup_mem ho) kV doc pm an cdv ct us ws hl hz
      exact ⟨ts, g1, .of_eq g2⟩
    · exact absurd rfl e
  · obtain ⟨q, hq, rfl⟩ := List.mem_map.mp ht
    have e : He.dicW K (He.ga K q.1) = some (He.keysIn w.params (q.2.map (·.1))) := List.map_inj_left.mp c3 q hq
    obtain ⟨es, n, D⟩ := He.dicW_ok e
    exact ⟨es, n, D, tabB_ok (List.all_eq_true.mp k11 q hq)⟩
  · exact He.free_ok KX G (List.all_eq_true.mp k2 x hx)
  · obtain ⟨v, hv⟩ := lookup_of_mem hx
    have k := List.all_eq_true.mp k3 _ (lookup_mem hv)
    dsimp only at k
    cases e : PySem.W.nsIn K mainGlobals x with
    | none => rw [e] at k; cases k
    | some r =>
      rw [e] at k
      cases r with
      | none => cases k
      | some u =>
        refine ⟨v.v K, u, ?_, PySem.W.mg_of KX G e, He.relB_ok k⟩
        show (h.globs.lookup x).map (He.Dv.v K) = _
        rw [hv] <;> rfl
  · refine ⟨He.glo_ok KX G (List.all_eq_true.mp k4 x hx), ?_⟩
    have k := List.all_eq_true.mp s2 x hx
    cases e : h.pg.find x with
    | none => rw [e] at k; cases k
    | some d => rw [e] at k; exact ⟨d, rfl, of_decide_eq_true k⟩
  · obtain ⟨k, k'⟩ := He.ba (List.all_eq_true.mp k5 x hx)
    exact ⟨He.glo_ok KX G k, fun t ht => of_decide_eq_true (List.all_eq_true.mp k' t ht)⟩
  · obtain ⟨k, k'⟩ := He.ba (List.all_eq_true.mp k6 x hx)
    obtain ⟨k', k''⟩ := He.ba k'
    exact ⟨He.glo_ok KX G k, k', k''⟩
  · have k := List.all_eq_true.mp k7 _ (lookup_mem hx)
    cases e : h.pg.find key with
    | none => rw [e] at k; cases k
    | some d =>
      rw [e] at k
      obtain ⟨q1, q⟩ := He.ba k
      obtain ⟨q2, q3⟩ := He.ba q
      refine ⟨d, rfl, He.cls_ok q1, ?_⟩
      rw [of_decide_eq_true q3]
      exact He.meth_ok q2
  · have k := List.all_eq_true.mp k8 _ (lookup_mem hx)
    cases e : h.pg.find key with
    | none => rw [e] at k; cases k
    | some d =>
      rw [e] at k
      obtain ⟨q1, q⟩ := He.ba k
      obtain ⟨q2, q⟩ := He.ba q
      obtain ⟨q3, q⟩ := He.ba q
      obtain ⟨q4, q5⟩ := He.ba q
      refine ⟨d, rfl, He.cls_ok q1, _, He.eqO_ok q2, He.eqO_ok q3, of_decide_eq_true q4, ?_⟩
      split at q5
      · rename_i g rest e
        rw [← of_decide_eq_true q5]
        exact ⟨rest, e⟩
      · cases q5
  · obtain ⟨q1, q2⟩ := He.ba (List.all_eq_true.mp k9 _ (by simpa [Hd.pg] using hx))
    exact ⟨He.cls_ok q1, He.noat_ok q2⟩
  · obtain ⟨q1, q⟩ := He.ba (List.all_eq_true.mp k10 _ (lookup_mem hx))
    obtain ⟨q2, q⟩ := He.ba q
    obtain ⟨q3, q⟩ := He.ba q
    obtain ⟨q4, q⟩ := He.ba q
    obtain ⟨q5, q6⟩ := He.ba q
    exact ⟨⟨He.cls_ok q1, He.eqO_ok q2, He.eqO_ok q3, of_decide_eq_true q4, of_decide_eq_true q5⟩, of_decide_eq_true q6⟩
/-! ### the end -/
theorem walk_end {l : PySem.W.OpenLaw} {n k : Nat} {q : Program} {loose : List Str} {XP : (Str → Option Value) → Heap → Prop} {YP : World → Heap → Prop} {d : DefRec} {x : Str}
    (hn : l.most = some n) (hn2 : n ≤ sizeLine) (hdf : d.params.defaults = []) (hr : Room k callerA)
    (F : ∀ (w : World) (mg : Str → Option Value) (fa : Addr) (h : Heap), YP w h → h.Ns mainGlobals mg → mg d.name = some (.ref fa) →
      ∃ (K : PySem.W.Frag) (fd : FuncData) (sp : Sp), K.In h ∧ (∀ (s : Shared) (u : Value), BindsTo s fd ⟨[u], []⟩ [(x, u)]) ∧
        (∀ (H : Hp) (a : Addr) (ns : List Int), ns.length ≤ n → (∀ z ∈ ns, Builtin.Int.intBits z ≤ 1048576) → Only H → SqL K H a (ns.map V.int) → sp [.ref a] H (fun v _ => v = .bl true) fun _ _ _ => False) ∧
        ∀ base : Heap, K.In base → base.Ns mainGlobals mg → FnOk l.prog w K mg base (CX l.prog w) k fa fd [x] sp) :
    PySem.W.WalkO q loose XP YP l.row.toRowW d [] (fun f vs => PySem.call f vs) := by
  refine Att.attach_callB hn hdf fun w s₀ s₁ mg mb fa o pm cd doc a vs ns G Y ho hd hcd hmg hobj hints hlen hbits hg => ?_
  obtain ⟨K, fd, sp, KX, hb, hsp, hF⟩ := F w mg fa _ Y G.T.g hmg
  exact law_call KX G.T.g G.T.b G.T.builtins G.T.nolimit hg hobj hints (Nat.le_trans hlen hn2) hr hF hb (fun H hO hS => hsp H a ns hlen hbits hO hS) fun H e s' ⟨_, _, _, _, _, _, _, _, _, _, _, _, z⟩ => z
/-- the promise that must be shown: the law's own text, n calls deep at most -/
def Goal (h : Hd) (n : Nat) : Prop := ∀ (w : World) (K : PySem.W.Frag) (H : Hp) (a : Addr) (ns : List Int), ns.length ≤ 63 → (∀ z ∈ ns, Builtin.Int.intBits z ≤ 1048576) → Only H → SqL K H a (ns.map V.int) →
  run h.pg K w n "law" [.ref a] H (fun v _ => v = .bl true) fun _ _ _ => False
theorem law_end {h : Hd} {l : PySem.W.OpenLaw} {q : Program} {loose : List Str} {XP : (Str → Option Value) → Heap → Prop} {d : DefRec} {m n : Nat} {x : Str} {di : DefI} (hn : l.most = some 63) (hdf : d.params.defaults = []) (hnm : d.name = "law") (st : h.stat = true) (bn : ∀ d ∈ h.defs, d.Bnd h)
    (hr : Room (3 * n + 1) callerA) (hf : h.pg.find "law" = some di) (hps : di.ps = [x]) (hat : di.at_ = .glo "law") (hfn : ("law" : Str) ∈ h.fns) (g : Goal h n) : PySem.W.WalkO q loose XP (h.hook m).says l.row.toRowW d [] (fun f vs => PySem.call f vs) := by
  refine walk_end (n := 63) (k := 3 * n + 1) (x := x) hn (by decide) hdf hr fun w mg fa hp Y G hmg => ?_
  obtain ⟨K, KX, c⟩ := Y
  have ok : PgOk h.pg l.prog w K mg := pgOk_of st bn KX G c
  obtain ⟨e1, _⟩ := ok.fn "law" hfn
  rw [hnm, e1] at hmg
  cases hmg
  obtain ⟨⟨fd, F, _⟩, _⟩ := ok.defs di (find_mem hf).1
  have b := FunD.bindsA (ps := di.ps) F (bn di (find_mem hf).1).all
  refine ⟨K, fd, run h.pg K w n "law", KX, fun s u => ?_, fun H a ns h1 h2 h3 h4 => g w K H a ns h1 h2 h3 h4, fun base _ _ => ?_⟩
  · have := b s [u] (by rw [hps] <;> rfl)
    rw [hps] at this
    exact this
  · obtain ⟨fd', k1, _, _, _, _, o, k2, k3⟩ := run_ok ok base n "law" di hf
    have e : fd' = fd := by
      obtain ⟨oc, od, dV, kV, doc, pm, an, cdv, ct, osl, e, lk, _⟩ := F.ex
      rw [lk] at k2
      cases k2
      simp at k3
      exact k3.symm
    rw [e, hps, hat] at k1
    exact k1
end U

namespace U
open PySem PySem.Spec PyProof.Rows L2
/-! ### the readings, part by part -/
section
variable {C : Ctx} {W : WX} {σ : St} {H : Hp} {Q : VK} {D : Ends}
theorem e_k {v : V} : (rd C (.k v) W).e σ H Q = Q v H := rfl
theorem e_v {i : Nat} : (rd C (.v i) W).e σ H Q = (match σ[i]? with
      | some (some v) => Q v H
      | _ => False) := rfl
theorem e_g {x : Str} : (rd C (.g x) W).e σ H Q = (match C.gv x with
      | some v => Q v H
      | none => False) := rfl
theorem e_bop {op : Operator} {a b : I} : (rd C (.bop op a b) W).e σ H Q = ((rd C a W).e σ H fun x H1 => (rd C b W).e σ H1 fun y H2 => rBin C.K op x y H2 Q) := rfl
theorem e_uop {op : UnaryOp} {a : I} : (rd C (.uop op a) W).e σ H Q = ((rd C a W).e σ H fun x H1 => rUn op x H1 Q) := rfl
theorem e_not {a : I} : (rd C (.not a) W).e σ H Q = ((rd C a W).e σ H fun x H1 => match x with
      | .bl c => Q (.bl (!c)) H1
      | x => ∃ k, TruV C.K x H1 k ∧ Q (.bl (!k)) H1) := rfl
theorem e_and {a b : I} : (rd C (.and a b) W).e σ H Q = ((rd C a W).e σ H fun x H1 => match x with
      | .bl c => if c = true then (rd C b W).e σ H1 Q else Q (.bl false) H1
      | _ => False) := rfl
theorem e_or {a b : I} : (rd C (.or a b) W).e σ H Q = ((rd C a W).e σ H fun x H1 => match x with
      | .bl c => if c = true then Q (.bl true) H1 else (rd C b W).e σ H1 Q
      | _ => False) := rfl
theorem e_ite {c a b : I} : (rd C (.ite c a b) W).e σ H Q = ((rd C c W).t σ H fun k H1 => if k = true then (rd C a W).e σ H1 Q else (rd C b W).e σ H1 Q) := rfl
theorem e_cmp {op : CmpOp} {a b : I} : (rd C (.cmp op a b) W).e σ H Q = ((rd C a W).e σ H fun x H1 => (rd C b W).e σ H1 fun y H2 => rCmp C.K C.w C.tabs op x y H2 Q) := rfl
theorem e_cmp2 {op op' : CmpOp} {a b c : I} : (rd C (.cmp2 op op' a b c) W).e σ H Q = ((rd C a W).e σ H fun x H1 => (rd C b W).e σ H1 fun y H2 => rCmp C.K C.w C.tabs op x y H2 fun z H3 => match z with
        | .bl k => if k = true then (rd C c W).e σ H3 fun u H4 => rCmp C.K C.w C.tabs op' y u H4 Q else Q (.bl false) H3
        | _ => False) := rfl
theorem e_lst {as : I} : (rd C (.lst as) W).e σ H Q = ((rd C as W).a σ H fun xs H1 => xs.length ≤ sizeLine ∧ ∀ p, H1 p = none → Q (.ref p) (upd H1 p (.lst xs))) := rfl
theorem e_tup {as : I} : (rd C (.tup as) W).e σ H Q = ((rd C as W).a σ H fun xs H1 => xs.length ≤ sizeLine ∧ ∀ p, H1 p = none → Q (.ref p) (upd H1 p (.tup xs))) := rfl
theorem e_dic {ps : I} : (rd C (.dic ps) W).e σ H Q = (match (rd C ps W).p with
      | [] => ∀ p, H p = none → Q (.ref p) (upd H p (.dK []))
      | trs => tDisp trs σ H Q) := rfl
theorem e_call {f : Str} {as : I} : (rd C (.call f as) W).e σ H Q = ((rd C as W).a σ H fun vs H1 => C.fn f vs H1 Q fun cls d H' => W cls d σ H') := rfl
theorem e_mk {c : Str} {as : I} : (rd C (.mk c as) W).e σ H Q = ((rd C as W).a σ H fun vs H1 => ∀ x dx, H1 x = none → H1 dx = none → dx ≠ x →
      ∃ key, C.mth c "__init__" = some key ∧ C.fn key (.ref x :: vs) (upd (upd H1 dx (.own x)) x (.ins (He.ga C.K c) dx [])) (fun v H2 => v = .non ∧ Q (.ref x) H2) fun cls d H' => W cls d σ H') := rfl
theorem e_bi {f : B} {as : I} : (rd C (.bi f as) W).e σ H Q = ((rd C as W).a σ H fun vs H1 => rB C.K f vs H1 Q) := rfl
theorem e_isi {a : I} {cs : List CR} : (rd C (.isi a cs false) W).e σ H Q = ((rd C a W).e σ H fun x H1 => Isi C H1 x cs Q) := rfl
theorem e_meth {o as : I} {m : Str} : (rd C (.meth o m as) W).e σ H Q = ((rd C o W).e σ H fun x H1 => match x with
      | .ref a => ∃ cn dx fs key, H1 a = some (.ins (He.ga C.K cn) dx fs) ∧ C.mth cn m = some key ∧ fs.lookup m = none ∧
          (rd C as W).a σ H1 fun vs H2 => C.fn key (.ref a :: vs) H2 Q fun cls d H' => W cls d σ H'
      | _ => False) := rfl
theorem e_bm {m : M} {o as : I} : (rd C (.bm m o as) W).e σ H Q = ((rd C o W).e σ H fun x H1 => tyV C.K m.T x H1 ∧ (rd C as W).a σ H1 fun vs H2 => rM C.K m x vs H2 Q) := rfl
theorem e_icall {o as zs : I} {ks : List Str} : (rd C (.icall o as ks zs) W).e σ H Q = ((rd C o W).e σ H fun x H1 => match x with
      | .ref a => ∃ cn, (∃ dx fs, H1 a = some (.ins (He.ga C.K cn) dx fs)) ∧ (rd C as W).a σ H1 fun vs H2 => (rd C zs W).a σ H2 fun us H3 => ∃ dx fs key, H3 a = some (.ins (He.ga C.K cn) dx fs) ∧ C.mth cn "__call__" = some key ∧
          kwRun C key ks (.ref a :: vs) us H3 Q (fun cls d H' => W cls d σ H')
      | _ => False) := rfl
theorem e_ostr {a : I} : (rd C (.ostr a) W).e σ H Q = ((rd C a W).e σ H fun x H1 => match x with
      | .ref a => ∃ cn dx fs key, H1 a = some (.ins (He.ga C.K cn) dx fs) ∧ C.mth cn "__str__" = some key ∧ C.fn key [.ref a] H1 (fun v H2 => match v with | .str z => Q (.str z) H2 | _ => False) fun _ _ _ => False
      | _ => False) := rfl
theorem e_att {o : I} {f : Str} : (rd C (.att o f) W).e σ H Q = ((rd C o W).e σ H fun x H1 => rAtt C f (fun cls d H' => W cls d σ H') x H1 Q) := rfl
theorem e_ix {o i : I} : (rd C (.ix o i) W).e σ H Q = ((rd C o W).e σ H fun x H1 => (rd C i W).e σ H1 fun y H2 => rIxU C.K C.w C.tabs x y H2 Q) := rfl
theorem e_sl {o lo hi : I} : (rd C (.sl o lo hi) W).e σ H Q = ((rd C o W).e σ H fun x H1 => (rd C lo W).o σ H1 fun l H2 => (rd C hi W).o σ H2 fun h H3 => rSlU C.K x l h H3 Q) := rfl
theorem e_lc {own : List (Str × Nat)} {elt tg it cond : I} {b : Bool} : (rd C (.lc own elt tg it b cond) W).e σ H Q = ((rd C it W).i σ H fun ok items H1 => ∀ Dl, H1 Dl = none →
      lcGo ok (rd C tg noW).g (rd C tg noW).gs (lcIf b (rd C cond noW).t) (rd C elt noW).e Dl (own.map (·.2)) σ Q items (upd H1 Dl (.lst []))) := rfl
variable {T : Bool → Hp → Prop}
/-- a value's truth, and what follows -/
def trQ (K : PySem.W.Frag) (T : Bool → Hp → Prop) : VK := fun x H' => match x with
      | .bl b => T b H'
      | x => ∃ b, TruV K x H' b ∧ T b H'
def blQ (T : Bool → Hp → Prop) : VK := fun x H' => match x with
      | .bl b => T b H'
      | _ => False
theorem trQ_bl {K : PySem.W.Frag} {b : Bool} : trQ K T (.bl b) H = T b H := rfl
theorem blQ_bl {b : Bool} : blQ T (.bl b) H = T b H := rfl
theorem t_v {i : Nat} : (rd C (.v i) W).t σ H T = (rd C (.v i) W).e σ H (trQ C.K T) := rfl
theorem t_isi {a : I} {cs : List CR} {m : Bool} : (rd C (.isi a cs m) W).t σ H T = (rd C (.isi a cs m) W).e σ H (trQ C.K T) := rfl
theorem t_call {f : Str} {as : I} : (rd C (.call f as) W).t σ H T = (rd C (.call f as) W).e σ H (trQ C.K T) := rfl
theorem t_meth {o as : I} {m : Str} : (rd C (.meth o m as) W).t σ H T = (rd C (.meth o m as) W).e σ H (trQ C.K T) := rfl
theorem t_bop {op : Operator} {a b : I} : (rd C (.bop op a b) W).t σ H T = (rd C (.bop op a b) W).e σ H (trQ C.K T) := rfl
theorem t_bi {f : B} {as : I} : (rd C (.bi f as) W).t σ H T = (rd C (.bi f as) W).e σ H (trQ C.K T) := rfl
theorem t_att {o : I} {f : Str} : (rd C (.att o f) W).t σ H T = (rd C (.att o f) W).e σ H (trQ C.K T) := rfl
theorem t_not {a : I} : (rd C (.not a) W).t σ H T = ((rd C a W).t σ H fun c H1 => T (!c) H1) := rfl
theorem t_and {a b : I} : (rd C (.and a b) W).t σ H T = ((rd C a W).t σ H fun c H1 => if c = true then (rd C b W).t σ H1 T else T false H1) := rfl
theorem t_or {a b : I} : (rd C (.or a b) W).t σ H T = ((rd C a W).t σ H fun c H1 => if c = true then T true H1 else (rd C b W).t σ H1 T) := rfl
theorem t_cmp {op : CmpOp} {a b : I} : (rd C (.cmp op a b) W).t σ H T = ((rd C a W).e σ H fun x H1 => (rd C b W).e σ H1 fun y H2 => rCmp C.K C.w C.tabs op x y H2 (blQ T)) := rfl
theorem t_cmp2 {op op' : CmpOp} {a b c : I} : (rd C (.cmp2 op op' a b c) W).t σ H T = (rd C (.cmp2 op op' a b c) W).e σ H (blQ T) := rfl
variable {A : List V → Hp → Prop}
theorem a_nil' : (rd C .nil W).a σ H A = A [] H := rfl
theorem a_cons {a b : I} : (rd C (.cons a b) W).a σ H A = ((rd C a W).e σ H fun x H1 => (rd C b W).a σ H1 fun xs H2 => A (x :: xs) H2) := rfl
theorem s_nil : (rd C .nil W).s D σ H = D.nx σ H := rfl
theorem s_cons {a b : I} : (rd C (.cons a b) W).s D σ H = (rd C a W).s { D with nx := (rd C b W).s D } σ H := rfl
theorem s_set {g e : I} : (rd C (.set g e) W).s D σ H = ((rd C e W).e σ H fun x H1 => (rd C g W).g x σ H1 D.nx) := rfl
theorem s_setLc {i : Nat} {e : I} : (rd C (.setLc i e) W).s D σ H = ((rd C e W).e σ H fun x H1 => D.nx (σ.set i (some x)) H1) := rfl
theorem s_par {i j : Nat} {as : I} : (rd C (.par i j as) W).s D σ H = ((rd C as W).a σ H fun vs H1 => ∃ v w, vs = [v, w] ∧ D.nx ((σ.set i (some v)).set j (some w)) H1) := rfl
theorem s_expr {e : I} : (rd C (.expr e) W).s D σ H = ((rd C e W).e σ H fun _ H1 => D.nx σ H1) := rfl
theorem s_ret {e : I} : (rd C (.ret e) W).s D σ H = (rd C e W).e σ H D.rt := rfl
theorem s_retN : (rd C .retN W).s D σ H = D.rt .non H := rfl
theorem s_if {c a b : I} : (rd C (.if_ c a b) W).s D σ H = ((rd C c W).t σ H fun k H1 => if k = true then (rd C a W).s D σ H1 else (rd C b W).s D σ H1) := rfl
theorem s_for {tg it b : I} : (rd C (.for_ tg it b) W).s D σ H = ((rd C it W).i σ H fun ok items H1 => forGo ok (rd C tg W).g (rd C tg W).gs (rd C b W).s D items σ H1) := rfl
theorem s_never : (rd C .never W).s D σ H = False := rfl
theorem s_pass : (rd C .pass W).s D σ H = D.nx σ H := rfl
theorem s_brk : (rd C .brk W).s D σ H = D.bk σ H := rfl
theorem s_cont : (rd C .cont W).s D σ H = D.ct σ H := rfl
variable {N : St → Hp → Prop} {v : V} {vs : List V}
theorem g_v' {i : Nat} : (rd C (.v i) W).g v σ H N = N (σ.set i (some v)) H := rfl
theorem g_tup {gs : I} : (rd C (.tupG gs) W).g v σ H N = (match v with
      | .ref a => ∃ xs, SqT C.K H a xs ∧ xs.length = gs.len ∧ (rd C gs W).gs xs σ H N
      | _ => False) := rfl
theorem g_sub {o i : I} : (rd C (.subG o i) W).g v σ H N = ((rd C o W).e σ H fun x H1 => (rd C i W).e σ H1 fun y H2 => rSetU x y v H2 fun H3 => N σ H3) := rfl
theorem g_att {o : I} {f : Str} : (rd C (.attG o f) W).g v σ H N = ((rd C o W).e σ H fun x H1 => match x with
      | .ref a => ∃ cn dx fs, H1 a = some (.ins (He.ga C.K cn) dx fs) ∧ C.fld cn f = true ∧ fs.length < 1000 ∧ N σ (upd H1 a (.ins (He.ga C.K cn) dx (putF f v fs)))
      | _ => False) := rfl
theorem gs_nil : (rd C .nil W).gs vs σ H N = (vs = [] ∧ N σ H) := rfl
theorem gs_cons {a b : I} : (rd C (.cons a b) W).gs vs σ H N = (match vs with
        | v :: r => (rd C a W).g v σ H fun σ' H' => (rd C b W).gs r σ' H' N
        | [] => False) := rfl
theorem gs_tup {gs : I} : (rd C (.tupG gs) W).gs vs σ H N = (vs.length = gs.len ∧ (rd C gs W).gs vs σ H N) := rfl
variable {R : (Hp → Prop) → List It1 → Hp → Prop}
theorem i_L {e : I} : (rd C (.itL e) W).i σ H R = ((rd C e W).e σ H fun x H1 => match x with
      | .ref a => ∃ xs, SqL C.K H1 a xs ∧ R (fun H' => SqL C.K H' a xs) (xs.map .v) H1
      | _ => False) := rfl
theorem i_T {e : I} : (rd C (.itT e) W).i σ H R = ((rd C e W).e σ H fun x H1 => match x with
      | .ref a => ∃ xs, SqT C.K H1 a xs ∧ R (fun H' => SqT C.K H' a xs) (xs.map .v) H1
      | _ => False) := rfl
theorem i_S {e : I} : (rd C (.itS e) W).i σ H R = ((rd C e W).e σ H fun x H1 => match x with
      | .str z => R (fun _ => True) (z.cps.toList.map fun c => .v (.str (S [c]))) H1
      | _ => False) := rfl
theorem i_R1 {a : I} : (rd C (.itR1 a) W).i σ H R = ((rd C a W).e σ H fun x H1 => match x with
      | .int j => -(2 ^ 62) ≤ j ∧ j < 2 ^ 62 ∧ R (fun _ => True) ((List.range j.toNat).map fun i => .v (.int (i : Nat))) H1
      | _ => False) := rfl
theorem i_ES {e : I} : (rd C (.itES e) W).i σ H R = ((rd C e W).e σ H fun x H1 => match x with
      | .str z => R (fun _ => True) (z.cps.toList.zipIdx.map fun p => .t [.int (p.2 : Nat), .str (S [p.1])]) H1
      | _ => False) := rfl
theorem i_E {e : I} : (rd C (.itE e) W).i σ H R = ((rd C e W).e σ H fun x H1 => match x with
      | .ref a => ∃ xs, SqL C.K H1 a xs ∧ R (fun H' => SqL C.K H' a xs) (xs.zipIdx.map fun p => .t [.int (p.2 : Nat), p.1]) H1
      | _ => False) := rfl
theorem i_Z {a b : I} : (rd C (.itZ a b) W).i σ H R = ((rd C a W).e σ H fun x H1 => (rd C b W).e σ H1 fun y H2 => match x, y with
      | .ref p, .ref q => ∃ xs ys, SqL C.K H2 p xs ∧ SqL C.K H2 q ys ∧ R (fun H' => SqL C.K H' p xs ∧ SqL C.K H' q ys) ((xs.zip ys).map fun z => .t [z.1, z.2]) H2
      | _, _ => False) := rfl
theorem p_nil : (rd C .nil W).p = [] := rfl
theorem p_pair {k v r : I} : (rd C (.pair k v r) W).p = ((rd C k W).e, (rd C v W).e) :: (rd C r W).p := rfl
variable {O : Option Int → Hp → Prop}
theorem o_nil : (rd C .nil W).o σ H O = O none H := rfl
theorem o_k {i : Int} : (rd C (.k (.int i)) W).o σ H O = O (some i) H := rfl
/-! walks -/
variable {ok : Hp → Prop} {g : TG} {gs : TGs} {tb : TS} {x : V} {xs : List V} {r : List It1}
theorem for_nil : forGo ok g gs tb D [] σ H = (ok H ∧ D.nx σ H) := rfl
theorem for_v : forGo ok g gs tb D (.v x :: r) σ H = (ok H ∧ g x σ H fun σ2 H2 => tb { D with nx := forGo ok g gs tb D r, ct := forGo ok g gs tb D r, bk := D.nx } σ2 H2) := rfl
theorem for_t : forGo ok g gs tb D (.t xs :: r) σ H = (ok H ∧ ∀ T, H T = none → gs xs σ (upd H T (.tup xs)) fun σ2 H2 => tb { D with nx := forGo ok g gs tb D r, ct := forGo ok g gs tb D r, bk := D.nx } σ2 H2) := rfl
variable {tt : TT} {te : TE} {Dl : Addr} {own : List Nat}
theorem lc_nil : lcGo ok g gs tt te Dl own σ Q [] H = (ok H ∧ Q (.ref Dl) H) := rfl
theorem lc_v : lcGo ok g gs tt te Dl own σ Q (.v x :: r) H = (ok H ∧ g x (wipe σ own) H (lcTurn tt te Dl own σ (lcGo ok g gs tt te Dl own σ Q r))) := rfl
theorem lc_t : lcGo ok g gs tt te Dl own σ Q (.t xs :: r) H = (ok H ∧ ∀ T, H T = none → gs xs (wipe σ own) (upd H T (.tup xs)) (lcTurn tt te Dl own σ (lcGo ok g gs tt te Dl own σ Q r))) := rfl
variable {nx : Hp → Prop} {σ2 : St}
theorem lc_turn0 : lcTurn (lcIf false tt) te Dl own σ nx σ2 H = (wipe σ2 own = wipe σ own ∧ te σ2 H fun y H4 => ∃ acc, H4 Dl = some (.lst acc) ∧ acc.length < sizeLine ∧ nx (upd H4 Dl (.lst (acc ++ [y])))) := by
  unfold lcTurn lcIf
  simp
theorem lc_turn1 : lcTurn (lcIf true tt) te Dl own σ nx σ2 H = (wipe σ2 own = wipe σ own ∧ tt σ2 H fun b H3 => if b = true then te σ2 H3 fun y H4 => ∃ acc, H4 Dl = some (.lst acc) ∧ acc.length < sizeLine ∧ nx (upd H4 Dl (.lst (acc ++ [y]))) else nx H3) := rfl
theorem wipe_nil : wipe σ [] = σ := rfl
theorem wipe_cons {i : Nat} : wipe σ (i :: own) = (wipe σ own).set i none := rfl
end
/-! ### heaps that only grow -/
def Ext (H H' : Hp) : Prop := ∀ a o, H a = some o → H' a = some o
theorem Ext.refl {H : Hp} : Ext H H := fun _ _ h => h
theorem Ext.trans {H H' H'' : Hp} (a : Ext H H') (b : Ext H' H'') : Ext H H'' := fun x o h => b x o (a x o h)
theorem Ext.new {H : Hp} {p : Addr} {o : HO} (h : H p = none) : Ext H (upd H p o) := fun a o' e => by
  rw [upd_ne (ne_of_none e h)]
  exact e
theorem Ext.get {H H' : Hp} {a : Addr} {o : HO} (x : Ext H H') (h : H a = some o) : H' a = some o := x a o h
/-- what is new stays new -/
theorem Ext.put {H H' : Hp} {p : Addr} {o : HO} (x : Ext H H') (h : H p = none) : Ext H (upd H' p o) := fun a o' e => by
  rw [upd_ne (ne_of_none e h)]
  exact x a o' e
theorem none_of {H H' : Hp} {p : Addr} (x : Ext H H') (h : H' p = none) : H p = none := by
  cases e : H p with
  | none => rfl
  | some o => rw [x p o e] at h; cases h
theorem upd_get {H : Hp} {a p : Addr} {o u : HO} (h : H a = some o) (hp : H p = none) : upd H p u a = some o := by
  rw [upd_ne (ne_of_none h hp)]
  exact h
/-! ### one call -/
theorem run_at {p : Pg} {K : PySem.W.Frag} {w : World} {n : Nat} {key : Str} {d : DefI} (h : p.find key = some d) (hn : 1 ≤ n) {vs : List V} {H : Hp} {Q : VK} {E : XK} (hl : vs.length = d.ps.length)
    (hb : (rd (p.ctx K w (run p K w (n - 1))) d.body fun cls dd _ H' => E cls dd H').s { nx := fun _ H' => Q .non H', rt := Q } (start d.N vs) H) : run p K w n key vs H Q E := by
  obtain ⟨m, rfl⟩ : ∃ m, n = m + 1 := ⟨n - 1, by omega⟩
  exact run_of h hl hb
section
variable {p : Pg} {K : PySem.W.Frag} {w : World} {fn : Str → Sp}
theorem x_K : (p.ctx K w fn).K = K := rfl
theorem x_w : (p.ctx K w fn).w = w := rfl
theorem x_fn : (p.ctx K w fn).fn = fn := rfl
theorem x_gv : (p.ctx K w fn).gv = p.gv K := rfl
theorem x_tabs : (p.ctx K w fn).tabs = p.tabs := rfl
theorem x_mth : (p.ctx K w fn).mth = p.mth := rfl
theorem x_prp : (p.ctx K w fn).prp = p.prp := rfl
theorem x_fld : (p.ctx K w fn).fld = p.fld := rfl
theorem x_isi : (p.ctx K w fn).isi = p.isi := rfl
theorem x_kwo : (p.ctx K w fn).kwo = p.kwo := rfl
variable {H : Hp} {Q : VK} {cs : List CR}
theorem isi_int {C : Ctx} {i : Int} : Isi C H (.int i) cs Q = Q (.bl (cs.any (isiT "int"))) H := rfl
theorem isi_str {C : Ctx} {i : Str} : Isi C H (.str i) cs Q = Q (.bl (cs.any (isiT "str"))) H := rfl
theorem isi_bl {C : Ctx} {i : Bool} : Isi C H (.bl i) cs Q = Q (.bl (cs.any (isiT "bool"))) H := rfl
theorem isi_non {C : Ctx} : Isi C H .non cs Q = Q (.bl (cs.any (isiT "NoneType"))) H := rfl
theorem isi_ins {C : Ctx} {a dx : Addr} {cn : Str} {fs : List (Str × V)} {bs : List Bool} (h : H a = some (.ins (He.ga C.K cn) dx fs)) (hb : cs.map (C.isi cn) = bs.map some) (q : Q (.bl (bs.any id)) H) : Isi C H (.ref a) cs Q :=
  .inl ⟨cn, dx, fs, h, bs, hb, q⟩
end
theorem isi_own {C : Ctx} {a dx : Addr} {cn : Str} {fs : List (Str × V)} {c : CR} {b : Bool} {H : Hp} {Q : VK} (h : H a = some (.ins (He.ga C.K cn) dx fs)) (hb : C.isi cn c = some b) (q : Q (.bl b) H) : Isi C H (.ref a) [c] Q :=
  .inl ⟨cn, dx, fs, h, [b], by rw [List.map_cons, List.map_nil, hb]; rfl, by simpa using q⟩
theorem ii1 : [CR.ty "int"].any (isiT "int") = true := by decide +kernel
theorem ii2 : [CR.ty "bool"].any (isiT "int") = false := by decide +kernel
theorem ii3 : [CR.ty "str"].any (isiT "str") = true := by decide +kernel
theorem ii4 {x : Str} {t : String} : [CR.own x].any (isiT t) = false := rfl
theorem ii5 : [CR.ty "str"].any (isiT "int") = false := by decide +kernel
theorem ii6 : [CR.ty "int"].any (isiT "str") = false := by decide +kernel
theorem ii7 : [CR.ty "bool"].any (isiT "str") = false := by decide +kernel
section
variable {K : PySem.W.Frag} {w : World} {T : List KTab} {H : Hp} {Q : VK} {i j : Int}
theorem r_add : rBin K .Add (.int i) (.int j) H Q = Q (.int (i + j)) H := rfl
theorem r_sub : rBin K .Sub (.int i) (.int j) H Q = Q (.int (i - j)) H := rfl
theorem r_mul : rBin K .Mult (.int i) (.int j) H Q = ((CMul i j ∨ CMulW i j) ∧ Q (.int (i * j)) H) := rfl
theorem r_div : rBin K .FloorDiv (.int i) (.int j) H Q = (CDivU i j ∧ Q (.int (i / j)) H) := rfl
theorem r_mod : rBin K .Mod (.int i) (.int j) H Q = (0 < j ∧ Q (.int (i % j)) H) := rfl
theorem r_pow : rBin K .Pow (.int i) (.int j) H Q = (CPow i j ∧ Q (.int (i ^ j.toNat)) H) := rfl
theorem r_shl : rBin K .LShift (.int i) (.int j) H Q = (CPow i j ∧ Q (.int (i * 2 ^ j.toNat)) H) := rfl
theorem r_shr : rBin K .RShift (.int i) (.int j) H Q = (0 ≤ j ∧ Q (.int (i / 2 ^ j.toNat)) H) := rfl
theorem r_and : rBin K .BitAnd (.int i) (.int j) H Q = Q (.int (Builtin.bitAnd i j)) H := rfl
theorem r_or : rBin K .BitOr (.int i) (.int j) H Q = Q (.int (Builtin.bitOr i j)) H := rfl
theorem r_xor : rBin K .BitXor (.int i) (.int j) H Q = Q (.int (Builtin.bitXor i j)) H := rfl
theorem r_neg : rUn .USub (.int i) H Q = Q (.int (-i)) H := rfl
theorem r_inv : rUn .Invert (.int i) H Q = Q (.int (Builtin.bitNot i)) H := rfl
theorem r_lt : rCmp K w T .Lt (.int i) (.int j) H Q = Q (.bl (decide (i < j))) H := rfl
theorem r_le : rCmp K w T .LtE (.int i) (.int j) H Q = Q (.bl (decide (i ≤ j))) H := rfl
theorem r_gt : rCmp K w T .Gt (.int i) (.int j) H Q = Q (.bl (decide (j < i))) H := rfl
theorem r_ge : rCmp K w T .GtE (.int i) (.int j) H Q = Q (.bl (decide (j ≤ i))) H := rfl
theorem r_eqI : rCmp K w T .Eq (.int i) (.int j) H Q = Q (.bl (i == j)) H := rfl
theorem r_neI : rCmp K w T .NotEq (.int i) (.int j) H Q = Q (.bl (!(i == j))) H := rfl
theorem r_eqS {a b : Str} : rCmp K w T .Eq (.str a) (.str b) H Q = Q (.bl (a == b)) H := rfl
theorem r_neS {a b : Str} : rCmp K w T .NotEq (.str a) (.str b) H Q = Q (.bl (!(a == b))) H := rfl
theorem r_inS {a b : Str} : rCmp K w T .In (.str a) (.str b) H Q = Q (.bl (false.xor (inS a b))) H := rfl
theorem r_niS {a b : Str} : rCmp K w T .NotIn (.str a) (.str b) H Q = Q (.bl (true.xor (inS a b))) H := rfl
theorem r_inK {z : Str} {a : Addr} {t : KTab} (ht : t ∈ T) (ha : a = t.at_ K) (q : Q (.bl (t.kvs.lookup z).isSome) H) : rCmp K w T .In (.str z) (.ref a) H Q :=
  Or.inr (Or.inr (Or.inl ⟨z, _, rfl, ⟨t, ht, ha, rfl⟩, by simpa using q⟩))
theorem r_niK {z : Str} {a : Addr} {t : KTab} (ht : t ∈ T) (ha : a = t.at_ K) (q : Q (.bl (!(t.kvs.lookup z).isSome)) H) : rCmp K w T .NotIn (.str z) (.ref a) H Q :=
  Or.inr (Or.inr (Or.inl ⟨z, _, rfl, ⟨t, ht, ha, rfl⟩, by simpa using q⟩))
theorem x_ixK {z : Str} {a : Addr} {t : KTab} {v : V} (ht : t ∈ T) (ha : a = t.at_ K) (hv : t.kvs.lookup z = some v) (q : Q v H) : rIxU K w T (.ref a) (.str z) H Q :=
  Or.inr ⟨v, ⟨t, ht, ha, hv.symm⟩, q⟩
theorem x_ixT {a : Addr} {xs : List V} {v : V} (h : H a = some (.tup xs)) (hv : atI xs i = some v) (q : Q v H) : rIxU K w T (.ref a) (.int i) H Q :=
  Or.inr (Or.inl ⟨xs, .inl (.inl h), v, hv, q⟩)
theorem x_ixL {a : Addr} {xs : List V} {v : V} (h : SqL K H a xs) (hv : atI xs i = some v) (q : Q v H) : rIxU K w T (.ref a) (.int i) H Q :=
  Or.inl ⟨xs, h, v, hv, q⟩
theorem x_ixD {a : Addr} {kvs : List (Key × V)} {z : Str} {v : V} (h : H a = some (.dK kvs)) (hv : valV kvs (.inr z) = some v) (q : Q v H) : rIxU K w T (.ref a) (.str z) H Q :=
  Or.inl ⟨kvs, .inl h, v, hv, q⟩
end
/-! ### attributes -/
theorem x_fldv {p : Pg} {K : PySem.W.Frag} {w : World} {fn : Str → Sp} {f : Str} {E : XK} {a dx : Addr} {cn : Str} {fs : List (Str × V)} {v : V} {H : Hp} {Q : VK} (h : H a = some (.ins (He.ga K cn) dx fs)) (hf : p.fld cn f = true) (hv : fs.lookup f = some v) (q : Q v H) :
    rAtt (p.ctx K w fn) f E (.ref a) H Q := ⟨cn, dx, fs, h, .inl ⟨hf, v, hv, q⟩⟩
theorem x_prpv {p : Pg} {K : PySem.W.Frag} {w : World} {fn : Str → Sp} {f key : Str} {E : XK} {a dx : Addr} {cn : Str} {fs : List (Str × V)} {H : Hp} {Q : VK} (h : H a = some (.ins (He.ga K cn) dx fs)) (hf : p.prp cn f = some key) (q : fn key [.ref a] H Q fun _ _ _ => False) :
    rAtt (p.ctx K w fn) f E (.ref a) H Q := ⟨cn, dx, fs, h, .inr ⟨key, hf, q⟩⟩
end U

namespace U
open PySem PySem.Spec PyProof.Rows L2
section
variable {K : PySem.W.Frag} {w : World} {T : List KTab} {H : Hp} {Q : VK}
theorem cps_S {l : List Nat} : (S l).cps.toList = l := rfl
theorem trQ_int {i : Int} {B : Bool → Hp → Prop} (h : B (i != 0) H) : trQ K B (.int i) H := ⟨_, rfl, h⟩
theorem r_inL {x : V} {p : Addr} {xs : List V} (h : SqL K H p xs ∨ SqT K H p xs) (hx : flatV x = true) (hs : xs.all flatV = true) (q : Q (.bl (inV x xs)) H) : rCmp K w T .In x (.ref p) H Q := by
  have : rIn K false x (.ref p) H Q := ⟨p, xs, rfl, h, hx, hs, by simpa using q⟩
  cases x <;> exact Or.inl this
theorem r_niL {x : V} {p : Addr} {xs : List V} (h : SqL K H p xs ∨ SqT K H p xs) (hx : flatV x = true) (hs : xs.all flatV = true) (q : Q (.bl (!inV x xs)) H) : rCmp K w T .NotIn x (.ref p) H Q := by
  have : rIn K true x (.ref p) H Q := ⟨p, xs, rfl, h, hx, hs, by simpa using q⟩
  cases x <;> exact Or.inl this
theorem r_inD {z : Str} {p : Addr} {kvs : List (Key × V)} (h : H p = some (.dK kvs)) (q : Q (.bl (valV kvs (.inr z)).isSome) H) : rCmp K w T .In (.str z) (.ref p) H Q :=
  Or.inr (Or.inl ⟨kvs, .inr z, .inl h, rfl, by simpa using q⟩)
theorem r_niD {z : Str} {p : Addr} {kvs : List (Key × V)} (h : H p = some (.dK kvs)) (q : Q (.bl (!(valV kvs (.inr z)).isSome)) H) : rCmp K w T .NotIn (.str z) (.ref p) H Q :=
  Or.inr (Or.inl ⟨kvs, .inr z, .inl h, rfl, by simpa using q⟩)
/-- comparison of lists and tuples by what they hold -/
theorem r_eqD {x y : V} {d e : PyData} (hs : scal x y = false) (h1 : Dp K H x d) (h2 : Dp K H y e) (s1 : SeqAt.shaped d = true) (s2 : SeqAt.shaped e = true) (q : Q (.bl (PyData.eqv d e)) H) : rCmp K w T .Eq x y H Q := by
  show rEqU K x y H Q
  unfold rEqU
  rw [hs]
  exact ⟨d, e, h1, h2, s1, s2, q⟩
theorem r_neD {x y : V} {d e : PyData} (hs : scal x y = false) (h1 : Dp K H x d) (h2 : Dp K H y e) (s1 : SeqAt.shaped d = true) (s2 : SeqAt.shaped e = true) (q : Q (.bl (!PyData.eqv d e)) H) : rCmp K w T .NotEq x y H Q := by
  show rNeU K x y H Q
  unfold rNeU
  rw [hs]
  exact ⟨d, e, h1, h2, s1, s2, q⟩
theorem x_slL {a : Addr} {xs : List V} {lo hi : Option Int} (h : SqL K H a xs) (q : ∀ p, H p = none → Q (.ref p) (upd H p (.lst (cutV xs lo hi)))) : rSlU K (.ref a) lo hi H Q := Or.inl ⟨a, xs, rfl, h, q⟩
end
section
variable {ok : Hp → Prop} {g : TG} {gs : TGs} {tt : TT} {te : TE} {Dl : Addr} {own : List Nat} {σ : St} {Q : VK} {H : Hp}
/-- one turn of a comprehension -/
def lcOne (g : TG) (gs : TGs) (tt : TT) (te : TE) (Dl : Addr) (own : List Nat) (σ : St) (nx : Hp → Prop) (H : Hp) : It1 → Prop
  | .v x => g x (wipe σ own) H (lcTurn tt te Dl own σ nx)
  | .t xs => ∀ T, H T = none → gs xs (wipe σ own) (upd H T (.tup xs)) (lcTurn tt te Dl own σ nx)
/-- a comprehension: f what each item gives (none: left out) -/
theorem lcs_inv {f : It1 → Option V} (hok : ∀ H', Ext H H' → ok H') : ∀ (items : List It1) (acc : List V) (H' : Hp), Ext H H' → H' Dl = some (.lst acc) →
    (∀ x ∈ items, ∀ (H' : Hp) (acc : List V) (nx : Hp → Prop), Ext H H' → H' Dl = some (.lst acc) → acc.length < sizeLine → (∀ H'', Ext H H'' → H'' Dl = some (.lst (acc ++ (f x).toList)) → nx H'') → lcOne g gs tt te Dl own σ nx H' x) →
    acc.length + items.length ≤ sizeLine → (∀ H', Ext H H' → H' Dl = some (.lst (acc ++ items.filterMap f)) → Q (.ref Dl) H') → lcGo ok g gs tt te Dl own σ Q items H'
  | [], acc, H', x, e, _, _, q => ⟨hok H' x, q H' x (by rw [e]; simp)⟩
  | i :: r, acc, H', x, e, st, hl, q => by
    rw [List.length_cons] at hl
    have one := st i (List.mem_cons_self ..) H' acc (lcGo ok g gs tt te Dl own σ Q r) x e (by omega) fun H'' x' e' => by
      refine lcs_inv hok r _ H'' x' e' (fun y hy => st y (List.mem_cons_of_mem _ hy)) ?_ fun H3 x3 e3 => q H3 x3 ?_
      · have : (f i).toList.length ≤ 1 := by cases f i <;> simp
        rw [List.length_append]
        omega
      · rw [e3, List.append_assoc]
        cases h : f i <;> simp [h]
    cases i with
    | v y => exact ⟨hok H' x, one⟩
    | t ys => exact ⟨hok H' x, one⟩
/-- a loop: I what holds ahead of each turn -/
theorem fors_inv {D : Ends} {tb : TS} (I : List It1 → St → Hp → Prop) (hok : ∀ l σ H, I l σ H → ok H) : ∀ (items : List It1) (σ : St) (H : Hp), I items σ H →
    (∀ x r σ H, I (x :: r) σ H → ∀ D' : Ends, (∀ σ' H', I r σ' H' → D'.nx σ' H') → (∀ σ' H', I r σ' H' → D'.ct σ' H') → D'.rt = D.rt → D'.bk = D.nx →
      match x with
      | .v y => g y σ H fun σ2 H2 => tb D' σ2 H2
      | .t ys => ∀ T, H T = none → gs ys σ (upd H T (.tup ys)) fun σ2 H2 => tb D' σ2 H2) →
    (∀ σ H, I [] σ H → D.nx σ H) → forGo ok g gs tb D items σ H
  | [], σ, H, i, _, q => ⟨hok _ _ _ i, q σ H i⟩
  | x :: r, σ, H, i, st, q => by
    have one := st x r σ H i { D with nx := forGo ok g gs tb D r, ct := forGo ok g gs tb D r, bk := D.nx } (fun σ' H' i' => fors_inv I hok r σ' H' i' st q) (fun σ' H' i' => fors_inv I hok r σ' H' i' st q) rfl rfl
    cases x with
    | v y => exact ⟨hok _ _ _ i, one⟩
    | t ys => exact ⟨hok _ _ _ i, one⟩
end
/-! ### a suite in two parts -/
def headI : Nat → I → I
  | 0, _ => .nil
  | n + 1, .cons a b => .cons a (headI n b)
  | _ + 1, i => i
def tailI : Nat → I → I
  | 0, i => i
  | n + 1, .cons _ b => tailI n b
  | _ + 1, _ => .nil
def longI : Nat → I → Bool
  | 0, _ => true
  | n + 1, .cons _ b => longI n b
  | _ + 1, _ => false
theorem s_split {C : Ctx} {W : WX} : ∀ (k : Nat) {i : I} (_ : longI k i = true) {D : Ends} {σ : St} {H : Hp}, (rd C i W).s D σ H = (rd C (headI k i) W).s { D with nx := (rd C (tailI k i) W).s D } σ H
  | 0, i, _, D, σ, H => by cases i <;> rfl
  | k + 1, .cons a b, h, D, σ, H => by
    have e : (rd C b W).s D = (rd C (headI k b) W).s { D with nx := (rd C (tailI k b) W).s D } := by
      funext σ H
      exact s_split k (i := b) h
    show (rd C a W).s { D with nx := (rd C b W).s D } σ H = (rd C a W).s { D with nx := (rd C (headI k b) W).s { D with nx := (rd C (tailI k b) W).s D } } σ H
    rw [e]
theorem Ext.upd_of {H H' : Hp} {p : Addr} {o : HO} (x : Ext H H') (h : H' p = none) : Ext H (upd H' p o) := x.trans (Ext.new h)
end U

namespace U
open PySem PySem.Spec PyProof.Rows L2
/-! names -/
abbrev s__law_pen : Str := S [95, 108, 97, 119, 95, 112, 101, 110]
abbrev s__law_clause : Str := S [95, 108, 97, 119, 95, 99, 108, 97, 117, 115, 101]
abbrev s__law_mode : Str := S [95, 108, 97, 119, 95, 109, 111, 100, 101]
abbrev s_Clause : Str := S [67, 108, 97, 117, 115, 101]
abbrev s_Mode : Str := S [77, 111, 100, 101]
abbrev s__law_clause_done : Str := S [95, 108, 97, 119, 95, 99, 108, 97, 117, 115, 101, 95, 100, 111, 110, 101]
abbrev s_form : Str := S [102, 111, 114, 109]
abbrev s_mode : Str := S [109, 111, 100, 101]
abbrev s__law_one : Str := S [95, 108, 97, 119, 95, 111, 110, 101]
abbrev s_number : Str := S [110, 117, 109, 98, 101, 114]
abbrev s_who : Str := S [119, 104, 111]
abbrev s_sign : Str := S [115, 105, 103, 110]
abbrev s_what : Str := S [119, 104, 97, 116]
abbrev s__law_pick : Str := S [95, 108, 97, 119, 95, 112, 105, 99, 107]
abbrev s__law_draw : Str := S [95, 108, 97, 119, 95, 100, 114, 97, 119]
abbrev s_is_who : Str := S [105, 115, 95, 119, 104, 111]
abbrev s_SIGNS_changes : Str := S [83, 73, 71, 78, 83, 95, 99, 104, 97, 110, 103, 101, 115]
abbrev s_is_what : Str := S [105, 115, 95, 119, 104, 97, 116]
abbrev s_own_parts : Str := S [111, 119, 110, 95, 112, 97, 114, 116, 115]
abbrev s_CLASSES : Str := S [67, 76, 65, 83, 83, 69, 83]
abbrev s_own_bits : Str := S [111, 119, 110, 95, 98, 105, 116, 115]
abbrev s_letter : Str := S [108, 101, 116, 116, 101, 114]
abbrev s_BITS : Str := S [66, 73, 84, 83]
abbrev s_is_integer : Str := S [105, 115, 95, 105, 110, 116, 101, 103, 101, 114]
abbrev s_GREATEST : Str := S [71, 82, 69, 65, 84, 69, 83, 84]
abbrev s_bits : Str := S [98, 105, 116, 115]
abbrev s_number_of : Str := S [110, 117, 109, 98, 101, 114, 95, 111, 102]
abbrev s_with_pattern : Str := S [119, 105, 116, 104, 95, 112, 97, 116, 116, 101, 114, 110]
abbrev s_moved : Str := S [109, 111, 118, 101, 100]
abbrev s_pattern : Str := S [112, 97, 116, 116, 101, 114, 110]
abbrev s_SIGNS_modes : Str := S [83, 73, 71, 78, 83, 95, 109, 111, 100, 101, 115]
abbrev s_at : Str := S [97, 116]
abbrev s_is_some : Str := S [105, 115, 95, 115, 111, 109, 101]
abbrev s_LETTERS : Str := S [76, 69, 84, 84, 69, 82, 83]
abbrev s_takes : Str := S [116, 97, 107, 101, 115]
abbrev s_place_of : Str := S [112, 108, 97, 99, 101, 95, 111, 102]
abbrev s_pattern_bits : Str := S [112, 97, 116, 116, 101, 114, 110, 95, 98, 105, 116, 115]
abbrev s_low : Str := S [108, 111, 119]
abbrev s_high : Str := S [104, 105, 103, 104]
abbrev s_PLACES : Str := S [80, 76, 65, 67, 69, 83]
abbrev s_law : Str := S [108, 97, 119]
abbrev s__law_script : Str := S [95, 108, 97, 119, 95, 115, 99, 114, 105, 112, 116]
abbrev s__law_pen_here : Str := S [95, 108, 97, 119, 95, 112, 101, 110, 95, 104, 101, 114, 101]
abbrev s__law_turn : Str := S [95, 108, 97, 119, 95, 116, 117, 114, 110]
abbrev s__law_told : Str := S [95, 108, 97, 119, 95, 116, 111, 108, 100]
abbrev s__law_number : Str := S [95, 108, 97, 119, 95, 110, 117, 109, 98, 101, 114]
abbrev s__law_clause_here : Str := S [95, 108, 97, 119, 95, 99, 108, 97, 117, 115, 101, 95, 104, 101, 114, 101]
abbrev s__law_mode_so : Str := S [95, 108, 97, 119, 95, 109, 111, 100, 101, 95, 115, 111]
abbrev s__law_form_so : Str := S [95, 108, 97, 119, 95, 102, 111, 114, 109, 95, 115, 111]
abbrev s__law_due : Str := S [95, 108, 97, 119, 95, 100, 117, 101]
abbrev s__law_found : Str := S [95, 108, 97, 119, 95, 102, 111, 117, 110, 100]
abbrev s__law_bare : Str := S [95, 108, 97, 119, 95, 98, 97, 114, 101]
abbrev s__law_shown : Str := S [95, 108, 97, 119, 95, 115, 104, 111, 119, 110]
abbrev s__law_who : Str := S [95, 108, 97, 119, 95, 119, 104, 111]
abbrev s__law_what : Str := S [95, 108, 97, 119, 95, 119, 104, 97, 116]
abbrev s__law_some : Str := S [95, 108, 97, 119, 95, 115, 111, 109, 101]
abbrev s_Clause___init__ : Str := S [67, 108, 97, 117, 115, 101, 46, 95, 95, 105, 110, 105, 116, 95, 95]
abbrev s_self : Str := S [115, 101, 108, 102]
abbrev s_Mode___init__ : Str := S [77, 111, 100, 101, 46, 95, 95, 105, 110, 105, 116, 95, 95]
abbrev s__law_sign : Str := S [95, 108, 97, 119, 95, 115, 105, 103, 110]
abbrev s__law_digits : Str := S [95, 108, 97, 119, 95, 100, 105, 103, 105, 116, 115]
abbrev s__law_meant : Str := S [95, 108, 97, 119, 95, 109, 101, 97, 110, 116]
abbrev s__law_later : Str := S [95, 108, 97, 119, 95, 108, 97, 116, 101, 114]
abbrev s__law_letter : Str := S [95, 108, 97, 119, 95, 108, 101, 116, 116, 101, 114]
abbrev s__law_gained : Str := S [95, 108, 97, 119, 95, 103, 97, 105, 110, 101, 100]
abbrev s_Clause_sign : Str := S [67, 108, 97, 117, 115, 101, 46, 115, 105, 103, 110]
abbrev s_Clause_what : Str := S [67, 108, 97, 117, 115, 101, 46, 119, 104, 97, 116]
abbrev s_Clause_who : Str := S [67, 108, 97, 117, 115, 101, 46, 119, 104, 111]
abbrev s_Clause___call__ : Str := S [67, 108, 97, 117, 115, 101, 46, 95, 95, 99, 97, 108, 108, 95, 95]
abbrev s_found : Str := S [102, 111, 117, 110, 100]
abbrev s_Mode___str__ : Str := S [77, 111, 100, 101, 46, 95, 95, 115, 116, 114, 95, 95]
abbrev s_Mode_number : Str := S [77, 111, 100, 101, 46, 110, 117, 109, 98, 101, 114]
abbrev s__law_many : Str := S [95, 108, 97, 119, 95, 109, 97, 110, 121]
abbrev s__law_digit : Str := S [95, 108, 97, 119, 95, 100, 105, 103, 105, 116]
abbrev s__law_at : Str := S [95, 108, 97, 119, 95, 97, 116]
abbrev s__law_cell : Str := S [95, 108, 97, 119, 95, 99, 101, 108, 108]
abbrev s__law_great : Str := S [95, 108, 97, 119, 95, 103, 114, 101, 97, 116]
abbrev s__law_mixed : Str := S [95, 108, 97, 119, 95, 109, 105, 120, 101, 100]
abbrev s_thing : Str := S [116, 104, 105, 110, 103]
abbrev s_Clause_moved : Str := S [67, 108, 97, 117, 115, 101, 46, 109, 111, 118, 101, 100]
abbrev s_is_meant : Str := S [105, 115, 95, 109, 101, 97, 110, 116]
abbrev s_Mode_pattern : Str := S [77, 111, 100, 101, 46, 112, 97, 116, 116, 101, 114, 110]
abbrev s_place : Str := S [112, 108, 97, 99, 101]
abbrev s_Mode_with_pattern : Str := S [77, 111, 100, 101, 46, 119, 105, 116, 104, 95, 112, 97, 116, 116, 101, 114, 110]
abbrev s_rest : Str := S [114, 101, 115, 116]
abbrev s_letters : Str := S [108, 101, 116, 116, 101, 114, 115]
abbrev s_places : Str := S [112, 108, 97, 99, 101, 115]
abbrev s_Clause_takes : Str := S [67, 108, 97, 117, 115, 101, 46, 116, 97, 107, 101, 115]
abbrev s_range : Str := S [114, 97, 110, 103, 101]
abbrev s_isinstance : Str := S [105, 115, 105, 110, 115, 116, 97, 110, 99, 101]
abbrev s_str : Str := S [115, 116, 114]
abbrev s_list : Str := S [108, 105, 115, 116]
abbrev s_tuple : Str := S [116, 117, 112, 108, 101]
abbrev s_sum : Str := S [115, 117, 109]
abbrev s_int : Str := S [105, 110, 116]
abbrev s_dict : Str := S [100, 105, 99, 116]
abbrev s_enumerate : Str := S [101, 110, 117, 109, 101, 114, 97, 116, 101]
abbrev s_len : Str := S [108, 101, 110]
abbrev s_abs : Str := S [97, 98, 115]
abbrev s_bool : Str := S [98, 111, 111, 108]
abbrev s_all : Str := S [97, 108, 108]
abbrev s_zip : Str := S [122, 105, 112]
abbrev s___init__ : Str := S [95, 95, 105, 110, 105, 116, 95, 95]
abbrev s___call__ : Str := S [95, 95, 99, 97, 108, 108, 95, 95]
abbrev s___str__ : Str := S [95, 95, 115, 116, 114, 95, 95]
/-! the text -/
abbrev pw : Program := PySem.Challenge.pw_modesdown_k07_clauses_done
def top (i : Nat) : Stmt := pw.main.body.getD i (.Pass ⟨0, 0, 0, 0⟩)
def b_law : I := (.cons (.set (.v 1) (.call s__law_pen (.cons (.v 0) .nil))) (.cons (.for_ (.v 2) (.itR1 (.k (V.int 16))) (.cons (.par 3 4 (.cons (.call s__law_clause (.cons (.v 1) .nil)) (.cons (.call s__law_mode (.cons (.v 1) .nil)) .nil))) (.cons (.par 5 6 (.cons (.mk s_Clause (.cons (.ix (.v 3) (.k (V.int 0))) (.cons (.ix (.v 3) (.k (V.int 1))) (.cons (.ix (.v 3) (.k (V.int 2))) .nil)))) (.cons (.mk s_Mode (.cons (.v 4) .nil)) .nil))) (.cons (.for_ (.v 7) (.itT (.tup (.cons (.k (V.str (S [102, 105, 108, 101]))) (.cons (.k (V.str (S [102, 111, 108, 100, 101, 114]))) .nil)))) (.cons (.set (.v 8) (.call s__law_clause_done (.cons (.v 3) (.cons (.v 4) (.cons (.v 7) .nil))))) (.cons (.set (.v 9) (.lst (.cons (.icall (.v 5) (.cons (.v 6) (.cons (.v 7) .nil)) [] .nil) (.cons (.icall (.v 5) (.cons (.v 4) (.cons (.v 7) .nil)) [] .nil) (.cons (.icall (.v 5) .nil [s_form, s_mode] (.cons (.v 7) (.cons (.v 6) .nil))) .nil))))) (.cons (.if_ (.cmp .NotEq (.lc [(s__law_one, 12)] (.v 12) (.v 12) (.itL (.v 9)) true (.or (.not (.isi (.v 12) [(CR.own s_Mode)] false)) (.cmp .NotEq (.att (.v 12) s_number) (.v 8)))) (.lst .nil)) (.cons (.ret (.k (V.bl false))) .nil) .nil) .nil)))) (.cons (.if_ (.or (.cmp .NotEq (.att (.v 6) s_number) (.v 4)) (.cmp .NotEq (.tup (.cons (.att (.v 5) s_who) (.cons (.att (.v 5) s_sign) (.cons (.att (.v 5) s_what) .nil)))) (.v 3))) (.cons (.ret (.k (V.bl false))) .nil) .nil) .nil))))) (.cons (.set (.v 10) (.mk s_Clause (.cons (.k (V.str (S [117]))) (.cons (.k (V.str (S [61]))) (.cons (.k (V.str (S [114, 119, 88]))) .nil))))) (.cons (.set (.v 11) (.lst (.cons (.ostr (.icall (.v 10) (.cons (.mk s_Mode (.cons (.k (V.int 417)) .nil)) (.cons (.k (V.str (S [102, 105, 108, 101]))) .nil)) [] .nil)) (.cons (.ostr (.icall (.v 10) (.cons (.mk s_Mode (.cons (.k (V.int 416)) .nil)) (.cons (.k (V.str (S [102, 105, 108, 101]))) .nil)) [] .nil)) (.cons (.ostr (.icall (.v 10) (.cons (.mk s_Mode (.cons (.k (V.int 64)) .nil)) (.cons (.k (V.str (S [102, 105, 108, 101]))) .nil)) [] .nil)) .nil))))) (.cons (.ret (.and (.cmp .Eq (.v 11) (.lst (.cons (.k (V.str (S [114, 119, 120, 114, 45, 45, 45, 45, 120]))) (.cons (.k (V.str (S [114, 119, 45, 114, 45, 45, 45, 45, 45]))) (.cons (.k (V.str (S [114, 119, 120, 45, 45, 45, 45, 45, 45]))) .nil))))) (.cmp .Eq (.att (.icall (.mk s_Clause (.cons (.k (V.str (S [117, 103, 111]))) (.cons (.k (V.str (S [45]))) (.cons (.k (V.str (S []))) .nil)))) (.cons (.k (V.int 493)) (.cons (.k (V.str (S [102, 111, 108, 100, 101, 114]))) .nil)) [] .nil) s_number) (.k (V.int 493))))) .nil)))))
def d_law : DefI := ⟨s_law, .glo s_law, s_law, s_law, top 34, [s__law_script, s__law_pen_here, s__law_turn, s__law_told, s__law_number, s__law_clause_here, s__law_mode_so, s__law_form_so, s__law_due, s__law_found, s__law_bare, s__law_shown, s__law_one], [s__law_script], b_law⟩
def b__law_pen : I := (.cons (.ret (.lst (.cons (.bi .list (.cons (.sl (.v 0) .nil (.k (V.int 63))) .nil)) (.cons (.k (V.int 0)) (.cons (.k (V.int 0)) .nil))))) .nil)
def d__law_pen : DefI := ⟨s__law_pen, .glo s__law_pen, s__law_pen, s__law_pen, top 28, [s__law_script], [s__law_script], b__law_pen⟩
def b__law_clause : I := (.cons (.set (.v 1) (.call s__law_pick (.cons (.v 0) (.cons (.lst (.cons (.k (V.str (S [117, 103, 111]))) (.cons (.k (V.str (S [117]))) (.cons (.k (V.str (S [103]))) (.cons (.k (V.str (S [111]))) (.cons (.k (V.str (S [117, 103]))) (.cons (.k (V.str (S [117, 111]))) (.cons (.k (V.str (S [103, 111]))) .nil)))))))) .nil)))) (.cons (.set (.v 2) (.call s__law_pick (.cons (.v 0) (.cons (.lst (.cons (.k (V.str (S [114]))) (.cons (.k (V.str (S [119]))) (.cons (.k (V.str (S [120]))) (.cons (.k (V.str (S [88]))) (.cons (.k (V.str (S [114, 88]))) (.cons (.k (V.str (S [114, 119, 120]))) (.cons (.k (V.str (S [114, 119, 88]))) (.cons (.k (V.str (S [119, 120]))) (.cons (.k (V.str (S [114, 120]))) (.cons (.k (V.str (S []))) (.cons (.k (V.str (S [117]))) (.cons (.k (V.str (S [103]))) (.cons (.k (V.str (S [111]))) (.cons (.k (V.str (S [120, 88]))) (.cons (.k (V.str (S [114, 119, 120, 88]))) .nil)))))))))))))))) .nil)))) (.cons (.ret (.tup (.cons (.v 1) (.cons (.call s__law_pick (.cons (.v 0) (.cons (.lst (.cons (.k (V.str (S [43]))) (.cons (.k (V.str (S [45]))) (.cons (.k (V.str (S [61]))) .nil)))) .nil))) (.cons (.v 2) .nil))))) .nil)))
def d__law_clause : DefI := ⟨s__law_clause, .glo s__law_clause, s__law_clause, s__law_clause, top 31, [s__law_pen_here, s__law_who, s__law_what], [s__law_pen_here], b__law_clause⟩
def b__law_mode : I := (.cons (.set (.v 1) (.lst (.cons (.k (V.int 0)) (.cons (.k (V.int 511)) (.cons (.k (V.int 420)) (.cons (.k (V.int 493)) (.cons (.k (V.int 448)) (.cons (.k (V.int 7)) (.cons (.k (V.int 56)) (.cons (.k (V.int 64)) (.cons (.k (V.int 8)) (.cons (.k (V.int 1)) (.cons (.k (V.int 256)) (.cons (.k (V.int 438)) .nil)))))))))))))) (.cons (.ret (.call s__law_pick (.cons (.v 0) (.cons (.lst (.cons (.call s__law_pick (.cons (.v 0) (.cons (.v 1) .nil))) (.cons (.call s__law_draw (.cons (.v 0) (.cons (.k (V.int 512)) .nil))) (.cons (.call s__law_draw (.cons (.v 0) (.cons (.k (V.int 512)) .nil))) .nil)))) .nil)))) .nil))
def d__law_mode : DefI := ⟨s__law_mode, .glo s__law_mode, s__law_mode, s__law_mode, top 33, [s__law_pen_here, s__law_some], [s__law_pen_here], b__law_mode⟩
def b_Clause___init__ : I := (.cons (.if_ (.not (.call s_is_who (.cons (.v 1) .nil))) (.cons .never .nil) .nil) (.cons (.if_ (.or (.not (.isi (.v 2) [(CR.ty "str")] false)) (.cmp .NotIn (.v 2) (.bi .tuple (.cons (.g s_SIGNS_changes) .nil)))) (.cons .never .nil) .nil) (.cons (.if_ (.not (.call s_is_what (.cons (.v 3) .nil))) (.cons .never .nil) .nil) (.cons (.set (.attG (.v 0) s_own_parts) (.tup (.cons (.ite (.cmp .Eq (.v 1) (.k (V.str (S [97])))) (.g s_CLASSES) (.v 1)) (.cons (.v 2) (.cons (.v 3) .nil))))) (.cons (.set (.attG (.v 0) s_own_bits) (.bi .sum (.cons (.lc [(s_letter, 4)] (.ix (.g s_BITS) (.v 4)) (.v 4) (.itS (.ix (.att (.v 0) s_own_parts) (.k (V.int 0)))) false .nil) .nil))) .nil)))))
def d_Clause___init__ : DefI := ⟨s_Clause___init__, .meth s_Clause s___init__, s___init__, s_Clause___init__, inClass (top 26) 0, [s_self, s_who, s_sign, s_what, s_letter], [s_self, s_who, s_sign, s_what], b_Clause___init__⟩
def b_Mode___init__ : I := (.cons (.if_ (.not (.call s_is_integer (.cons (.v 1) (.cons (.k (V.int 0)) (.cons (.g s_GREATEST) .nil))))) (.cons .never .nil) .nil) (.cons (.set (.attG (.v 0) s_bits) (.v 1)) .nil))
def d_Mode___init__ : DefI := ⟨s_Mode___init__, .meth s_Mode s___init__, s___init__, s_Mode___init__, inClass (top 17) 1, [s_self, s_number], [s_self, s_number], b_Mode___init__⟩
def b__law_clause_done : I := (.cons (.set (.tupG (.cons (.v 3) (.cons (.v 4) (.cons (.v 5) .nil)))) (.v 0)) (.cons (.set (.v 6) (.dic (.pair (.k (V.str (S [117]))) (.bop .RShift (.v 1) (.k (V.int 6))) (.pair (.k (V.str (S [103]))) (.bop .BitAnd (.bop .RShift (.v 1) (.k (V.int 3))) (.k (V.int 7))) (.pair (.k (V.str (S [111]))) (.bop .BitAnd (.v 1) (.k (V.int 7))) .nil))))) (.cons (.set (.v 7) (.bm .get (.v 6) (.cons (.v 5) (.cons (.k (V.int 0)) .nil)))) (.cons (.if_ (.cmp .NotIn (.v 5) (.v 6)) (.cons (.set (.v 7) (.bop .Add (.bop .Add (.bop .Mult (.k (V.int 4)) (.bi .int (.cons (.cmp .In (.k (V.str (S [114]))) (.v 5)) .nil))) (.bop .Mult (.k (V.int 2)) (.bi .int (.cons (.cmp .In (.k (V.str (S [119]))) (.v 5)) .nil)))) (.bi .int (.cons (.cmp .In (.k (V.str (S [120]))) (.v 5)) .nil)))) (.cons (.if_ (.and (.cmp .In (.k (V.str (S [88]))) (.v 5)) (.or (.cmp .Eq (.v 2) (.k (V.str (S [102, 111, 108, 100, 101, 114])))) (.cmp .Gt (.bop .BitAnd (.v 1) (.k (V.int 73))) (.k (V.int 0))))) (.cons (.set (.v 7) (.bop .BitOr (.v 7) (.k (V.int 1)))) .nil) .nil) .nil)) .nil) (.cons (.set (.v 8) (.bi .dict (.cons (.v 6) .nil))) (.cons (.for_ (.v 9) (.itS (.v 3)) (.cons (.set (.v 10) (.dic (.pair (.k (V.str (S [43]))) (.bop .BitOr (.ix (.v 6) (.v 9)) (.v 7)) (.pair (.k (V.str (S [45]))) (.bop .BitAnd (.ix (.v 6) (.v 9)) (.bop .Sub (.k (V.int 7)) (.v 7))) (.pair (.k (V.str (S [61]))) (.v 7) .nil))))) (.cons (.set (.subG (.v 8) (.v 9)) (.ix (.v 10) (.v 4))) .nil))) (.cons (.ret (.bop .Add (.bop .Add (.bop .Mult (.k (V.int 64)) (.ix (.v 8) (.k (V.str (S [117]))))) (.bop .Mult (.k (V.int 8)) (.ix (.v 8) (.k (V.str (S [103])))))) (.ix (.v 8) (.k (V.str (S [111])))))) .nil)))))))
def d__law_clause_done : DefI := ⟨s__law_clause_done, .glo s__law_clause_done, s__law_clause_done, s__law_clause_done, top 32, [s__law_told, s__law_number, s__law_form_so, s__law_who, s__law_sign, s__law_what, s__law_digits, s__law_meant, s__law_later, s__law_letter, s__law_gained], [s__law_told, s__law_number, s__law_form_so], b__law_clause_done⟩
def b_Clause_sign : I := (.cons (.ret (.ix (.att (.v 0) s_own_parts) (.k (V.int 1)))) .nil)
def d_Clause_sign : DefI := ⟨s_Clause_sign, .getr s_Clause s_sign, s_sign, s_Clause_sign, inClass (top 26) 3, [s_self], [s_self], b_Clause_sign⟩
def b_Clause_what : I := (.cons (.ret (.ix (.att (.v 0) s_own_parts) (.k (V.int 2)))) .nil)
def d_Clause_what : DefI := ⟨s_Clause_what, .getr s_Clause s_what, s_what, s_Clause_what, inClass (top 26) 4, [s_self], [s_self], b_Clause_what⟩
def b_Clause_who : I := (.cons (.ret (.ix (.att (.v 0) s_own_parts) (.k (V.int 0)))) .nil)
def d_Clause_who : DefI := ⟨s_Clause_who, .getr s_Clause s_who, s_who, s_Clause_who, inClass (top 26) 2, [s_self], [s_self], b_Clause_who⟩
def b_Clause___call__ : I := (.cons (.set (.v 3) (.mk s_Mode (.cons (.call s_number_of (.cons (.v 1) .nil)) .nil))) (.cons (.for_ (.v 4) (.itS (.k (V.str (S [114, 119, 120])))) (.cons (.set (.v 3) (.meth (.v 3) s_with_pattern (.cons (.v 4) (.cons (.meth (.v 0) s_moved (.cons (.v 4) (.cons (.meth (.v 3) s_pattern (.cons (.v 4) .nil)) (.cons (.v 2) .nil)))) .nil)))) .nil)) (.cons (.ret (.v 3)) .nil)))
def d_Clause___call__ : DefI := ⟨s_Clause___call__, .meth s_Clause s___call__, s___call__, s_Clause___call__, inClass (top 26) 7, [s_self, s_mode, s_form, s_found, s_letter], [s_self, s_mode, s_form], b_Clause___call__⟩
def b_Mode___str__ : I := (.cons (.ret (.bm .join (.k (V.str (S []))) (.cons (.lc [(s_at, 1), (s_sign, 2)] (.ite (.bop .BitAnd (.bop .RShift (.att (.v 0) s_bits) (.bop .Sub (.k (V.int 8)) (.v 1))) (.k (V.int 1))) (.v 2) (.k (V.str (S [45])))) (.tupG (.cons (.v 1) (.cons (.v 2) .nil))) (.itES (.g s_SIGNS_modes)) false .nil) .nil))) .nil)
def d_Mode___str__ : DefI := ⟨s_Mode___str__, .meth s_Mode s___str__, s___str__, s_Mode___str__, inClass (top 17) 20, [s_self, s_at, s_sign], [s_self], b_Mode___str__⟩
def b_Mode_number : I := (.cons (.ret (.att (.v 0) s_bits)) .nil)
def d_Mode_number : DefI := ⟨s_Mode_number, .getr s_Mode s_number, s_number, s_Mode_number, inClass (top 17) 5, [s_self], [s_self], b_Mode_number⟩
def b__law_pick : I := (.cons (.ret (.ix (.v 1) (.call s__law_draw (.cons (.v 0) (.cons (.bi .len (.cons (.v 1) .nil)) .nil))))) .nil)
def d__law_pick : DefI := ⟨s__law_pick, .glo s__law_pick, s__law_pick, s__law_pick, top 30, [s__law_pen_here, s__law_some], [s__law_pen_here, s__law_some], b__law_pick⟩
def b__law_draw : I := (.cons (.if_ (.cmp .Gt (.ix (.v 0) (.k (V.int 2))) (.k (V.int 0))) (.cons (.set (.v 2) (.bop .Mod (.bi .int (.cons (.ix (.v 0) (.k (V.int 2))) .nil)) (.v 1))) (.cons (.set (.subG (.v 0) (.k (V.int 2))) (.bop .FloorDiv (.bi .int (.cons (.ix (.v 0) (.k (V.int 2))) .nil)) (.v 1))) (.cons (.ret (.v 2)) .nil))) .nil) (.cons (.set (.v 3) (.ix (.v 0) (.k (V.int 1)))) (.cons (.set (.subG (.v 0) (.k (V.int 1))) (.bop .Add (.v 3) (.k (V.int 1)))) (.cons (.set (.v 4) (.bop .Add (.bop .Mult (.k (V.int 50083)) (.v 3)) (.k (V.int 337)))) (.cons (.if_ (.cmp .NotEq (.ix (.v 0) (.k (V.int 0))) (.lst .nil)) (.cons (.set (.v 4) (.ix (.ix (.v 0) (.k (V.int 0))) (.bop .Mod (.bi .int (.cons (.v 3) .nil)) (.bi .len (.cons (.ix (.v 0) (.k (V.int 0))) .nil))))) .nil) .nil) (.cons (.if_ (.and (.cmp .Lt (.v 3) (.bi .len (.cons (.ix (.v 0) (.k (V.int 0))) .nil))) (.cmp .GtE (.bi .abs (.cons (.v 4) .nil)) (.bop .Pow (.k (V.int 10)) (.k (V.int 18))))) (.cons (.set (.v 5) (.bop .Add (.bop .Mult (.k (V.int 2)) (.bop .Sub (.bi .abs (.cons (.v 4) .nil)) (.bop .Pow (.k (V.int 10)) (.k (V.int 18))))) (.bi .int (.cons (.cmp .Lt (.v 4) (.k (V.int 0))) .nil)))) (.cons (.set (.subG (.v 0) (.k (V.int 2))) (.bop .FloorDiv (.bi .int (.cons (.v 5) .nil)) (.v 1))) (.cons (.ret (.bop .Mod (.bi .int (.cons (.v 5) .nil)) (.v 1))) .nil))) .nil) (.cons (.set (.v 6) (.bop .Mod (.bi .int (.cons (.bop .Pow (.bop .Add (.bop .Add (.bop .Mod (.bi .int (.cons (.v 4) .nil)) (.k (V.int 2147483549))) (.bop .Mult (.k (V.int 60091)) (.v 3))) (.k (V.int 337))) (.k (V.int 5))) .nil)) (.k (V.int 2147483629)))) (.cons (.set (.v 6) (.bop .Mod (.bi .int (.cons (.bop .Pow (.bop .Add (.bop .Add (.bop .Mult (.v 6) (.bop .Add (.bop .Mult (.k (V.int 2)) (.v 3)) (.k (V.int 43)))) (.bop .Mult (.bop .Mult (.k (V.int 70051)) (.v 3)) (.v 3))) (.k (V.int 17))) (.k (V.int 3))) .nil)) (.k (V.int 2147483587)))) (.cons (.ret (.bop .Mod (.bi .int (.cons (.bop .FloorDiv (.v 6) (.k (V.int 32))) .nil)) (.v 1))) .nil)))))))))
def d__law_draw : DefI := ⟨s__law_draw, .glo s__law_draw, s__law_draw, s__law_draw, top 29, [s__law_pen_here, s__law_many, s__law_digit, s__law_at, s__law_cell, s__law_great, s__law_mixed], [s__law_pen_here, s__law_many], b__law_draw⟩
def b_is_who : I := (.cons (.ret (.and (.isi (.v 0) [(CR.ty "str")] false) (.and (.cmp .NotEq (.v 0) (.k (V.str (S [])))) (.or (.cmp .Eq (.v 0) (.k (V.str (S [97])))) (.call s_is_some (.cons (.v 0) (.cons (.g s_CLASSES) .nil))))))) .nil)
def d_is_who : DefI := ⟨s_is_who, .glo s_is_who, s_is_who, s_is_who, top 24, [s_thing], [s_thing], b_is_who⟩
def b_is_what : I := (.cons (.ret (.or (.call s_is_some (.cons (.v 0) (.cons (.g s_LETTERS) .nil))) (.and (.isi (.v 0) [(CR.ty "str")] false) (.cmp .In (.v 0) (.bi .tuple (.cons (.g s_CLASSES) .nil)))))) .nil)
def d_is_what : DefI := ⟨s_is_what, .glo s_is_what, s_is_what, s_is_what, top 25, [s_thing], [s_thing], b_is_what⟩
def b_is_integer : I := (.cons (.ret (.and (.isi (.v 0) [(CR.ty "int")] false) (.and (.not (.isi (.v 0) [(CR.ty "bool")] false)) (.cmp2 .LtE .LtE (.v 1) (.v 0) (.v 2))))) .nil)
def d_is_integer : DefI := ⟨s_is_integer, .glo s_is_integer, s_is_integer, s_is_integer, top 8, [s_thing, s_low, s_high], [s_thing, s_low, s_high], b_is_integer⟩
def b_number_of : I := (.cons (.if_ (.isi (.v 0) [(CR.own s_Mode)] false) (.cons (.ret (.att (.v 0) s_number)) .nil) .nil) (.cons (.if_ (.not (.call s_is_integer (.cons (.v 0) (.cons (.k (V.int 0)) (.cons (.g s_GREATEST) .nil))))) (.cons .never .nil) .nil) (.cons (.ret (.v 0)) .nil)))
def d_number_of : DefI := ⟨s_number_of, .glo s_number_of, s_number_of, s_number_of, top 14, [s_thing], [s_thing], b_number_of⟩
def b_Clause_moved : I := (.cons (.set (.v 4) (.meth (.v 0) s_takes (.cons (.v 1) (.cons (.v 2) (.cons (.v 3) .nil))))) (.cons (.if_ (.cmp .Eq (.att (.v 0) s_sign) (.k (V.str (S [61])))) (.cons (.ret (.ite (.v 4) (.bop .BitOr (.v 2) (.att (.v 0) s_own_bits)) (.bop .BitAnd (.v 2) (.uop .Invert (.att (.v 0) s_own_bits))))) .nil) .nil) (.cons (.if_ (.not (.v 4)) (.cons (.ret (.v 2)) .nil) .nil) (.cons (.ret (.ite (.cmp .Eq (.att (.v 0) s_sign) (.k (V.str (S [43])))) (.bop .BitOr (.v 2) (.att (.v 0) s_own_bits)) (.bop .BitAnd (.v 2) (.uop .Invert (.att (.v 0) s_own_bits))))) .nil))))
def d_Clause_moved : DefI := ⟨s_Clause_moved, .meth s_Clause s_moved, s_moved, s_Clause_moved, inClass (top 26) 6, [s_self, s_letter, s_pattern, s_form, s_is_meant], [s_self, s_letter, s_pattern, s_form], b_Clause_moved⟩
def b_Mode_pattern : I := (.cons (.set (.v 2) (.call s_place_of (.cons (.v 1) .nil))) (.cons (.ret (.bi .sum (.cons (.lc [(s_at, 3)] (.bop .LShift (.bop .BitAnd (.bop .RShift (.att (.v 0) s_bits) (.bop .Add (.bop .Mult (.k (V.int 3)) (.v 3)) (.v 2))) (.k (V.int 1))) (.v 3)) (.v 3) (.itR1 (.k (V.int 3))) false .nil) .nil))) .nil))
def d_Mode_pattern : DefI := ⟨s_Mode_pattern, .meth s_Mode s_pattern, s_pattern, s_Mode_pattern, inClass (top 17) 7, [s_self, s_letter, s_place, s_at], [s_self, s_letter], b_Mode_pattern⟩
def b_Mode_with_pattern : I := (.cons (.set (.v 3) (.call s_place_of (.cons (.v 1) .nil))) (.cons (.if_ (.not (.call s_is_integer (.cons (.v 2) (.cons (.k (V.int 0)) (.cons (.k (V.int 7)) .nil))))) (.cons .never .nil) .nil) (.cons (.set (.v 4) (.bop .BitAnd (.att (.v 0) s_bits) (.uop .Invert (.call s_pattern_bits (.cons (.v 3) (.cons (.k (V.int 7)) .nil)))))) (.cons (.ret (.mk s_Mode (.cons (.bop .BitOr (.v 4) (.call s_pattern_bits (.cons (.v 3) (.cons (.v 2) .nil)))) .nil))) .nil))))
def d_Mode_with_pattern : DefI := ⟨s_Mode_with_pattern, .meth s_Mode s_with_pattern, s_with_pattern, s_Mode_with_pattern, inClass (top 17) 8, [s_self, s_letter, s_pattern, s_place, s_rest], [s_self, s_letter, s_pattern], b_Mode_with_pattern⟩
def b_is_some : I := (.cons (.if_ (.not (.isi (.v 0) [(CR.ty "str")] false)) (.cons (.ret (.k (V.bl false))) .nil) .nil) (.cons (.setLc 2 (.lc [(s_sign, 3)] (.bm .find (.v 1) (.cons (.v 3) .nil)) (.v 3) (.itS (.v 0)) false .nil)) (.cons (.ret (.and (.cmp .NotIn (.uop .USub (.k (V.int 1))) (.v 2)) (.bi .all (.cons (.lc [(s_low, 4), (s_high, 5)] (.cmp .Lt (.v 4) (.v 5)) (.tupG (.cons (.v 4) (.cons (.v 5) .nil))) (.itZ (.v 2) (.sl (.v 2) (.k (V.int 1)) .nil)) false .nil) .nil)))) .nil)))
def d_is_some : DefI := ⟨s_is_some, .glo s_is_some, s_is_some, s_is_some, top 23, [s_thing, s_letters, s_places, s_sign, s_low, s_high], [s_thing, s_letters], b_is_some⟩
def b_Clause_takes : I := (.cons (.if_ (.cmp .In (.att (.v 0) s_what) (.g s_BITS)) (.cons (.ret (.cmp .Gt (.bop .BitAnd (.v 2) (.ix (.g s_BITS) (.att (.v 0) s_what))) (.k (V.int 0)))) .nil) .nil) (.cons (.if_ (.cmp .In (.v 1) (.att (.v 0) s_what)) (.cons (.ret (.k (V.bl true))) .nil) .nil) (.cons (.ret (.and (.cmp .Eq (.v 1) (.k (V.str (S [120])))) (.and (.cmp .In (.k (V.str (S [88]))) (.att (.v 0) s_what)) (.or (.cmp .Eq (.v 3) (.k (V.str (S [102, 111, 108, 100, 101, 114])))) (.cmp .Gt (.v 2) (.k (V.int 0))))))) .nil)))
def d_Clause_takes : DefI := ⟨s_Clause_takes, .meth s_Clause s_takes, s_takes, s_Clause_takes, inClass (top 26) 5, [s_self, s_letter, s_pattern, s_form], [s_self, s_letter, s_pattern, s_form], b_Clause_takes⟩
def b_place_of : I := (.cons (.if_ (.or (.not (.isi (.v 0) [(CR.ty "str")] false)) (.cmp .NotIn (.v 0) (.g s_PLACES))) (.cons .never .nil) .nil) (.cons (.ret (.ix (.g s_PLACES) (.v 0))) .nil))
def d_place_of : DefI := ⟨s_place_of, .glo s_place_of, s_place_of, s_place_of, top 15, [s_letter], [s_letter], b_place_of⟩
def b_pattern_bits : I := (.cons (.ret (.bi .sum (.cons (.lc [(s_at, 2)] (.bop .LShift (.bop .BitAnd (.bop .RShift (.v 1) (.v 2)) (.k (V.int 1))) (.bop .Add (.bop .Mult (.k (V.int 3)) (.v 2)) (.v 0))) (.v 2) (.itR1 (.k (V.int 3))) false .nil) .nil))) .nil)
def d_pattern_bits : DefI := ⟨s_pattern_bits, .glo s_pattern_bits, s_pattern_bits, s_pattern_bits, top 16, [s_place, s_pattern, s_at], [s_place, s_pattern], b_pattern_bits⟩
def hd : Hd where
  defs := [d_law, d__law_pen, d__law_clause, d__law_mode, d_Clause___init__, d_Mode___init__, d__law_clause_done, d_Clause_sign, d_Clause_what, d_Clause_who, d_Clause___call__, d_Mode___str__, d_Mode_number, d__law_pick, d__law_draw, d_is_who, d_is_what, d_is_integer, d_number_of, d_Clause_moved, d_Mode_pattern, d_Mode_with_pattern, d_is_some, d_Clause_takes, d_place_of, d_pattern_bits]
  frees := [s_range, s_isinstance, s_str, s_list, s_tuple, s_sum, s_int, s_dict, s_enumerate, s_len, s_abs, s_bool, s_all, s_zip]
  globs := [(s_SIGNS_changes, .str (S [43, 45, 61])), (s_CLASSES, .str (S [117, 103, 111])), (s_BITS, .glo s_BITS), (s_GREATEST, .int 511), (s_SIGNS_modes, .str (S [114, 119, 120, 114, 119, 120, 114, 119, 120])), (s_LETTERS, .str (S [114, 119, 120, 88])), (s_PLACES, .glo s_PLACES)]
  fns := [s_law, s__law_pen, s__law_clause, s__law_mode, s__law_clause_done, s__law_pick, s__law_draw, s_is_who, s_is_what, s_is_integer, s_number_of, s_is_some, s_place_of, s_pattern_bits]
  clss := [s_Mode]
  mks := [s_Clause, s_Mode]
  mth := [((s_Clause, s___init__), s_Clause___init__), ((s_Clause, s_takes), s_Clause_takes), ((s_Clause, s_moved), s_Clause_moved), ((s_Clause, s___call__), s_Clause___call__), ((s_Mode, s___init__), s_Mode___init__), ((s_Mode, s_pattern), s_Mode_pattern), ((s_Mode, s_with_pattern), s_Mode_with_pattern), ((s_Mode, s___str__), s_Mode___str__)]
  prp := [((s_Clause, s_who), s_Clause_who), ((s_Clause, s_sign), s_Clause_sign), ((s_Clause, s_what), s_Clause_what), ((s_Mode, s_number), s_Mode_number)]
  fld := [(s_Clause, s_own_parts), (s_Clause, s_own_bits), (s_Mode, s_bits)]
  isi := [((s_Clause, CR.own s_Mode), false), ((s_Clause, CR.ty "str"), false), ((s_Clause, CR.ty "int"), false), ((s_Clause, CR.ty "bool"), false), ((s_Mode, CR.own s_Mode), true), ((s_Mode, CR.ty "str"), false), ((s_Mode, CR.ty "int"), false), ((s_Mode, CR.ty "bool"), false)]
  tabs := [(s_BITS, [(S [117], (V.int 4)), (S [103], (V.int 2)), (S [111], (V.int 1))]), (s_PLACES, [(S [114], (V.int 2)), (S [119], (V.int 1)), (S [120], (V.int 0))])]
  xf := []
  kwo := [((s_Clause___call__, 1, [s_form, s_mode]), [0, 2, 1])]
/-! the judgement of the text -/
theorem stat : hd.stat = true := by decide +kernel
theorem bn_law : d_law.Bnd hd := by
  refine ⟨fun _ _ _ _ _ _ us hl => match us, hl with | [_], _ => rfl, fun l ks ord h => ?_⟩
  exact absurd h (by simp [hd, d_law])
theorem bn__law_pen : d__law_pen.Bnd hd := by
  refine ⟨fun _ _ _ _ _ _ us hl => match us, hl with | [_], _ => rfl, fun l ks ord h => ?_⟩
  exact absurd h (by simp [hd, d__law_pen])
theorem bn__law_clause : d__law_clause.Bnd hd := by
  refine ⟨fun _ _ _ _ _ _ us hl => match us, hl with | [_], _ => rfl, fun l ks ord h => ?_⟩
  exact absurd h (by simp [hd, d__law_clause])
theorem bn__law_mode : d__law_mode.Bnd hd := by
  refine ⟨fun _ _ _ _ _ _ us hl => match us, hl with | [_], _ => rfl, fun l ks ord h => ?_⟩
  exact absurd h (by simp [hd, d__law_mode])
theorem bn_Clause___init__ : d_Clause___init__.Bnd hd := by
  refine ⟨fun _ _ _ _ _ _ us hl => match us, hl with | [_, _, _, _], _ => rfl, fun l ks ord h => ?_⟩
  exact absurd h (by simp [hd, d_Clause___init__])
theorem bn_Mode___init__ : d_Mode___init__.Bnd hd := by
  refine ⟨fun _ _ _ _ _ _ us hl => match us, hl with | [_, _], _ => rfl, fun l ks ord h => ?_⟩
  exact absurd h (by simp [hd, d_Mode___init__])
theorem bn__law_clause_done : d__law_clause_done.Bnd hd := by
  refine ⟨fun _ _ _ _ _ _ us hl => match us, hl with | [_, _, _], _ => rfl, fun l ks ord h => ?_⟩
  exact absurd h (by simp [hd, d__law_clause_done])
theorem bn_Clause_sign : d_Clause_sign.Bnd hd := by
  refine ⟨fun _ _ _ _ _ _ us hl => match us, hl with | [_], _ => rfl, fun l ks ord h => ?_⟩
  exact absurd h (by simp [hd, d_Clause_sign])
theorem bn_Clause_what : d_Clause_what.Bnd hd := by
  refine ⟨fun _ _ _ _ _ _ us hl => match us, hl with | [_], _ => rfl, fun l ks ord h => ?_⟩
  exact absurd h (by simp [hd, d_Clause_what])
theorem bn_Clause_who : d_Clause_who.Bnd hd := by
  refine ⟨fun _ _ _ _ _ _ us hl => match us, hl with | [_], _ => rfl, fun l ks ord h => ?_⟩
  exact absurd h (by simp [hd, d_Clause_who])
theorem bn_Clause___call__ : d_Clause___call__.Bnd hd := by
  refine ⟨fun _ _ _ _ _ _ us hl => match us, hl with | [_, _, _], _ => rfl, fun l ks ord h => ?_⟩
  have e := List.mem_singleton.mp h
  cases e
  exact fun _ _ _ _ _ _ us ws hl hz => match us, hl, ws, hz with | [a0], _, [b0, b1], _ => ⟨[a0, b1, b0], rfl, rfl⟩
theorem bn_Mode___str__ : d_Mode___str__.Bnd hd := by
  refine ⟨fun _ _ _ _ _ _ us hl => match us, hl with | [_], _ => rfl, fun l ks ord h => ?_⟩
  exact absurd h (by simp [hd, d_Mode___str__])
theorem bn_Mode_number : d_Mode_number.Bnd hd := by
  refine ⟨fun _ _ _ _ _ _ us hl => match us, hl with | [_], _ => rfl, fun l ks ord h => ?_⟩
  exact absurd h (by simp [hd, d_Mode_number])
theorem bn__law_pick : d__law_pick.Bnd hd := by
  refine ⟨fun _ _ _ _ _ _ us hl => match us, hl with | [_, _], _ => rfl, fun l ks ord h => ?_⟩
  exact absurd h (by simp [hd, d__law_pick])
theorem bn__law_draw : d__law_draw.Bnd hd := by
  refine ⟨fun _ _ _ _ _ _ us hl => match us, hl with | [_, _], _ => rfl, fun l ks ord h => ?_⟩
  exact absurd h (by simp [hd, d__law_draw])
theorem bn_is_who : d_is_who.Bnd hd := by
  refine ⟨fun _ _ _ _ _ _ us hl => match us, hl with | [_], _ => rfl, fun l ks ord h => ?_⟩
  exact absurd h (by simp [hd, d_is_who])
theorem bn_is_what : d_is_what.Bnd hd := by
  refine ⟨fun _ _ _ _ _ _ us hl => match us, hl with | [_], _ => rfl, fun l ks ord h => ?_⟩
  exact absurd h (by simp [hd, d_is_what])
theorem bn_is_integer : d_is_integer.Bnd hd := by
  refine ⟨fun _ _ _ _ _ _ us hl => match us, hl with | [_, _, _], _ => rfl, fun l ks ord h => ?_⟩
  exact absurd h (by simp [hd, d_is_integer])
theorem bn_number_of : d_number_of.Bnd hd := by
  refine ⟨fun _ _ _ _ _ _ us hl => match us, hl with | [_], _ => rfl, fun l ks ord h => ?_⟩
  exact absurd h (by simp [hd, d_number_of])
theorem bn_Clause_moved : d_Clause_moved.Bnd hd := by
  refine ⟨fun _ _ _ _ _ _ us hl => match us, hl with | [_, _, _, _], _ => rfl, fun l ks ord h => ?_⟩
  exact absurd h (by simp [hd, d_Clause_moved])
theorem bn_Mode_pattern : d_Mode_pattern.Bnd hd := by
  refine ⟨fun _ _ _ _ _ _ us hl => match us, hl with | [_, _], _ => rfl, fun l ks ord h => ?_⟩
  exact absurd h (by simp [hd, d_Mode_pattern])
theorem bn_Mode_with_pattern : d_Mode_with_pattern.Bnd hd := by
  refine ⟨fun _ _ _ _ _ _ us hl => match us, hl with | [_, _, _], _ => rfl, fun l ks ord h => ?_⟩
  exact absurd h (by simp [hd, d_Mode_with_pattern])
theorem bn_is_some : d_is_some.Bnd hd := by
  refine ⟨fun _ _ _ _ _ _ us hl => match us, hl with | [_, _], _ => rfl, fun l ks ord h => ?_⟩
  exact absurd h (by simp [hd, d_is_some])
theorem bn_Clause_takes : d_Clause_takes.Bnd hd := by
  refine ⟨fun _ _ _ _ _ _ us hl => match us, hl with | [_, _, _, _], _ => rfl, fun l ks ord h => ?_⟩
  exact absurd h (by simp [hd, d_Clause_takes])
theorem bn_place_of : d_place_of.Bnd hd := by
  refine ⟨fun _ _ _ _ _ _ us hl => match us, hl with | [_], _ => rfl, fun l ks ord h => ?_⟩
  exact absurd h (by simp [hd, d_place_of])
theorem bn_pattern_bits : d_pattern_bits.Bnd hd := by
  refine ⟨fun _ _ _ _ _ _ us hl => match us, hl with | [_, _], _ => rfl, fun l ks ord h => ?_⟩
  exact absurd h (by simp [hd, d_pattern_bits])
theorem bnd : ∀ d ∈ hd.defs, d.Bnd hd := by
  intro d h
  simp only [hd, List.mem_cons, List.not_mem_nil, or_false] at h
  rcases h with rfl | rfl | rfl | rfl | rfl | rfl | rfl | rfl | rfl | rfl | rfl | rfl | rfl | rfl | rfl | rfl | rfl | rfl | rfl | rfl | rfl | rfl | rfl | rfl | rfl | rfl
  · exact bn_law
  · exact bn__law_pen
  · exact bn__law_clause
  · exact bn__law_mode
  · exact bn_Clause___init__
  · exact bn_Mode___init__
  · exact bn__law_clause_done
  · exact bn_Clause_sign
  · exact bn_Clause_what
  · exact bn_Clause_who
  · exact bn_Clause___call__
  · exact bn_Mode___str__
  · exact bn_Mode_number
  · exact bn__law_pick
  · exact bn__law_draw
  · exact bn_is_who
  · exact bn_is_what
  · exact bn_is_integer
  · exact bn_number_of
  · exact bn_Clause_moved
  · exact bn_Mode_pattern
  · exact bn_Mode_with_pattern
  · exact bn_is_some
  · exact bn_Clause_takes
  · exact bn_place_of
  · exact bn_pattern_bits
theorem f_law : hd.pg.find s_law = some d_law := by rfl
theorem f__law_pen : hd.pg.find s__law_pen = some d__law_pen := by rfl
theorem f__law_clause : hd.pg.find s__law_clause = some d__law_clause := by rfl
theorem f__law_mode : hd.pg.find s__law_mode = some d__law_mode := by rfl
theorem f_Clause___init__ : hd.pg.find s_Clause___init__ = some d_Clause___init__ := by rfl
theorem f_Mode___init__ : hd.pg.find s_Mode___init__ = some d_Mode___init__ := by rfl
theorem f__law_clause_done : hd.pg.find s__law_clause_done = some d__law_clause_done := by rfl
theorem f_Clause_sign : hd.pg.find s_Clause_sign = some d_Clause_sign := by rfl
theorem f_Clause_what : hd.pg.find s_Clause_what = some d_Clause_what := by rfl
theorem f_Clause_who : hd.pg.find s_Clause_who = some d_Clause_who := by rfl
theorem f_Clause___call__ : hd.pg.find s_Clause___call__ = some d_Clause___call__ := by rfl
theorem f_Mode___str__ : hd.pg.find s_Mode___str__ = some d_Mode___str__ := by rfl
theorem f_Mode_number : hd.pg.find s_Mode_number = some d_Mode_number := by rfl
theorem f__law_pick : hd.pg.find s__law_pick = some d__law_pick := by rfl
theorem f__law_draw : hd.pg.find s__law_draw = some d__law_draw := by rfl
theorem f_is_who : hd.pg.find s_is_who = some d_is_who := by rfl
theorem f_is_what : hd.pg.find s_is_what = some d_is_what := by rfl
theorem f_is_integer : hd.pg.find s_is_integer = some d_is_integer := by rfl
theorem f_number_of : hd.pg.find s_number_of = some d_number_of := by rfl
theorem f_Clause_moved : hd.pg.find s_Clause_moved = some d_Clause_moved := by rfl
theorem f_Mode_pattern : hd.pg.find s_Mode_pattern = some d_Mode_pattern := by rfl
theorem f_Mode_with_pattern : hd.pg.find s_Mode_with_pattern = some d_Mode_with_pattern := by rfl
theorem f_is_some : hd.pg.find s_is_some = some d_is_some := by rfl
theorem f_Clause_takes : hd.pg.find s_Clause_takes = some d_Clause_takes := by rfl
theorem f_place_of : hd.pg.find s_place_of = some d_place_of := by rfl
theorem f_pattern_bits : hd.pg.find s_pattern_bits = some d_pattern_bits := by rfl
end U

namespace U
open PySem PySem.Spec PyProof.Rows L2
abbrev R : PySem.W.OpenRow := PySem.W.OpenLaw.row PySem.Challenge.rw_modesdown_k07_clauses_done
def loose : List Str := ["_wall", "__name__", "ModesError", "BadInput", "BadMode", "BadClause", "BadText", "is_integer", "GREATEST", "SIGNS_modes", "PLACES", "is_mode", "number_of", "place_of", "pattern_bits", "Mode", "CLASSES", "SIGNS_changes", "LETTERS", "BITS", "is_some", "is_who", "is_what", "Clause", "_law_pen", "_law_draw", "_law_pick", "_law_clause", "_law_clause_done", "_law_mode"]
theorem runF (w : World) : HandSHeadRun.RunEq R (PySem.W.view R.prog [34]) (hd.hook 6) (hd.ob 6) 8000 loose (w.withFollow "special-get-raises" false) := by
  intro os
  kernel_rfl
theorem runT (w : World) : HandSHeadRun.RunEq R (PySem.W.view R.prog [34]) (hd.hook 6) (hd.ob 6) 8000 loose (w.withFollow "special-get-raises" true) := by
  intro os
  kernel_rfl
theorem runQ (w : World) : HandSHeadRun.RunEq R (PySem.W.view R.prog [34]) (hd.hook 6) (hd.ob 6) 8000 loose w := PySem.W.byRow2 "special-get-raises" runF runT w
end U

namespace U
open PySem PySem.Spec PyProof.Rows L2
variable {K : PySem.W.Frag} {w : World} {n : Nat} {H : Hp} {Q : VK} {E : XK}
theorem gv1 : hd.pg.gv K s_GREATEST = some (.int 511) := rfl
theorem c_is_integer {t lo hi : Int} (hn : 1 ≤ n) (h : Q (.bl (decide (lo ≤ t ∧ t ≤ hi))) H) : run hd.pg K w n s_is_integer [.int t, .int lo, .int hi] H Q E := by
  refine run_at f_is_integer hn rfl ?_
  simp only [d_is_integer, b_is_integer, L2.start, e_k, e_v, e_g, e_bop, e_uop, e_not, e_and, e_or, e_ite, e_cmp, e_cmp2, e_lst, e_tup, e_dic, e_call, e_mk, e_bi, e_isi, e_meth, e_bm, e_icall, e_ostr, e_att, e_ix, e_sl, e_lc, t_v, t_isi, t_call, t_meth, t_bop, t_bi, t_att, t_not, t_and, t_or, t_cmp, t_cmp2, trQ_bl, blQ_bl, a_nil', a_cons, s_nil, s_cons, s_set, s_setLc, s_par, s_expr, s_ret, s_retN, s_if, s_for, s_never, s_pass, s_brk, s_cont, g_v', g_tup, g_sub, g_att, gs_nil, gs_cons, gs_tup, i_L, i_T, i_S, i_R1, i_ES, i_E, i_Z, p_nil, p_pair, o_nil, o_k, x_K, x_w, x_fn, x_gv, x_tabs, x_mth, x_prp, x_fld, x_isi, x_kwo, isi_int, isi_str, isi_bl, isi_non, ii1, ii2, ii3, ii4, ii5, ii6, ii7, r_add, r_sub, r_mul, r_div, r_mod, r_pow, r_shl, r_shr, r_and, r_or, r_xor, r_neg, r_inv, r_lt, r_le, r_gt, r_ge, r_eqI, r_neI, r_eqS, r_neS, r_inS, r_niS, List.getElem?_cons_zero, List.getElem?_cons_succ, List.set_cons_zero, List.set_cons_succ, List.map_cons, List.map_nil, List.length_cons, List.length_nil, Nat.reduceAdd, Nat.reduceSub, List.replicate_succ, List.replicate_zero, List.cons_append, List.nil_append, List.append_nil, Bool.not_true, Bool.not_false, if_true, if_false, ite_true, ite_false, Bool.false_eq_true, Bool.true_eq_false, reduceIte]
  by_cases h1 : lo ≤ t <;> by_cases h2 : t ≤ hi <;> simp [h1, h2] at h ⊢ <;> exact h
theorem c_Mode_number {m dx : Addr} {v : V} (hn : 1 ≤ n) (hm : H m = some (.ins (He.ga K s_Mode) dx [(s_bits, v)])) (h : Q v H) : run hd.pg K w n s_Mode_number [.ref m] H Q E := by
  refine run_at f_Mode_number hn rfl ?_
  simp only [d_Mode_number, b_Mode_number, L2.start, e_k, e_v, e_g, e_bop, e_uop, e_not, e_and, e_or, e_ite, e_cmp, e_cmp2, e_lst, e_tup, e_dic, e_call, e_mk, e_bi, e_isi, e_meth, e_bm, e_icall, e_ostr, e_att, e_ix, e_sl, e_lc, t_v, t_isi, t_call, t_meth, t_bop, t_bi, t_att, t_not, t_and, t_or, t_cmp, t_cmp2, trQ_bl, blQ_bl, a_nil', a_cons, s_nil, s_cons, s_set, s_setLc, s_par, s_expr, s_ret, s_retN, s_if, s_for, s_never, s_pass, s_brk, s_cont, g_v', g_tup, g_sub, g_att, gs_nil, gs_cons, gs_tup, i_L, i_T, i_S, i_R1, i_ES, i_E, i_Z, p_nil, p_pair, o_nil, o_k, x_K, x_w, x_fn, x_gv, x_tabs, x_mth, x_prp, x_fld, x_isi, x_kwo, isi_int, isi_str, isi_bl, isi_non, ii1, ii2, ii3, ii4, ii5, ii6, ii7, r_add, r_sub, r_mul, r_div, r_mod, r_pow, r_shl, r_shr, r_and, r_or, r_xor, r_neg, r_inv, r_lt, r_le, r_gt, r_ge, r_eqI, r_neI, r_eqS, r_neS, r_inS, r_niS, List.getElem?_cons_zero, List.getElem?_cons_succ, List.set_cons_zero, List.set_cons_succ, List.map_cons, List.map_nil, List.length_cons, List.length_nil, Nat.reduceAdd, Nat.reduceSub, List.replicate_succ, List.replicate_zero, List.cons_append, List.nil_append, List.append_nil, Bool.not_true, Bool.not_false, if_true, if_false, ite_true, ite_false, Bool.false_eq_true, Bool.true_eq_false, reduceIte]
  exact x_fldv hm rfl rfl h
theorem c_number_of {t : Int} (hn : 2 ≤ n) (h0 : 0 ≤ t ∧ t ≤ 511) (h : Q (.int t) H) : run hd.pg K w n s_number_of [.int t] H Q E := by
  refine run_at f_number_of (by omega) rfl ?_
  simp only [d_number_of, b_number_of, L2.start, gv1, e_k, e_v, e_g, e_bop, e_uop, e_not, e_and, e_or, e_ite, e_cmp, e_cmp2, e_lst, e_tup, e_dic, e_call, e_mk, e_bi, e_isi, e_meth, e_bm, e_icall, e_ostr, e_att, e_ix, e_sl, e_lc, t_v, t_isi, t_call, t_meth, t_bop, t_bi, t_att, t_not, t_and, t_or, t_cmp, t_cmp2, trQ_bl, blQ_bl, a_nil', a_cons, s_nil, s_cons, s_set, s_setLc, s_par, s_expr, s_ret, s_retN, s_if, s_for, s_never, s_pass, s_brk, s_cont, g_v', g_tup, g_sub, g_att, gs_nil, gs_cons, gs_tup, i_L, i_T, i_S, i_R1, i_ES, i_E, i_Z, p_nil, p_pair, o_nil, o_k, x_K, x_w, x_fn, x_gv, x_tabs, x_mth, x_prp, x_fld, x_isi, x_kwo, isi_int, isi_str, isi_bl, isi_non, ii1, ii2, ii3, ii4, ii5, ii6, ii7, r_add, r_sub, r_mul, r_div, r_mod, r_pow, r_shl, r_shr, r_and, r_or, r_xor, r_neg, r_inv, r_lt, r_le, r_gt, r_ge, r_eqI, r_neI, r_eqS, r_neS, r_inS, r_niS, List.getElem?_cons_zero, List.getElem?_cons_succ, List.set_cons_zero, List.set_cons_succ, List.map_cons, List.map_nil, List.length_cons, List.length_nil, Nat.reduceAdd, Nat.reduceSub, List.replicate_succ, List.replicate_zero, List.cons_append, List.nil_append, List.append_nil, Bool.not_true, Bool.not_false, if_true, if_false, ite_true, ite_false, Bool.false_eq_true, Bool.true_eq_false, reduceIte]
  refine c_is_integer (by omega) ?_
  simp only [h0, decide_true, trQ_bl, e_k, e_v, e_g, e_bop, e_uop, e_not, e_and, e_or, e_ite, e_cmp, e_cmp2, e_lst, e_tup, e_dic, e_call, e_mk, e_bi, e_isi, e_meth, e_bm, e_icall, e_ostr, e_att, e_ix, e_sl, e_lc, t_v, t_isi, t_call, t_meth, t_bop, t_bi, t_att, t_not, t_and, t_or, t_cmp, t_cmp2, trQ_bl, blQ_bl, a_nil', a_cons, s_nil, s_cons, s_set, s_setLc, s_par, s_expr, s_ret, s_retN, s_if, s_for, s_never, s_pass, s_brk, s_cont, g_v', g_tup, g_sub, g_att, gs_nil, gs_cons, gs_tup, i_L, i_T, i_S, i_R1, i_ES, i_E, i_Z, p_nil, p_pair, o_nil, o_k, x_K, x_w, x_fn, x_gv, x_tabs, x_mth, x_prp, x_fld, x_isi, x_kwo, isi_int, isi_str, isi_bl, isi_non, ii1, ii2, ii3, ii4, ii5, ii6, ii7, r_add, r_sub, r_mul, r_div, r_mod, r_pow, r_shl, r_shr, r_and, r_or, r_xor, r_neg, r_inv, r_lt, r_le, r_gt, r_ge, r_eqI, r_neI, r_eqS, r_neS, r_inS, r_niS, List.getElem?_cons_zero, List.getElem?_cons_succ, List.set_cons_zero, List.set_cons_succ, List.map_cons, List.map_nil, List.length_cons, List.length_nil, Nat.reduceAdd, Nat.reduceSub, List.replicate_succ, List.replicate_zero, List.cons_append, List.nil_append, List.append_nil, Bool.not_true, Bool.not_false, if_true, if_false, ite_true, ite_false, Bool.false_eq_true, Bool.true_eq_false, reduceIte]
  simpa using h
theorem c_number_of_m {m dx : Addr} {b : Int} (hn : 2 ≤ n) (hm : H m = some (.ins (He.ga K s_Mode) dx [(s_bits, .int b)])) (h : Q (.int b) H) : run hd.pg K w n s_number_of [.ref m] H Q E := by
  refine run_at f_number_of (by omega) rfl ?_
  simp only [d_number_of, b_number_of, L2.start, gv1, e_k, e_v, e_g, e_bop, e_uop, e_not, e_and, e_or, e_ite, e_cmp, e_cmp2, e_lst, e_tup, e_dic, e_call, e_mk, e_bi, e_isi, e_meth, e_bm, e_icall, e_ostr, e_att, e_ix, e_sl, e_lc, t_v, t_isi, t_call, t_meth, t_bop, t_bi, t_att, t_not, t_and, t_or, t_cmp, t_cmp2, trQ_bl, blQ_bl, a_nil', a_cons, s_nil, s_cons, s_set, s_setLc, s_par, s_expr, s_ret, s_retN, s_if, s_for, s_never, s_pass, s_brk, s_cont, g_v', g_tup, g_sub, g_att, gs_nil, gs_cons, gs_tup, i_L, i_T, i_S, i_R1, i_ES, i_E, i_Z, p_nil, p_pair, o_nil, o_k, x_K, x_w, x_fn, x_gv, x_tabs, x_mth, x_prp, x_fld, x_isi, x_kwo, isi_int, isi_str, isi_bl, isi_non, ii1, ii2, ii3, ii4, ii5, ii6, ii7, r_add, r_sub, r_mul, r_div, r_mod, r_pow, r_shl, r_shr, r_and, r_or, r_xor, r_neg, r_inv, r_lt, r_le, r_gt, r_ge, r_eqI, r_neI, r_eqS, r_neS, r_inS, r_niS, List.getElem?_cons_zero, List.getElem?_cons_succ, List.set_cons_zero, List.set_cons_succ, List.map_cons, List.map_nil, List.length_cons, List.length_nil, Nat.reduceAdd, Nat.reduceSub, List.replicate_succ, List.replicate_zero, List.cons_append, List.nil_append, List.append_nil, Bool.not_true, Bool.not_false, if_true, if_false, ite_true, ite_false, Bool.false_eq_true, Bool.true_eq_false, reduceIte]
  refine isi_own (cn := s_Mode) (b := true) hm rfl ?_
  simp only [e_k, e_v, e_g, e_bop, e_uop, e_not, e_and, e_or, e_ite, e_cmp, e_cmp2, e_lst, e_tup, e_dic, e_call, e_mk, e_bi, e_isi, e_meth, e_bm, e_icall, e_ostr, e_att, e_ix, e_sl, e_lc, t_v, t_isi, t_call, t_meth, t_bop, t_bi, t_att, t_not, t_and, t_or, t_cmp, t_cmp2, trQ_bl, blQ_bl, a_nil', a_cons, s_nil, s_cons, s_set, s_setLc, s_par, s_expr, s_ret, s_retN, s_if, s_for, s_never, s_pass, s_brk, s_cont, g_v', g_tup, g_sub, g_att, gs_nil, gs_cons, gs_tup, i_L, i_T, i_S, i_R1, i_ES, i_E, i_Z, p_nil, p_pair, o_nil, o_k, x_K, x_w, x_fn, x_gv, x_tabs, x_mth, x_prp, x_fld, x_isi, x_kwo, isi_int, isi_str, isi_bl, isi_non, ii1, ii2, ii3, ii4, ii5, ii6, ii7, r_add, r_sub, r_mul, r_div, r_mod, r_pow, r_shl, r_shr, r_and, r_or, r_xor, r_neg, r_inv, r_lt, r_le, r_gt, r_ge, r_eqI, r_neI, r_eqS, r_neS, r_inS, r_niS, List.getElem?_cons_zero, List.getElem?_cons_succ, List.set_cons_zero, List.set_cons_succ, List.map_cons, List.map_nil, List.length_cons, List.length_nil, Nat.reduceAdd, Nat.reduceSub, List.replicate_succ, List.replicate_zero, List.cons_append, List.nil_append, List.append_nil, Bool.not_true, Bool.not_false, if_true, if_false, ite_true, ite_false, Bool.false_eq_true, Bool.true_eq_false, reduceIte]
  exact x_prpv hm rfl (c_Mode_number (by omega) hm h)
theorem gv2 : hd.pg.gv K s_PLACES = some (.ref (He.ga K s_PLACES)) := rfl
theorem tb1 : (⟨fun K => He.ga K s_PLACES, [(S [114], V.int 2), (S [119], V.int 1), (S [120], V.int 0)]⟩ : KTab) ∈ hd.pg.tabs := List.Mem.tail _ (List.Mem.head _)
theorem c_place_of {c : Nat} {p : Int} (hn : 1 ≤ n) (hc : (c, p) ∈ [(114, 2), (119, 1), (120, (0 : Int))]) (h : Q (.int p) H) : run hd.pg K w n s_place_of [.str (S [c])] H Q E := by
  refine run_at f_place_of hn rfl ?_
  simp only [d_place_of, b_place_of, L2.start, gv2, e_k, e_v, e_g, e_bop, e_uop, e_not, e_and, e_or, e_ite, e_cmp, e_cmp2, e_lst, e_tup, e_dic, e_call, e_mk, e_bi, e_isi, e_meth, e_bm, e_icall, e_ostr, e_att, e_ix, e_sl, e_lc, t_v, t_isi, t_call, t_meth, t_bop, t_bi, t_att, t_not, t_and, t_or, t_cmp, t_cmp2, trQ_bl, blQ_bl, a_nil', a_cons, s_nil, s_cons, s_set, s_setLc, s_par, s_expr, s_ret, s_retN, s_if, s_for, s_never, s_pass, s_brk, s_cont, g_v', g_tup, g_sub, g_att, gs_nil, gs_cons, gs_tup, i_L, i_T, i_S, i_R1, i_ES, i_E, i_Z, p_nil, p_pair, o_nil, o_k, x_K, x_w, x_fn, x_gv, x_tabs, x_mth, x_prp, x_fld, x_isi, x_kwo, isi_int, isi_str, isi_bl, isi_non, ii1, ii2, ii3, ii4, ii5, ii6, ii7, r_add, r_sub, r_mul, r_div, r_mod, r_pow, r_shl, r_shr, r_and, r_or, r_xor, r_neg, r_inv, r_lt, r_le, r_gt, r_ge, r_eqI, r_neI, r_eqS, r_neS, r_inS, r_niS, List.getElem?_cons_zero, List.getElem?_cons_succ, List.set_cons_zero, List.set_cons_succ, List.map_cons, List.map_nil, List.length_cons, List.length_nil, Nat.reduceAdd, Nat.reduceSub, List.replicate_succ, List.replicate_zero, List.cons_append, List.nil_append, List.append_nil, Bool.not_true, Bool.not_false, if_true, if_false, ite_true, ite_false, Bool.false_eq_true, Bool.true_eq_false, reduceIte]
  refine r_niK tb1 rfl ?_
  simp at hc
  rcases hc with ⟨rfl, rfl⟩ | ⟨rfl, rfl⟩ | ⟨rfl, rfl⟩
  all_goals
    rw [show (List.lookup _ _).isSome = true from rfl]
    simp only [e_k, e_v, e_g, e_bop, e_uop, e_not, e_and, e_or, e_ite, e_cmp, e_cmp2, e_lst, e_tup, e_dic, e_call, e_mk, e_bi, e_isi, e_meth, e_bm, e_icall, e_ostr, e_att, e_ix, e_sl, e_lc, t_v, t_isi, t_call, t_meth, t_bop, t_bi, t_att, t_not, t_and, t_or, t_cmp, t_cmp2, trQ_bl, blQ_bl, a_nil', a_cons, s_nil, s_cons, s_set, s_setLc, s_par, s_expr, s_ret, s_retN, s_if, s_for, s_never, s_pass, s_brk, s_cont, g_v', g_tup, g_sub, g_att, gs_nil, gs_cons, gs_tup, i_L, i_T, i_S, i_R1, i_ES, i_E, i_Z, p_nil, p_pair, o_nil, o_k, x_K, x_w, x_fn, x_gv, x_tabs, x_mth, x_prp, x_fld, x_isi, x_kwo, isi_int, isi_str, isi_bl, isi_non, ii1, ii2, ii3, ii4, ii5, ii6, ii7, r_add, r_sub, r_mul, r_div, r_mod, r_pow, r_shl, r_shr, r_and, r_or, r_xor, r_neg, r_inv, r_lt, r_le, r_gt, r_ge, r_eqI, r_neI, r_eqS, r_neS, r_inS, r_niS, List.getElem?_cons_zero, List.getElem?_cons_succ, List.set_cons_zero, List.set_cons_succ, List.map_cons, List.map_nil, List.length_cons, List.length_nil, Nat.reduceAdd, Nat.reduceSub, List.replicate_succ, List.replicate_zero, List.cons_append, List.nil_append, List.append_nil, Bool.not_true, Bool.not_false, if_true, if_false, ite_true, ite_false, Bool.false_eq_true, Bool.true_eq_false, reduceIte]
    exact x_ixK tb1 rfl rfl h
/-- what pattern_bits adds up -/
def pbI (pl pat : Int) : Int := Builtin.bitAnd pat 1 * 2 ^ pl.toNat + (Builtin.bitAnd (pat / 2) 1 * 2 ^ (3 + pl).toNat + Builtin.bitAnd (pat / 4) 1 * 2 ^ (6 + pl).toNat)
theorem and1 (x : Int) : CPow (Builtin.bitAnd x 1) y ↔ 0 ≤ y ∧ y ≤ 1000000 := by
  have h := bitAnd_range x (show (0 : Int) ≤ 1 by decide)
  unfold CPow
  constructor
  · exact fun h => ⟨h.1, h.2.1⟩
  · exact fun k => ⟨k.1, k.2, by omega⟩
theorem c_pattern_bits {pl pat : Int} (hn : 1 ≤ n) (hp : 0 ≤ pl ∧ pl ≤ 2) (h : ∀ H', Ext H H' → Q (.int (pbI pl pat)) H') : run hd.pg K w n s_pattern_bits [.int pl, .int pat] H Q E := by
  refine run_at f_pattern_bits hn rfl ?_
  simp only [d_pattern_bits, b_pattern_bits, L2.start, e_k, e_v, e_g, e_bop, e_uop, e_not, e_and, e_or, e_ite, e_cmp, e_cmp2, e_lst, e_tup, e_dic, e_call, e_mk, e_bi, e_isi, e_meth, e_bm, e_icall, e_ostr, e_att, e_ix, e_sl, e_lc, t_v, t_isi, t_call, t_meth, t_bop, t_bi, t_att, t_not, t_and, t_or, t_cmp, t_cmp2, trQ_bl, blQ_bl, a_nil', a_cons, s_nil, s_cons, s_set, s_setLc, s_par, s_expr, s_ret, s_retN, s_if, s_for, s_never, s_pass, s_brk, s_cont, g_v', g_tup, g_sub, g_att, gs_nil, gs_cons, gs_tup, i_L, i_T, i_S, i_R1, i_ES, i_E, i_Z, p_nil, p_pair, o_nil, o_k, x_K, x_w, x_fn, x_gv, x_tabs, x_mth, x_prp, x_fld, x_isi, x_kwo, isi_int, isi_str, isi_bl, isi_non, ii1, ii2, ii3, ii4, ii5, ii6, ii7, r_add, r_sub, r_mul, r_div, r_mod, r_pow, r_shl, r_shr, r_and, r_or, r_xor, r_neg, r_inv, r_lt, r_le, r_gt, r_ge, r_eqI, r_neI, r_eqS, r_neS, r_inS, r_niS, List.getElem?_cons_zero, List.getElem?_cons_succ, List.set_cons_zero, List.set_cons_succ, List.map_cons, List.map_nil, List.length_cons, List.length_nil, Nat.reduceAdd, Nat.reduceSub, List.replicate_succ, List.replicate_zero, List.cons_append, List.nil_append, List.append_nil, Bool.not_true, Bool.not_false, if_true, if_false, ite_true, ite_false, Bool.false_eq_true, Bool.true_eq_false, reduceIte]
  refine ⟨by decide, by decide, fun Dl hD => ?_⟩
  rw [show (List.range (3 : Int).toNat) = [0, 1, 2] from rfl]
  simp only [for_nil, for_v, for_t, lc_nil, lc_v, lc_t, lc_turn0, lc_turn1, wipe_nil, wipe_cons, true_and, and_true, upd_same, upd_upd, Option.some.injEq, HO.lst.injEq, HO.tup.injEq, HO.dK.injEq, exists_eq_left', List.singleton_append, Int.cast_ofNat_Int, and1, e_k, e_v, e_g, e_bop, e_uop, e_not, e_and, e_or, e_ite, e_cmp, e_cmp2, e_lst, e_tup, e_dic, e_call, e_mk, e_bi, e_isi, e_meth, e_bm, e_icall, e_ostr, e_att, e_ix, e_sl, e_lc, t_v, t_isi, t_call, t_meth, t_bop, t_bi, t_att, t_not, t_and, t_or, t_cmp, t_cmp2, trQ_bl, blQ_bl, a_nil', a_cons, s_nil, s_cons, s_set, s_setLc, s_par, s_expr, s_ret, s_retN, s_if, s_for, s_never, s_pass, s_brk, s_cont, g_v', g_tup, g_sub, g_att, gs_nil, gs_cons, gs_tup, i_L, i_T, i_S, i_R1, i_ES, i_E, i_Z, p_nil, p_pair, o_nil, o_k, x_K, x_w, x_fn, x_gv, x_tabs, x_mth, x_prp, x_fld, x_isi, x_kwo, isi_int, isi_str, isi_bl, isi_non, ii1, ii2, ii3, ii4, ii5, ii6, ii7, r_add, r_sub, r_mul, r_div, r_mod, r_pow, r_shl, r_shr, r_and, r_or, r_xor, r_neg, r_inv, r_lt, r_le, r_gt, r_ge, r_eqI, r_neI, r_eqS, r_neS, r_inS, r_niS, List.getElem?_cons_zero, List.getElem?_cons_succ, List.set_cons_zero, List.set_cons_succ, List.map_cons, List.map_nil, List.length_cons, List.length_nil, Nat.reduceAdd, Nat.reduceSub, List.replicate_succ, List.replicate_zero, List.cons_append, List.nil_append, List.append_nil, Bool.not_true, Bool.not_false, if_true, if_false, ite_true, ite_false, Bool.false_eq_true, Bool.true_eq_false, reduceIte]
  refine ⟨by decide, .inl (by unfold CMul; decide), by omega, by decide, by decide, .inl (by unfold CMul; decide), by omega, by decide, by decide, .inl (by unfold CMul; decide), by omega, by decide, ?_⟩
  refine ⟨[_, _, _], .inl (.inl upd_same), ?_⟩
  have e : List.sum [Builtin.bitAnd (pat / 2 ^ Int.toNat 0) 1 * 2 ^ (3 * 0 + pl).toNat, Builtin.bitAnd (pat / 2 ^ Int.toNat 1) 1 * 2 ^ (3 * 1 + pl).toNat, Builtin.bitAnd (pat / 2 ^ Int.toNat 2) 1 * 2 ^ (3 * 2 + pl).toNat] = pbI pl pat := by
    simp [pbI]
  rw [e]
  exact h _ (Ext.new hD)
end U

namespace U
open PySem PySem.Spec PyProof.Rows L2
variable {K : PySem.W.Frag} {w : World} {n : Nat} {H : Hp} {Q : VK} {E : XK}
def IsM (K : PySem.W.Frag) (H : Hp) (m : Addr) (b : Int) : Prop := ∃ dx, H m = some (.ins (He.ga K s_Mode) dx [(s_bits, .int b)])
theorem IsM.ext {H' : Hp} {m : Addr} {b : Int} (h : IsM K H m b) (x : Ext H H') : IsM K H' m b := by
  obtain ⟨dx, h⟩ := h
  exact ⟨dx, x.get h⟩
theorem mth1 : hd.pg.mth s_Mode "__init__" = some s_Mode___init__ := by decide +kernel
theorem mk_Mode {Q' : Addr → Hp → Prop} {b : Int} (hn : 2 ≤ n) (hb : 0 ≤ b ∧ b ≤ 511) (h : ∀ x H', Ext H H' → IsM K H' x b → Q' x H') :
    ∀ x dx, H x = none → H dx = none → dx ≠ x → ∃ key, hd.pg.mth s_Mode "__init__" = some key ∧ run hd.pg K w n key [.ref x, .int b] (upd (upd H dx (.own x)) x (.ins (He.ga K s_Mode) dx [])) (fun v H2 => v = .non ∧ Q' x H2) E := by
  intro x dx hx hdx hne
  refine ⟨_, mth1, ?_⟩
  refine run_at f_Mode___init__ (by omega) rfl ?_
  simp only [d_Mode___init__, b_Mode___init__, L2.start, gv1, e_k, e_v, e_g, e_bop, e_uop, e_not, e_and, e_or, e_ite, e_cmp, e_cmp2, e_lst, e_tup, e_dic, e_call, e_mk, e_bi, e_isi, e_meth, e_bm, e_icall, e_ostr, e_att, e_ix, e_sl, e_lc, t_v, t_isi, t_call, t_meth, t_bop, t_bi, t_att, t_not, t_and, t_or, t_cmp, t_cmp2, trQ_bl, blQ_bl, a_nil', a_cons, s_nil, s_cons, s_set, s_setLc, s_par, s_expr, s_ret, s_retN, s_if, s_for, s_never, s_pass, s_brk, s_cont, g_v', g_tup, g_sub, g_att, gs_nil, gs_cons, gs_tup, i_L, i_T, i_S, i_R1, i_ES, i_E, i_Z, p_nil, p_pair, o_nil, o_k, x_K, x_w, x_fn, x_gv, x_tabs, x_mth, x_prp, x_fld, x_isi, x_kwo, isi_int, isi_str, isi_bl, isi_non, ii1, ii2, ii3, ii4, ii5, ii6, ii7, r_add, r_sub, r_mul, r_div, r_mod, r_pow, r_shl, r_shr, r_and, r_or, r_xor, r_neg, r_inv, r_lt, r_le, r_gt, r_ge, r_eqI, r_neI, r_eqS, r_neS, r_inS, r_niS, List.getElem?_cons_zero, List.getElem?_cons_succ, List.set_cons_zero, List.set_cons_succ, List.map_cons, List.map_nil, List.length_cons, List.length_nil, Nat.reduceAdd, Nat.reduceSub, List.replicate_succ, List.replicate_zero, List.cons_append, List.nil_append, List.append_nil, Bool.not_true, Bool.not_false, if_true, if_false, ite_true, ite_false, Bool.false_eq_true, Bool.true_eq_false, reduceIte]
  refine c_is_integer (by omega) ?_
  simp only [hb, decide_true, true_and, and_true, upd_same, upd_upd, Option.some.injEq, HO.lst.injEq, HO.tup.injEq, HO.dK.injEq, exists_eq_left', List.singleton_append, Int.cast_ofNat_Int, e_k, e_v, e_g, e_bop, e_uop, e_not, e_and, e_or, e_ite, e_cmp, e_cmp2, e_lst, e_tup, e_dic, e_call, e_mk, e_bi, e_isi, e_meth, e_bm, e_icall, e_ostr, e_att, e_ix, e_sl, e_lc, t_v, t_isi, t_call, t_meth, t_bop, t_bi, t_att, t_not, t_and, t_or, t_cmp, t_cmp2, trQ_bl, blQ_bl, a_nil', a_cons, s_nil, s_cons, s_set, s_setLc, s_par, s_expr, s_ret, s_retN, s_if, s_for, s_never, s_pass, s_brk, s_cont, g_v', g_tup, g_sub, g_att, gs_nil, gs_cons, gs_tup, i_L, i_T, i_S, i_R1, i_ES, i_E, i_Z, p_nil, p_pair, o_nil, o_k, x_K, x_w, x_fn, x_gv, x_tabs, x_mth, x_prp, x_fld, x_isi, x_kwo, isi_int, isi_str, isi_bl, isi_non, ii1, ii2, ii3, ii4, ii5, ii6, ii7, r_add, r_sub, r_mul, r_div, r_mod, r_pow, r_shl, r_shr, r_and, r_or, r_xor, r_neg, r_inv, r_lt, r_le, r_gt, r_ge, r_eqI, r_neI, r_eqS, r_neS, r_inS, r_niS, List.getElem?_cons_zero, List.getElem?_cons_succ, List.set_cons_zero, List.set_cons_succ, List.map_cons, List.map_nil, List.length_cons, List.length_nil, Nat.reduceAdd, Nat.reduceSub, List.replicate_succ, List.replicate_zero, List.cons_append, List.nil_append, List.append_nil, Bool.not_true, Bool.not_false, if_true, if_false, ite_true, ite_false, Bool.false_eq_true, Bool.true_eq_false, reduceIte]
  refine ⟨s_Mode, dx, [], rfl, rfl, by decide, ?_⟩
  refine h x _ ?_ ⟨dx, upd_same⟩
  exact fun a o e => by
    rw [upd_ne (ne_of_none e hx), upd_ne (ne_of_none e hdx)]
    exact e
/-- what pattern tells -/
def patI (b pl : Int) : Int := Builtin.bitAnd (b / 2 ^ pl.toNat) 1 + (Builtin.bitAnd (b / 2 ^ (3 + pl).toNat) 1 * 2 + Builtin.bitAnd (b / 2 ^ (6 + pl).toNat) 1 * 4)
theorem c_pattern {m : Addr} {b : Int} {c : Nat} {p : Int} (hn : 2 ≤ n) (hm : IsM K H m b) (hc : (c, p) ∈ [(114, 2), (119, 1), (120, (0 : Int))]) (h : ∀ H', Ext H H' → Q (.int (patI b p)) H') : run hd.pg K w n s_Mode_pattern [.ref m, .str (S [c])] H Q E := by
  obtain ⟨dx, hm⟩ := hm
  refine run_at f_Mode_pattern (by omega) rfl ?_
  simp only [d_Mode_pattern, b_Mode_pattern, L2.start, e_k, e_v, e_g, e_bop, e_uop, e_not, e_and, e_or, e_ite, e_cmp, e_cmp2, e_lst, e_tup, e_dic, e_call, e_mk, e_bi, e_isi, e_meth, e_bm, e_icall, e_ostr, e_att, e_ix, e_sl, e_lc, t_v, t_isi, t_call, t_meth, t_bop, t_bi, t_att, t_not, t_and, t_or, t_cmp, t_cmp2, trQ_bl, blQ_bl, a_nil', a_cons, s_nil, s_cons, s_set, s_setLc, s_par, s_expr, s_ret, s_retN, s_if, s_for, s_never, s_pass, s_brk, s_cont, g_v', g_tup, g_sub, g_att, gs_nil, gs_cons, gs_tup, i_L, i_T, i_S, i_R1, i_ES, i_E, i_Z, p_nil, p_pair, o_nil, o_k, x_K, x_w, x_fn, x_gv, x_tabs, x_mth, x_prp, x_fld, x_isi, x_kwo, isi_int, isi_str, isi_bl, isi_non, ii1, ii2, ii3, ii4, ii5, ii6, ii7, r_add, r_sub, r_mul, r_div, r_mod, r_pow, r_shl, r_shr, r_and, r_or, r_xor, r_neg, r_inv, r_lt, r_le, r_gt, r_ge, r_eqI, r_neI, r_eqS, r_neS, r_inS, r_niS, List.getElem?_cons_zero, List.getElem?_cons_succ, List.set_cons_zero, List.set_cons_succ, List.map_cons, List.map_nil, List.length_cons, List.length_nil, Nat.reduceAdd, Nat.reduceSub, List.replicate_succ, List.replicate_zero, List.cons_append, List.nil_append, List.append_nil, Bool.not_true, Bool.not_false, if_true, if_false, ite_true, ite_false, Bool.false_eq_true, Bool.true_eq_false, reduceIte]
  refine c_place_of (by omega) hc ?_
  have hp : 0 ≤ p ∧ p ≤ 2 := by
    simp at hc
    omega
  try simp only [for_nil, for_v, for_t, lc_nil, lc_v, lc_t, lc_turn0, lc_turn1, wipe_nil, wipe_cons, true_and, and_true, upd_same, upd_upd, Option.some.injEq, HO.lst.injEq, HO.tup.injEq, HO.dK.injEq, exists_eq_left', List.singleton_append, Int.cast_ofNat_Int, and1, e_k, e_v, e_g, e_bop, e_uop, e_not, e_and, e_or, e_ite, e_cmp, e_cmp2, e_lst, e_tup, e_dic, e_call, e_mk, e_bi, e_isi, e_meth, e_bm, e_icall, e_ostr, e_att, e_ix, e_sl, e_lc, t_v, t_isi, t_call, t_meth, t_bop, t_bi, t_att, t_not, t_and, t_or, t_cmp, t_cmp2, trQ_bl, blQ_bl, a_nil', a_cons, s_nil, s_cons, s_set, s_setLc, s_par, s_expr, s_ret, s_retN, s_if, s_for, s_never, s_pass, s_brk, s_cont, g_v', g_tup, g_sub, g_att, gs_nil, gs_cons, gs_tup, i_L, i_T, i_S, i_R1, i_ES, i_E, i_Z, p_nil, p_pair, o_nil, o_k, x_K, x_w, x_fn, x_gv, x_tabs, x_mth, x_prp, x_fld, x_isi, x_kwo, isi_int, isi_str, isi_bl, isi_non, ii1, ii2, ii3, ii4, ii5, ii6, ii7, r_add, r_sub, r_mul, r_div, r_mod, r_pow, r_shl, r_shr, r_and, r_or, r_xor, r_neg, r_inv, r_lt, r_le, r_gt, r_ge, r_eqI, r_neI, r_eqS, r_neS, r_inS, r_niS, List.getElem?_cons_zero, List.getElem?_cons_succ, List.set_cons_zero, List.set_cons_succ, List.map_cons, List.map_nil, List.length_cons, List.length_nil, Nat.reduceAdd, Nat.reduceSub, List.replicate_succ, List.replicate_zero, List.cons_append, List.nil_append, List.append_nil, Bool.not_true, Bool.not_false, if_true, if_false, ite_true, ite_false, Bool.false_eq_true, Bool.true_eq_false, reduceIte]
  refine ⟨by decide, by decide, fun Dl hD => ?_⟩
  rw [show (List.range (3 : Int).toNat) = [0, 1, 2] from rfl]
  have hm2 : ∀ o, upd H Dl o m = some (.ins (He.ga K s_Mode) dx [(s_bits, .int b)]) := fun o => upd_get hm hD
  try simp only [for_nil, for_v, for_t, lc_nil, lc_v, lc_t, lc_turn0, lc_turn1, wipe_nil, wipe_cons, true_and, and_true, upd_same, upd_upd, Option.some.injEq, HO.lst.injEq, HO.tup.injEq, HO.dK.injEq, exists_eq_left', List.singleton_append, Int.cast_ofNat_Int, and1, e_k, e_v, e_g, e_bop, e_uop, e_not, e_and, e_or, e_ite, e_cmp, e_cmp2, e_lst, e_tup, e_dic, e_call, e_mk, e_bi, e_isi, e_meth, e_bm, e_icall, e_ostr, e_att, e_ix, e_sl, e_lc, t_v, t_isi, t_call, t_meth, t_bop, t_bi, t_att, t_not, t_and, t_or, t_cmp, t_cmp2, trQ_bl, blQ_bl, a_nil', a_cons, s_nil, s_cons, s_set, s_setLc, s_par, s_expr, s_ret, s_retN, s_if, s_for, s_never, s_pass, s_brk, s_cont, g_v', g_tup, g_sub, g_att, gs_nil, gs_cons, gs_tup, i_L, i_T, i_S, i_R1, i_ES, i_E, i_Z, p_nil, p_pair, o_nil, o_k, x_K, x_w, x_fn, x_gv, x_tabs, x_mth, x_prp, x_fld, x_isi, x_kwo, isi_int, isi_str, isi_bl, isi_non, ii1, ii2, ii3, ii4, ii5, ii6, ii7, r_add, r_sub, r_mul, r_div, r_mod, r_pow, r_shl, r_shr, r_and, r_or, r_xor, r_neg, r_inv, r_lt, r_le, r_gt, r_ge, r_eqI, r_neI, r_eqS, r_neS, r_inS, r_niS, List.getElem?_cons_zero, List.getElem?_cons_succ, List.set_cons_zero, List.set_cons_succ, List.map_cons, List.map_nil, List.length_cons, List.length_nil, Nat.reduceAdd, Nat.reduceSub, List.replicate_succ, List.replicate_zero, List.cons_append, List.nil_append, List.append_nil, Bool.not_true, Bool.not_false, if_true, if_false, ite_true, ite_false, Bool.false_eq_true, Bool.true_eq_false, reduceIte]
  refine x_fldv (hm2 _) rfl rfl ?_
  try simp only [for_nil, for_v, for_t, lc_nil, lc_v, lc_t, lc_turn0, lc_turn1, wipe_nil, wipe_cons, true_and, and_true, upd_same, upd_upd, Option.some.injEq, HO.lst.injEq, HO.tup.injEq, HO.dK.injEq, exists_eq_left', List.singleton_append, Int.cast_ofNat_Int, and1, e_k, e_v, e_g, e_bop, e_uop, e_not, e_and, e_or, e_ite, e_cmp, e_cmp2, e_lst, e_tup, e_dic, e_call, e_mk, e_bi, e_isi, e_meth, e_bm, e_icall, e_ostr, e_att, e_ix, e_sl, e_lc, t_v, t_isi, t_call, t_meth, t_bop, t_bi, t_att, t_not, t_and, t_or, t_cmp, t_cmp2, trQ_bl, blQ_bl, a_nil', a_cons, s_nil, s_cons, s_set, s_setLc, s_par, s_expr, s_ret, s_retN, s_if, s_for, s_never, s_pass, s_brk, s_cont, g_v', g_tup, g_sub, g_att, gs_nil, gs_cons, gs_tup, i_L, i_T, i_S, i_R1, i_ES, i_E, i_Z, p_nil, p_pair, o_nil, o_k, x_K, x_w, x_fn, x_gv, x_tabs, x_mth, x_prp, x_fld, x_isi, x_kwo, isi_int, isi_str, isi_bl, isi_non, ii1, ii2, ii3, ii4, ii5, ii6, ii7, r_add, r_sub, r_mul, r_div, r_mod, r_pow, r_shl, r_shr, r_and, r_or, r_xor, r_neg, r_inv, r_lt, r_le, r_gt, r_ge, r_eqI, r_neI, r_eqS, r_neS, r_inS, r_niS, List.getElem?_cons_zero, List.getElem?_cons_succ, List.set_cons_zero, List.set_cons_succ, List.map_cons, List.map_nil, List.length_cons, List.length_nil, Nat.reduceAdd, Nat.reduceSub, List.replicate_succ, List.replicate_zero, List.cons_append, List.nil_append, List.append_nil, Bool.not_true, Bool.not_false, if_true, if_false, ite_true, ite_false, Bool.false_eq_true, Bool.true_eq_false, reduceIte]
  refine ⟨.inl (by unfold CMul; decide), by omega, by decide, by decide, ?_⟩
  refine x_fldv (hm2 _) rfl rfl ?_
  try simp only [for_nil, for_v, for_t, lc_nil, lc_v, lc_t, lc_turn0, lc_turn1, wipe_nil, wipe_cons, true_and, and_true, upd_same, upd_upd, Option.some.injEq, HO.lst.injEq, HO.tup.injEq, HO.dK.injEq, exists_eq_left', List.singleton_append, Int.cast_ofNat_Int, and1, e_k, e_v, e_g, e_bop, e_uop, e_not, e_and, e_or, e_ite, e_cmp, e_cmp2, e_lst, e_tup, e_dic, e_call, e_mk, e_bi, e_isi, e_meth, e_bm, e_icall, e_ostr, e_att, e_ix, e_sl, e_lc, t_v, t_isi, t_call, t_meth, t_bop, t_bi, t_att, t_not, t_and, t_or, t_cmp, t_cmp2, trQ_bl, blQ_bl, a_nil', a_cons, s_nil, s_cons, s_set, s_setLc, s_par, s_expr, s_ret, s_retN, s_if, s_for, s_never, s_pass, s_brk, s_cont, g_v', g_tup, g_sub, g_att, gs_nil, gs_cons, gs_tup, i_L, i_T, i_S, i_R1, i_ES, i_E, i_Z, p_nil, p_pair, o_nil, o_k, x_K, x_w, x_fn, x_gv, x_tabs, x_mth, x_prp, x_fld, x_isi, x_kwo, isi_int, isi_str, isi_bl, isi_non, ii1, ii2, ii3, ii4, ii5, ii6, ii7, r_add, r_sub, r_mul, r_div, r_mod, r_pow, r_shl, r_shr, r_and, r_or, r_xor, r_neg, r_inv, r_lt, r_le, r_gt, r_ge, r_eqI, r_neI, r_eqS, r_neS, r_inS, r_niS, List.getElem?_cons_zero, List.getElem?_cons_succ, List.set_cons_zero, List.set_cons_succ, List.map_cons, List.map_nil, List.length_cons, List.length_nil, Nat.reduceAdd, Nat.reduceSub, List.replicate_succ, List.replicate_zero, List.cons_append, List.nil_append, List.append_nil, Bool.not_true, Bool.not_false, if_true, if_false, ite_true, ite_false, Bool.false_eq_true, Bool.true_eq_false, reduceIte]
  refine ⟨.inl (by unfold CMul; decide), by omega, by decide, by decide, ?_⟩
  refine x_fldv (hm2 _) rfl rfl ?_
  try simp only [for_nil, for_v, for_t, lc_nil, lc_v, lc_t, lc_turn0, lc_turn1, wipe_nil, wipe_cons, true_and, and_true, upd_same, upd_upd, Option.some.injEq, HO.lst.injEq, HO.tup.injEq, HO.dK.injEq, exists_eq_left', List.singleton_append, Int.cast_ofNat_Int, and1, e_k, e_v, e_g, e_bop, e_uop, e_not, e_and, e_or, e_ite, e_cmp, e_cmp2, e_lst, e_tup, e_dic, e_call, e_mk, e_bi, e_isi, e_meth, e_bm, e_icall, e_ostr, e_att, e_ix, e_sl, e_lc, t_v, t_isi, t_call, t_meth, t_bop, t_bi, t_att, t_not, t_and, t_or, t_cmp, t_cmp2, trQ_bl, blQ_bl, a_nil', a_cons, s_nil, s_cons, s_set, s_setLc, s_par, s_expr, s_ret, s_retN, s_if, s_for, s_never, s_pass, s_brk, s_cont, g_v', g_tup, g_sub, g_att, gs_nil, gs_cons, gs_tup, i_L, i_T, i_S, i_R1, i_ES, i_E, i_Z, p_nil, p_pair, o_nil, o_k, x_K, x_w, x_fn, x_gv, x_tabs, x_mth, x_prp, x_fld, x_isi, x_kwo, isi_int, isi_str, isi_bl, isi_non, ii1, ii2, ii3, ii4, ii5, ii6, ii7, r_add, r_sub, r_mul, r_div, r_mod, r_pow, r_shl, r_shr, r_and, r_or, r_xor, r_neg, r_inv, r_lt, r_le, r_gt, r_ge, r_eqI, r_neI, r_eqS, r_neS, r_inS, r_niS, List.getElem?_cons_zero, List.getElem?_cons_succ, List.set_cons_zero, List.set_cons_succ, List.map_cons, List.map_nil, List.length_cons, List.length_nil, Nat.reduceAdd, Nat.reduceSub, List.replicate_succ, List.replicate_zero, List.cons_append, List.nil_append, List.append_nil, Bool.not_true, Bool.not_false, if_true, if_false, ite_true, ite_false, Bool.false_eq_true, Bool.true_eq_false, reduceIte]
  refine ⟨.inl (by unfold CMul; decide), by omega, by decide, by decide, ?_⟩
  refine ⟨[_, _, _], .inl (.inl upd_same), ?_⟩
  have e : List.sum [Builtin.bitAnd (b / 2 ^ (3 * 0 + p).toNat) 1 * 2 ^ Int.toNat 0, Builtin.bitAnd (b / 2 ^ (3 * 1 + p).toNat) 1 * 2 ^ Int.toNat 1, Builtin.bitAnd (b / 2 ^ (3 * 2 + p).toNat) 1 * 2 ^ Int.toNat 2] = patI b p := by
    simp [patI]
  rw [e]
  exact h _ (Ext.new hD)
def wpI (b pl pat : Int) : Int := Builtin.bitOr (Builtin.bitAnd b (Builtin.bitNot (pbI pl 7))) (pbI pl pat)
theorem wp_ok : ∀ b : Nat, b < 512 → ∀ pl : Nat, pl < 3 → ∀ pat : Nat, pat < 8 → 0 ≤ wpI b pl pat ∧ wpI b pl pat ≤ 511 := by decide +kernel
theorem wp_range {b pl pat : Int} (h1 : 0 ≤ b ∧ b ≤ 511) (h2 : 0 ≤ pl ∧ pl ≤ 2) (h3 : 0 ≤ pat ∧ pat ≤ 7) : 0 ≤ wpI b pl pat ∧ wpI b pl pat ≤ 511 := by
  have h := wp_ok b.toNat (by omega) pl.toNat (by omega) pat.toNat (by omega)
  rwa [Int.toNat_of_nonneg h1.1, Int.toNat_of_nonneg h2.1, Int.toNat_of_nonneg h3.1] at h
theorem c_with_pattern {m : Addr} {b : Int} {c : Nat} {p pat : Int} (hn : 3 ≤ n) (hm : IsM K H m b) (hb : 0 ≤ b ∧ b ≤ 511) (hc : (c, p) ∈ [(114, 2), (119, 1), (120, (0 : Int))]) (ht : 0 ≤ pat ∧ pat ≤ 7)
    (h : ∀ x H', Ext H H' → IsM K H' x (wpI b p pat) → Q (.ref x) H') : run hd.pg K w n s_Mode_with_pattern [.ref m, .str (S [c]), .int pat] H Q E := by
  refine run_at f_Mode_with_pattern (by omega) rfl ?_
  simp only [d_Mode_with_pattern, b_Mode_with_pattern, L2.start, e_k, e_v, e_g, e_bop, e_uop, e_not, e_and, e_or, e_ite, e_cmp, e_cmp2, e_lst, e_tup, e_dic, e_call, e_mk, e_bi, e_isi, e_meth, e_bm, e_icall, e_ostr, e_att, e_ix, e_sl, e_lc, t_v, t_isi, t_call, t_meth, t_bop, t_bi, t_att, t_not, t_and, t_or, t_cmp, t_cmp2, trQ_bl, blQ_bl, a_nil', a_cons, s_nil, s_cons, s_set, s_setLc, s_par, s_expr, s_ret, s_retN, s_if, s_for, s_never, s_pass, s_brk, s_cont, g_v', g_tup, g_sub, g_att, gs_nil, gs_cons, gs_tup, i_L, i_T, i_S, i_R1, i_ES, i_E, i_Z, p_nil, p_pair, o_nil, o_k, x_K, x_w, x_fn, x_gv, x_tabs, x_mth, x_prp, x_fld, x_isi, x_kwo, isi_int, isi_str, isi_bl, isi_non, ii1, ii2, ii3, ii4, ii5, ii6, ii7, r_add, r_sub, r_mul, r_div, r_mod, r_pow, r_shl, r_shr, r_and, r_or, r_xor, r_neg, r_inv, r_lt, r_le, r_gt, r_ge, r_eqI, r_neI, r_eqS, r_neS, r_inS, r_niS, List.getElem?_cons_zero, List.getElem?_cons_succ, List.set_cons_zero, List.set_cons_succ, List.map_cons, List.map_nil, List.length_cons, List.length_nil, Nat.reduceAdd, Nat.reduceSub, List.replicate_succ, List.replicate_zero, List.cons_append, List.nil_append, List.append_nil, Bool.not_true, Bool.not_false, if_true, if_false, ite_true, ite_false, Bool.false_eq_true, Bool.true_eq_false, reduceIte]
  refine c_place_of (by omega) hc ?_
  have hp : 0 ≤ p ∧ p ≤ 2 := by
    simp at hc
    omega
  try simp only [for_nil, for_v, for_t, lc_nil, lc_v, lc_t, lc_turn0, lc_turn1, wipe_nil, wipe_cons, true_and, and_true, upd_same, upd_upd, Option.some.injEq, HO.lst.injEq, HO.tup.injEq, HO.dK.injEq, exists_eq_left', List.singleton_append, Int.cast_ofNat_Int, and1, e_k, e_v, e_g, e_bop, e_uop, e_not, e_and, e_or, e_ite, e_cmp, e_cmp2, e_lst, e_tup, e_dic, e_call, e_mk, e_bi, e_isi, e_meth, e_bm, e_icall, e_ostr, e_att, e_ix, e_sl, e_lc, t_v, t_isi, t_call, t_meth, t_bop, t_bi, t_att, t_not, t_and, t_or, t_cmp, t_cmp2, trQ_bl, blQ_bl, a_nil', a_cons, s_nil, s_cons, s_set, s_setLc, s_par, s_expr, s_ret, s_retN, s_if, s_for, s_never, s_pass, s_brk, s_cont, g_v', g_tup, g_sub, g_att, gs_nil, gs_cons, gs_tup, i_L, i_T, i_S, i_R1, i_ES, i_E, i_Z, p_nil, p_pair, o_nil, o_k, x_K, x_w, x_fn, x_gv, x_tabs, x_mth, x_prp, x_fld, x_isi, x_kwo, isi_int, isi_str, isi_bl, isi_non, ii1, ii2, ii3, ii4, ii5, ii6, ii7, r_add, r_sub, r_mul, r_div, r_mod, r_pow, r_shl, r_shr, r_and, r_or, r_xor, r_neg, r_inv, r_lt, r_le, r_gt, r_ge, r_eqI, r_neI, r_eqS, r_neS, r_inS, r_niS, List.getElem?_cons_zero, List.getElem?_cons_succ, List.set_cons_zero, List.set_cons_succ, List.map_cons, List.map_nil, List.length_cons, List.length_nil, Nat.reduceAdd, Nat.reduceSub, List.replicate_succ, List.replicate_zero, List.cons_append, List.nil_append, List.append_nil, Bool.not_true, Bool.not_false, if_true, if_false, ite_true, ite_false, Bool.false_eq_true, Bool.true_eq_false, reduceIte]
  refine c_is_integer (by omega) ?_
  simp only [ht, decide_true, true_and, and_true, upd_same, upd_upd, Option.some.injEq, HO.lst.injEq, HO.tup.injEq, HO.dK.injEq, exists_eq_left', List.singleton_append, Int.cast_ofNat_Int, e_k, e_v, e_g, e_bop, e_uop, e_not, e_and, e_or, e_ite, e_cmp, e_cmp2, e_lst, e_tup, e_dic, e_call, e_mk, e_bi, e_isi, e_meth, e_bm, e_icall, e_ostr, e_att, e_ix, e_sl, e_lc, t_v, t_isi, t_call, t_meth, t_bop, t_bi, t_att, t_not, t_and, t_or, t_cmp, t_cmp2, trQ_bl, blQ_bl, a_nil', a_cons, s_nil, s_cons, s_set, s_setLc, s_par, s_expr, s_ret, s_retN, s_if, s_for, s_never, s_pass, s_brk, s_cont, g_v', g_tup, g_sub, g_att, gs_nil, gs_cons, gs_tup, i_L, i_T, i_S, i_R1, i_ES, i_E, i_Z, p_nil, p_pair, o_nil, o_k, x_K, x_w, x_fn, x_gv, x_tabs, x_mth, x_prp, x_fld, x_isi, x_kwo, isi_int, isi_str, isi_bl, isi_non, ii1, ii2, ii3, ii4, ii5, ii6, ii7, r_add, r_sub, r_mul, r_div, r_mod, r_pow, r_shl, r_shr, r_and, r_or, r_xor, r_neg, r_inv, r_lt, r_le, r_gt, r_ge, r_eqI, r_neI, r_eqS, r_neS, r_inS, r_niS, List.getElem?_cons_zero, List.getElem?_cons_succ, List.set_cons_zero, List.set_cons_succ, List.map_cons, List.map_nil, List.length_cons, List.length_nil, Nat.reduceAdd, Nat.reduceSub, List.replicate_succ, List.replicate_zero, List.cons_append, List.nil_append, List.append_nil, Bool.not_true, Bool.not_false, if_true, if_false, ite_true, ite_false, Bool.false_eq_true, Bool.true_eq_false, reduceIte]
  obtain ⟨dx, hm0⟩ := hm
  refine x_fldv hm0 rfl rfl ?_
  refine c_pattern_bits (by omega) hp fun H1 x1 => ?_
  try simp only [for_nil, for_v, for_t, lc_nil, lc_v, lc_t, lc_turn0, lc_turn1, wipe_nil, wipe_cons, true_and, and_true, upd_same, upd_upd, Option.some.injEq, HO.lst.injEq, HO.tup.injEq, HO.dK.injEq, exists_eq_left', List.singleton_append, Int.cast_ofNat_Int, and1, e_k, e_v, e_g, e_bop, e_uop, e_not, e_and, e_or, e_ite, e_cmp, e_cmp2, e_lst, e_tup, e_dic, e_call, e_mk, e_bi, e_isi, e_meth, e_bm, e_icall, e_ostr, e_att, e_ix, e_sl, e_lc, t_v, t_isi, t_call, t_meth, t_bop, t_bi, t_att, t_not, t_and, t_or, t_cmp, t_cmp2, trQ_bl, blQ_bl, a_nil', a_cons, s_nil, s_cons, s_set, s_setLc, s_par, s_expr, s_ret, s_retN, s_if, s_for, s_never, s_pass, s_brk, s_cont, g_v', g_tup, g_sub, g_att, gs_nil, gs_cons, gs_tup, i_L, i_T, i_S, i_R1, i_ES, i_E, i_Z, p_nil, p_pair, o_nil, o_k, x_K, x_w, x_fn, x_gv, x_tabs, x_mth, x_prp, x_fld, x_isi, x_kwo, isi_int, isi_str, isi_bl, isi_non, ii1, ii2, ii3, ii4, ii5, ii6, ii7, r_add, r_sub, r_mul, r_div, r_mod, r_pow, r_shl, r_shr, r_and, r_or, r_xor, r_neg, r_inv, r_lt, r_le, r_gt, r_ge, r_eqI, r_neI, r_eqS, r_neS, r_inS, r_niS, List.getElem?_cons_zero, List.getElem?_cons_succ, List.set_cons_zero, List.set_cons_succ, List.map_cons, List.map_nil, List.length_cons, List.length_nil, Nat.reduceAdd, Nat.reduceSub, List.replicate_succ, List.replicate_zero, List.cons_append, List.nil_append, List.append_nil, Bool.not_true, Bool.not_false, if_true, if_false, ite_true, ite_false, Bool.false_eq_true, Bool.true_eq_false, reduceIte]
  refine c_pattern_bits (by omega) hp fun H2 x2 => ?_
  try simp only [for_nil, for_v, for_t, lc_nil, lc_v, lc_t, lc_turn0, lc_turn1, wipe_nil, wipe_cons, true_and, and_true, upd_same, upd_upd, Option.some.injEq, HO.lst.injEq, HO.tup.injEq, HO.dK.injEq, exists_eq_left', List.singleton_append, Int.cast_ofNat_Int, and1, e_k, e_v, e_g, e_bop, e_uop, e_not, e_and, e_or, e_ite, e_cmp, e_cmp2, e_lst, e_tup, e_dic, e_call, e_mk, e_bi, e_isi, e_meth, e_bm, e_icall, e_ostr, e_att, e_ix, e_sl, e_lc, t_v, t_isi, t_call, t_meth, t_bop, t_bi, t_att, t_not, t_and, t_or, t_cmp, t_cmp2, trQ_bl, blQ_bl, a_nil', a_cons, s_nil, s_cons, s_set, s_setLc, s_par, s_expr, s_ret, s_retN, s_if, s_for, s_never, s_pass, s_brk, s_cont, g_v', g_tup, g_sub, g_att, gs_nil, gs_cons, gs_tup, i_L, i_T, i_S, i_R1, i_ES, i_E, i_Z, p_nil, p_pair, o_nil, o_k, x_K, x_w, x_fn, x_gv, x_tabs, x_mth, x_prp, x_fld, x_isi, x_kwo, isi_int, isi_str, isi_bl, isi_non, ii1, ii2, ii3, ii4, ii5, ii6, ii7, r_add, r_sub, r_mul, r_div, r_mod, r_pow, r_shl, r_shr, r_and, r_or, r_xor, r_neg, r_inv, r_lt, r_le, r_gt, r_ge, r_eqI, r_neI, r_eqS, r_neS, r_inS, r_niS, List.getElem?_cons_zero, List.getElem?_cons_succ, List.set_cons_zero, List.set_cons_succ, List.map_cons, List.map_nil, List.length_cons, List.length_nil, Nat.reduceAdd, Nat.reduceSub, List.replicate_succ, List.replicate_zero, List.cons_append, List.nil_append, List.append_nil, Bool.not_true, Bool.not_false, if_true, if_false, ite_true, ite_false, Bool.false_eq_true, Bool.true_eq_false, reduceIte]
  refine mk_Mode (by omega) (wp_range hb hp ht) fun x H3 x3 h3 => ?_
  exact h x H3 (x1.trans (x2.trans x3)) h3
end U

namespace U
open PySem PySem.Spec PyProof.Rows L2
variable {K : PySem.W.Frag} {w : World} {n : Nat} {H : Hp} {Q : VK} {E : XK}
/-- the places of the signs -/
def plcs (a : List Nat) (l : Str) : List Int := a.map fun c => Txt.find l (S [c])
def isSomeB (a : List Nat) (l : Str) : Bool := !inV (.int (-1)) ((plcs a l).map V.int) && ((plcs a l).zip (plcs a l).tail).all fun p => decide (p.1 < p.2)
theorem fm_some {α β : Type} (f : α → β) : ∀ l : List α, l.filterMap (fun x => some (f x)) = l.map f
  | [] => rfl
  | x :: r => by
    show f x :: r.filterMap _ = _
    rw [fm_some f r] <;> rfl
theorem cut1 (xs : List V) : cutV xs (some 1) none = xs.drop 1 := by
  cases xs with
  | nil => rfl
  | cons x r =>
    unfold cutV
    simp [HT.sIx]
theorem c_is_some {a : List Nat} {l : Str} (hn : 1 ≤ n) (ha : a.length ≤ 1000) (h : ∀ H', Ext H H' → Q (.bl (isSomeB a l)) H') : run hd.pg K w n s_is_some [.str (S a), .str l] H Q E := by
  refine run_at f_is_some hn rfl ?_
  simp only [d_is_some, b_is_some, L2.start, cps_S, e_k, e_v, e_g, e_bop, e_uop, e_not, e_and, e_or, e_ite, e_cmp, e_cmp2, e_lst, e_tup, e_dic, e_call, e_mk, e_bi, e_isi, e_meth, e_bm, e_icall, e_ostr, e_att, e_ix, e_sl, e_lc, t_v, t_isi, t_call, t_meth, t_bop, t_bi, t_att, t_not, t_and, t_or, t_cmp, t_cmp2, trQ_bl, blQ_bl, a_nil', a_cons, s_nil, s_cons, s_set, s_setLc, s_par, s_expr, s_ret, s_retN, s_if, s_for, s_never, s_pass, s_brk, s_cont, g_v', g_tup, g_sub, g_att, gs_nil, gs_cons, gs_tup, i_L, i_T, i_S, i_R1, i_ES, i_E, i_Z, p_nil, p_pair, o_nil, o_k, x_K, x_w, x_fn, x_gv, x_tabs, x_mth, x_prp, x_fld, x_isi, x_kwo, isi_int, isi_str, isi_bl, isi_non, ii1, ii2, ii3, ii4, ii5, ii6, ii7, r_add, r_sub, r_mul, r_div, r_mod, r_pow, r_shl, r_shr, r_and, r_or, r_xor, r_neg, r_inv, r_lt, r_le, r_gt, r_ge, r_eqI, r_neI, r_eqS, r_neS, r_inS, r_niS, List.getElem?_cons_zero, List.getElem?_cons_succ, List.set_cons_zero, List.set_cons_succ, List.map_cons, List.map_nil, List.length_cons, List.length_nil, Nat.reduceAdd, Nat.reduceSub, List.replicate_succ, List.replicate_zero, List.cons_append, List.nil_append, List.append_nil, Bool.not_true, Bool.not_false, if_true, if_false, ite_true, ite_false, Bool.false_eq_true, Bool.true_eq_false, reduceIte]
  intro D hD
  have hs : (1000 : Nat) ≤ sizeLine := by decide
  refine lcs_inv (H := H) (f := fun | .v (.str c) => some (.int (Txt.find l c)) | _ => none) (fun _ _ => trivial) _ [] _ (Ext.new hD) upd_same ?_ (by simp; omega) ?_
  · intro x hx H' acc nx x1 e1 hl hq
    obtain ⟨c, hc, rfl⟩ := List.mem_map.mp hx
    show (rd _ _ _).g _ _ _ _
    simp only [for_nil, for_v, for_t, lc_nil, lc_v, lc_t, lc_turn0, lc_turn1, wipe_nil, wipe_cons, true_and, and_true, upd_same, upd_upd, Option.some.injEq, HO.lst.injEq, HO.tup.injEq, HO.dK.injEq, exists_eq_left', List.singleton_append, Int.cast_ofNat_Int, e_k, e_v, e_g, e_bop, e_uop, e_not, e_and, e_or, e_ite, e_cmp, e_cmp2, e_lst, e_tup, e_dic, e_call, e_mk, e_bi, e_isi, e_meth, e_bm, e_icall, e_ostr, e_att, e_ix, e_sl, e_lc, t_v, t_isi, t_call, t_meth, t_bop, t_bi, t_att, t_not, t_and, t_or, t_cmp, t_cmp2, trQ_bl, blQ_bl, a_nil', a_cons, s_nil, s_cons, s_set, s_setLc, s_par, s_expr, s_ret, s_retN, s_if, s_for, s_never, s_pass, s_brk, s_cont, g_v', g_tup, g_sub, g_att, gs_nil, gs_cons, gs_tup, i_L, i_T, i_S, i_R1, i_ES, i_E, i_Z, p_nil, p_pair, o_nil, o_k, x_K, x_w, x_fn, x_gv, x_tabs, x_mth, x_prp, x_fld, x_isi, x_kwo, isi_int, isi_str, isi_bl, isi_non, ii1, ii2, ii3, ii4, ii5, ii6, ii7, r_add, r_sub, r_mul, r_div, r_mod, r_pow, r_shl, r_shr, r_and, r_or, r_xor, r_neg, r_inv, r_lt, r_le, r_gt, r_ge, r_eqI, r_neI, r_eqS, r_neS, r_inS, r_niS, List.getElem?_cons_zero, List.getElem?_cons_succ, List.set_cons_zero, List.set_cons_succ, List.map_cons, List.map_nil, List.length_cons, List.length_nil, Nat.reduceAdd, Nat.reduceSub, List.replicate_succ, List.replicate_zero, List.cons_append, List.nil_append, List.append_nil, Bool.not_true, Bool.not_false, if_true, if_false, ite_true, ite_false, Bool.false_eq_true, Bool.true_eq_false, reduceIte]
    refine ⟨rfl, _, _, rfl, rfl, acc, e1, hl, ?_⟩
    refine hq _ (x1.put hD) ?_
    rw [upd_same]
    rfl
  · intro H1 x1 e1
    have e2 : H1 D = some (.lst ((plcs a l).map V.int)) := by
      rw [e1, List.nil_append, List.filterMap_map]
      show some (HO.lst (a.filterMap fun c => some (V.int (Txt.find l (S [c]))))) = _
      rw [fm_some, plcs, List.map_map]
      rfl
    try simp only [for_nil, for_v, for_t, lc_nil, lc_v, lc_t, lc_turn0, lc_turn1, wipe_nil, wipe_cons, true_and, and_true, upd_same, upd_upd, Option.some.injEq, HO.lst.injEq, HO.tup.injEq, HO.dK.injEq, exists_eq_left', List.singleton_append, Int.cast_ofNat_Int, and1, e_k, e_v, e_g, e_bop, e_uop, e_not, e_and, e_or, e_ite, e_cmp, e_cmp2, e_lst, e_tup, e_dic, e_call, e_mk, e_bi, e_isi, e_meth, e_bm, e_icall, e_ostr, e_att, e_ix, e_sl, e_lc, t_v, t_isi, t_call, t_meth, t_bop, t_bi, t_att, t_not, t_and, t_or, t_cmp, t_cmp2, trQ_bl, blQ_bl, a_nil', a_cons, s_nil, s_cons, s_set, s_setLc, s_par, s_expr, s_ret, s_retN, s_if, s_for, s_never, s_pass, s_brk, s_cont, g_v', g_tup, g_sub, g_att, gs_nil, gs_cons, gs_tup, i_L, i_T, i_S, i_R1, i_ES, i_E, i_Z, p_nil, p_pair, o_nil, o_k, x_K, x_w, x_fn, x_gv, x_tabs, x_mth, x_prp, x_fld, x_isi, x_kwo, isi_int, isi_str, isi_bl, isi_non, ii1, ii2, ii3, ii4, ii5, ii6, ii7, r_add, r_sub, r_mul, r_div, r_mod, r_pow, r_shl, r_shr, r_and, r_or, r_xor, r_neg, r_inv, r_lt, r_le, r_gt, r_ge, r_eqI, r_neI, r_eqS, r_neS, r_inS, r_niS, List.getElem?_cons_zero, List.getElem?_cons_succ, List.set_cons_zero, List.set_cons_succ, List.map_cons, List.map_nil, List.length_cons, List.length_nil, Nat.reduceAdd, Nat.reduceSub, List.replicate_succ, List.replicate_zero, List.cons_append, List.nil_append, List.append_nil, Bool.not_true, Bool.not_false, if_true, if_false, ite_true, ite_false, Bool.false_eq_true, Bool.true_eq_false, reduceIte]
    refine r_niL (.inl (.inl (.inl e2))) rfl (by simp [flatV]) ?_
    try simp only [for_nil, for_v, for_t, lc_nil, lc_v, lc_t, lc_turn0, lc_turn1, wipe_nil, wipe_cons, true_and, and_true, upd_same, upd_upd, Option.some.injEq, HO.lst.injEq, HO.tup.injEq, HO.dK.injEq, exists_eq_left', List.singleton_append, Int.cast_ofNat_Int, and1, e_k, e_v, e_g, e_bop, e_uop, e_not, e_and, e_or, e_ite, e_cmp, e_cmp2, e_lst, e_tup, e_dic, e_call, e_mk, e_bi, e_isi, e_meth, e_bm, e_icall, e_ostr, e_att, e_ix, e_sl, e_lc, t_v, t_isi, t_call, t_meth, t_bop, t_bi, t_att, t_not, t_and, t_or, t_cmp, t_cmp2, trQ_bl, blQ_bl, a_nil', a_cons, s_nil, s_cons, s_set, s_setLc, s_par, s_expr, s_ret, s_retN, s_if, s_for, s_never, s_pass, s_brk, s_cont, g_v', g_tup, g_sub, g_att, gs_nil, gs_cons, gs_tup, i_L, i_T, i_S, i_R1, i_ES, i_E, i_Z, p_nil, p_pair, o_nil, o_k, x_K, x_w, x_fn, x_gv, x_tabs, x_mth, x_prp, x_fld, x_isi, x_kwo, isi_int, isi_str, isi_bl, isi_non, ii1, ii2, ii3, ii4, ii5, ii6, ii7, r_add, r_sub, r_mul, r_div, r_mod, r_pow, r_shl, r_shr, r_and, r_or, r_xor, r_neg, r_inv, r_lt, r_le, r_gt, r_ge, r_eqI, r_neI, r_eqS, r_neS, r_inS, r_niS, List.getElem?_cons_zero, List.getElem?_cons_succ, List.set_cons_zero, List.set_cons_succ, List.map_cons, List.map_nil, List.length_cons, List.length_nil, Nat.reduceAdd, Nat.reduceSub, List.replicate_succ, List.replicate_zero, List.cons_append, List.nil_append, List.append_nil, Bool.not_true, Bool.not_false, if_true, if_false, ite_true, ite_false, Bool.false_eq_true, Bool.true_eq_false, reduceIte]
    by_cases hm : inV (.int (-1)) ((plcs a l).map V.int) = true
    · have e : isSomeB a l = false := by simp [isSomeB, hm]
      rw [e] at h
      simp only [hm, e_k, e_v, e_g, e_bop, e_uop, e_not, e_and, e_or, e_ite, e_cmp, e_cmp2, e_lst, e_tup, e_dic, e_call, e_mk, e_bi, e_isi, e_meth, e_bm, e_icall, e_ostr, e_att, e_ix, e_sl, e_lc, t_v, t_isi, t_call, t_meth, t_bop, t_bi, t_att, t_not, t_and, t_or, t_cmp, t_cmp2, trQ_bl, blQ_bl, a_nil', a_cons, s_nil, s_cons, s_set, s_setLc, s_par, s_expr, s_ret, s_retN, s_if, s_for, s_never, s_pass, s_brk, s_cont, g_v', g_tup, g_sub, g_att, gs_nil, gs_cons, gs_tup, i_L, i_T, i_S, i_R1, i_ES, i_E, i_Z, p_nil, p_pair, o_nil, o_k, x_K, x_w, x_fn, x_gv, x_tabs, x_mth, x_prp, x_fld, x_isi, x_kwo, isi_int, isi_str, isi_bl, isi_non, ii1, ii2, ii3, ii4, ii5, ii6, ii7, r_add, r_sub, r_mul, r_div, r_mod, r_pow, r_shl, r_shr, r_and, r_or, r_xor, r_neg, r_inv, r_lt, r_le, r_gt, r_ge, r_eqI, r_neI, r_eqS, r_neS, r_inS, r_niS, List.getElem?_cons_zero, List.getElem?_cons_succ, List.set_cons_zero, List.set_cons_succ, List.map_cons, List.map_nil, List.length_cons, List.length_nil, Nat.reduceAdd, Nat.reduceSub, List.replicate_succ, List.replicate_zero, List.cons_append, List.nil_append, List.append_nil, Bool.not_true, Bool.not_false, if_true, if_false, ite_true, ite_false, Bool.false_eq_true, Bool.true_eq_false, reduceIte]
      exact h H1 x1
    · simp only [Bool.not_eq_true] at hm
      simp only [hm, e_k, e_v, e_g, e_bop, e_uop, e_not, e_and, e_or, e_ite, e_cmp, e_cmp2, e_lst, e_tup, e_dic, e_call, e_mk, e_bi, e_isi, e_meth, e_bm, e_icall, e_ostr, e_att, e_ix, e_sl, e_lc, t_v, t_isi, t_call, t_meth, t_bop, t_bi, t_att, t_not, t_and, t_or, t_cmp, t_cmp2, trQ_bl, blQ_bl, a_nil', a_cons, s_nil, s_cons, s_set, s_setLc, s_par, s_expr, s_ret, s_retN, s_if, s_for, s_never, s_pass, s_brk, s_cont, g_v', g_tup, g_sub, g_att, gs_nil, gs_cons, gs_tup, i_L, i_T, i_S, i_R1, i_ES, i_E, i_Z, p_nil, p_pair, o_nil, o_k, x_K, x_w, x_fn, x_gv, x_tabs, x_mth, x_prp, x_fld, x_isi, x_kwo, isi_int, isi_str, isi_bl, isi_non, ii1, ii2, ii3, ii4, ii5, ii6, ii7, r_add, r_sub, r_mul, r_div, r_mod, r_pow, r_shl, r_shr, r_and, r_or, r_xor, r_neg, r_inv, r_lt, r_le, r_gt, r_ge, r_eqI, r_neI, r_eqS, r_neS, r_inS, r_niS, List.getElem?_cons_zero, List.getElem?_cons_succ, List.set_cons_zero, List.set_cons_succ, List.map_cons, List.map_nil, List.length_cons, List.length_nil, Nat.reduceAdd, Nat.reduceSub, List.replicate_succ, List.replicate_zero, List.cons_append, List.nil_append, List.append_nil, Bool.not_true, Bool.not_false, if_true, if_false, ite_true, ite_false, Bool.false_eq_true, Bool.true_eq_false, reduceIte]
      refine x_slL (.inl (.inl e2)) fun p hp => ?_
      rw [cut1, show List.drop 1 ((plcs a l).map V.int) = (plcs a l).tail.map V.int by simp]
      try simp only [for_nil, for_v, for_t, lc_nil, lc_v, lc_t, lc_turn0, lc_turn1, wipe_nil, wipe_cons, true_and, and_true, upd_same, upd_upd, Option.some.injEq, HO.lst.injEq, HO.tup.injEq, HO.dK.injEq, exists_eq_left', List.singleton_append, Int.cast_ofNat_Int, and1, e_k, e_v, e_g, e_bop, e_uop, e_not, e_and, e_or, e_ite, e_cmp, e_cmp2, e_lst, e_tup, e_dic, e_call, e_mk, e_bi, e_isi, e_meth, e_bm, e_icall, e_ostr, e_att, e_ix, e_sl, e_lc, t_v, t_isi, t_call, t_meth, t_bop, t_bi, t_att, t_not, t_and, t_or, t_cmp, t_cmp2, trQ_bl, blQ_bl, a_nil', a_cons, s_nil, s_cons, s_set, s_setLc, s_par, s_expr, s_ret, s_retN, s_if, s_for, s_never, s_pass, s_brk, s_cont, g_v', g_tup, g_sub, g_att, gs_nil, gs_cons, gs_tup, i_L, i_T, i_S, i_R1, i_ES, i_E, i_Z, p_nil, p_pair, o_nil, o_k, x_K, x_w, x_fn, x_gv, x_tabs, x_mth, x_prp, x_fld, x_isi, x_kwo, isi_int, isi_str, isi_bl, isi_non, ii1, ii2, ii3, ii4, ii5, ii6, ii7, r_add, r_sub, r_mul, r_div, r_mod, r_pow, r_shl, r_shr, r_and, r_or, r_xor, r_neg, r_inv, r_lt, r_le, r_gt, r_ge, r_eqI, r_neI, r_eqS, r_neS, r_inS, r_niS, List.getElem?_cons_zero, List.getElem?_cons_succ, List.set_cons_zero, List.set_cons_succ, List.map_cons, List.map_nil, List.length_cons, List.length_nil, Nat.reduceAdd, Nat.reduceSub, List.replicate_succ, List.replicate_zero, List.cons_append, List.nil_append, List.append_nil, Bool.not_true, Bool.not_false, if_true, if_false, ite_true, ite_false, Bool.false_eq_true, Bool.true_eq_false, reduceIte]
      obtain ⟨H2, eH2⟩ : ∃ H2, H2 = upd H1 p (.lst ((plcs a l).tail.map V.int)) := ⟨_, rfl⟩
      rw [← eH2]
      have x2 : Ext H1 H2 := eH2 ▸ Ext.new hp
      have e3 : H2 p = some (.lst ((plcs a l).tail.map V.int)) := eH2 ▸ upd_same
      have e4 := x2.get e2
      refine ⟨_, _, .inl (.inl e4), .inl (.inl e3), fun Dl hDl => ?_⟩
      refine lcs_inv (H := H2) (f := fun | .t [.int i, .int j] => some (.bl (decide (i < j))) | _ => none) (fun H' x => ⟨.inl (.inl (x.get e4)), .inl (.inl (x.get e3))⟩) _ [] _ (Ext.new hDl) upd_same ?_ (by simp [plcs]; omega) ?_
      · intro x hx H' acc nx x1 e1 hl hq
        obtain ⟨⟨v, w⟩, hc, rfl⟩ := List.mem_map.mp hx
        have hz := List.of_mem_zip hc
        obtain ⟨i, _, rfl⟩ := List.mem_map.mp hz.1
        obtain ⟨j, _, rfl⟩ := List.mem_map.mp hz.2
        intro T hT
        have hne : Dl ≠ T := ne_of_none e1 hT
        simp only [for_nil, for_v, for_t, lc_nil, lc_v, lc_t, lc_turn0, lc_turn1, wipe_nil, wipe_cons, true_and, and_true, upd_same, upd_upd, Option.some.injEq, HO.lst.injEq, HO.tup.injEq, HO.dK.injEq, exists_eq_left', List.singleton_append, Int.cast_ofNat_Int, e_k, e_v, e_g, e_bop, e_uop, e_not, e_and, e_or, e_ite, e_cmp, e_cmp2, e_lst, e_tup, e_dic, e_call, e_mk, e_bi, e_isi, e_meth, e_bm, e_icall, e_ostr, e_att, e_ix, e_sl, e_lc, t_v, t_isi, t_call, t_meth, t_bop, t_bi, t_att, t_not, t_and, t_or, t_cmp, t_cmp2, trQ_bl, blQ_bl, a_nil', a_cons, s_nil, s_cons, s_set, s_setLc, s_par, s_expr, s_ret, s_retN, s_if, s_for, s_never, s_pass, s_brk, s_cont, g_v', g_tup, g_sub, g_att, gs_nil, gs_cons, gs_tup, i_L, i_T, i_S, i_R1, i_ES, i_E, i_Z, p_nil, p_pair, o_nil, o_k, x_K, x_w, x_fn, x_gv, x_tabs, x_mth, x_prp, x_fld, x_isi, x_kwo, isi_int, isi_str, isi_bl, isi_non, ii1, ii2, ii3, ii4, ii5, ii6, ii7, r_add, r_sub, r_mul, r_div, r_mod, r_pow, r_shl, r_shr, r_and, r_or, r_xor, r_neg, r_inv, r_lt, r_le, r_gt, r_ge, r_eqI, r_neI, r_eqS, r_neS, r_inS, r_niS, List.getElem?_cons_zero, List.getElem?_cons_succ, List.set_cons_zero, List.set_cons_succ, List.map_cons, List.map_nil, List.length_cons, List.length_nil, Nat.reduceAdd, Nat.reduceSub, List.replicate_succ, List.replicate_zero, List.cons_append, List.nil_append, List.append_nil, Bool.not_true, Bool.not_false, if_true, if_false, ite_true, ite_false, Bool.false_eq_true, Bool.true_eq_false, reduceIte]
        refine ⟨rfl, acc, by rw [upd_ne hne]; exact e1, hl, ?_⟩
        refine hq _ ((x1.upd_of hT).put hDl) ?_
        rw [upd_same]
        rfl
      · intro H3 x3 e5
        refine ⟨((plcs a l).zip (plcs a l).tail).map fun q => decide (q.1 < q.2), .inl (.inl ?_), ?_⟩
        · rw [e5, List.nil_append, List.zip_map, List.map_map, List.filterMap_map]
          show some (HO.lst (List.filterMap (fun q : Int × Int => some (V.bl (decide (q.1 < q.2)))) _)) = _
          rw [fm_some, List.map_map]
          rfl
        · have e : isSomeB a l = (((plcs a l).zip (plcs a l).tail).map fun q => decide (q.1 < q.2)).all id := by
            rw [isSomeB, hm, List.all_map]
            rfl
          rw [← e]
          exact h H3 (x1.trans (x2.trans x3))
end U

namespace U
open PySem PySem.Spec PyProof.Rows L2
variable {K : PySem.W.Frag} {w : World} {n : Nat} {H : Hp} {Q : VK} {E : XK}
def whoL : List (List Nat) := [[117, 103, 111], [117], [103], [111], [117, 103], [117, 111], [103, 111]]
def whatL : List (List Nat) := [[114], [119], [120], [88], [114, 88], [114, 119, 120], [114, 119, 88], [119, 120], [114, 120], [], [117], [103], [111], [120, 88], [114, 119, 120, 88]]
def signL : List (List Nat) := [[43], [45], [61]]
theorem gv3 : hd.pg.gv K s_CLASSES = some (.str (S [117, 103, 111])) := rfl
theorem gv4 : hd.pg.gv K s_LETTERS = some (.str (S [114, 119, 120, 88])) := rfl
theorem gv5 : hd.pg.gv K s_SIGNS_changes = some (.str (S [43, 45, 61])) := rfl
theorem gv6 : hd.pg.gv K s_BITS = some (.ref (He.ga K s_BITS)) := rfl
theorem tb2 : (⟨fun K => He.ga K s_BITS, [(S [117], V.int 4), (S [103], V.int 2), (S [111], V.int 1)]⟩ : KTab) ∈ hd.pg.tabs := List.Mem.head _
theorem who1 : ∀ a ∈ whoL, (S a == S []) = false ∧ (S a == S [97]) = false ∧ isSomeB a (S [117, 103, 111]) = true ∧ a.length ≤ 1000 := by decide +kernel
theorem c_is_who {a : List Nat} (ha : a ∈ whoL) (hn : 2 ≤ n) (h : ∀ H', Ext H H' → Q (.bl true) H') : run hd.pg K w n s_is_who [.str (S a)] H Q E := by
  obtain ⟨h1, h2, h3, h4⟩ := who1 a ha
  refine run_at f_is_who (by omega) rfl ?_
  simp only [d_is_who, b_is_who, L2.start, gv3, h1, h2, e_k, e_v, e_g, e_bop, e_uop, e_not, e_and, e_or, e_ite, e_cmp, e_cmp2, e_lst, e_tup, e_dic, e_call, e_mk, e_bi, e_isi, e_meth, e_bm, e_icall, e_ostr, e_att, e_ix, e_sl, e_lc, t_v, t_isi, t_call, t_meth, t_bop, t_bi, t_att, t_not, t_and, t_or, t_cmp, t_cmp2, trQ_bl, blQ_bl, a_nil', a_cons, s_nil, s_cons, s_set, s_setLc, s_par, s_expr, s_ret, s_retN, s_if, s_for, s_never, s_pass, s_brk, s_cont, g_v', g_tup, g_sub, g_att, gs_nil, gs_cons, gs_tup, i_L, i_T, i_S, i_R1, i_ES, i_E, i_Z, p_nil, p_pair, o_nil, o_k, x_K, x_w, x_fn, x_gv, x_tabs, x_mth, x_prp, x_fld, x_isi, x_kwo, isi_int, isi_str, isi_bl, isi_non, ii1, ii2, ii3, ii4, ii5, ii6, ii7, r_add, r_sub, r_mul, r_div, r_mod, r_pow, r_shl, r_shr, r_and, r_or, r_xor, r_neg, r_inv, r_lt, r_le, r_gt, r_ge, r_eqI, r_neI, r_eqS, r_neS, r_inS, r_niS, List.getElem?_cons_zero, List.getElem?_cons_succ, List.set_cons_zero, List.set_cons_succ, List.map_cons, List.map_nil, List.length_cons, List.length_nil, Nat.reduceAdd, Nat.reduceSub, List.replicate_succ, List.replicate_zero, List.cons_append, List.nil_append, List.append_nil, Bool.not_true, Bool.not_false, if_true, if_false, ite_true, ite_false, Bool.false_eq_true, Bool.true_eq_false, reduceIte]
  refine c_is_some (by omega) h4 fun H' x => ?_
  rw [h3]
  exact h H' x
def whatB (a : List Nat) : Bool := isSomeB a (S [114, 119, 120, 88])
theorem what1 : ∀ a ∈ whatL, a.length ≤ 1000 ∧ (whatB a = true ∨ (whatB a = false ∧ inV (.str (S a)) [.str (S [117]), .str (S [103]), .str (S [111])] = true)) := by decide +kernel
theorem c_is_what {a : List Nat} (ha : a ∈ whatL) (hn : 2 ≤ n) (h : ∀ H', Ext H H' → Q (.bl true) H') : run hd.pg K w n s_is_what [.str (S a)] H Q E := by
  obtain ⟨h4, h1⟩ := what1 a ha
  refine run_at f_is_what (by omega) rfl ?_
  simp only [d_is_what, b_is_what, L2.start, gv3, gv4, e_k, e_v, e_g, e_bop, e_uop, e_not, e_and, e_or, e_ite, e_cmp, e_cmp2, e_lst, e_tup, e_dic, e_call, e_mk, e_bi, e_isi, e_meth, e_bm, e_icall, e_ostr, e_att, e_ix, e_sl, e_lc, t_v, t_isi, t_call, t_meth, t_bop, t_bi, t_att, t_not, t_and, t_or, t_cmp, t_cmp2, trQ_bl, blQ_bl, a_nil', a_cons, s_nil, s_cons, s_set, s_setLc, s_par, s_expr, s_ret, s_retN, s_if, s_for, s_never, s_pass, s_brk, s_cont, g_v', g_tup, g_sub, g_att, gs_nil, gs_cons, gs_tup, i_L, i_T, i_S, i_R1, i_ES, i_E, i_Z, p_nil, p_pair, o_nil, o_k, x_K, x_w, x_fn, x_gv, x_tabs, x_mth, x_prp, x_fld, x_isi, x_kwo, isi_int, isi_str, isi_bl, isi_non, ii1, ii2, ii3, ii4, ii5, ii6, ii7, r_add, r_sub, r_mul, r_div, r_mod, r_pow, r_shl, r_shr, r_and, r_or, r_xor, r_neg, r_inv, r_lt, r_le, r_gt, r_ge, r_eqI, r_neI, r_eqS, r_neS, r_inS, r_niS, List.getElem?_cons_zero, List.getElem?_cons_succ, List.set_cons_zero, List.set_cons_succ, List.map_cons, List.map_nil, List.length_cons, List.length_nil, Nat.reduceAdd, Nat.reduceSub, List.replicate_succ, List.replicate_zero, List.cons_append, List.nil_append, List.append_nil, Bool.not_true, Bool.not_false, if_true, if_false, ite_true, ite_false, Bool.false_eq_true, Bool.true_eq_false, reduceIte]
  refine c_is_some (by omega) h4 fun H' x => ?_
  rcases h1 with h1 | ⟨h1, h2⟩
  · rw [show isSomeB a (S [114, 119, 120, 88]) = true from h1]
    simp only [e_k, e_v, e_g, e_bop, e_uop, e_not, e_and, e_or, e_ite, e_cmp, e_cmp2, e_lst, e_tup, e_dic, e_call, e_mk, e_bi, e_isi, e_meth, e_bm, e_icall, e_ostr, e_att, e_ix, e_sl, e_lc, t_v, t_isi, t_call, t_meth, t_bop, t_bi, t_att, t_not, t_and, t_or, t_cmp, t_cmp2, trQ_bl, blQ_bl, a_nil', a_cons, s_nil, s_cons, s_set, s_setLc, s_par, s_expr, s_ret, s_retN, s_if, s_for, s_never, s_pass, s_brk, s_cont, g_v', g_tup, g_sub, g_att, gs_nil, gs_cons, gs_tup, i_L, i_T, i_S, i_R1, i_ES, i_E, i_Z, p_nil, p_pair, o_nil, o_k, x_K, x_w, x_fn, x_gv, x_tabs, x_mth, x_prp, x_fld, x_isi, x_kwo, isi_int, isi_str, isi_bl, isi_non, ii1, ii2, ii3, ii4, ii5, ii6, ii7, r_add, r_sub, r_mul, r_div, r_mod, r_pow, r_shl, r_shr, r_and, r_or, r_xor, r_neg, r_inv, r_lt, r_le, r_gt, r_ge, r_eqI, r_neI, r_eqS, r_neS, r_inS, r_niS, List.getElem?_cons_zero, List.getElem?_cons_succ, List.set_cons_zero, List.set_cons_succ, List.map_cons, List.map_nil, List.length_cons, List.length_nil, Nat.reduceAdd, Nat.reduceSub, List.replicate_succ, List.replicate_zero, List.cons_append, List.nil_append, List.append_nil, Bool.not_true, Bool.not_false, if_true, if_false, ite_true, ite_false, Bool.false_eq_true, Bool.true_eq_false, reduceIte]
    exact h H' x
  · rw [show isSomeB a (S [114, 119, 120, 88]) = false from h1]
    simp only [e_k, e_v, e_g, e_bop, e_uop, e_not, e_and, e_or, e_ite, e_cmp, e_cmp2, e_lst, e_tup, e_dic, e_call, e_mk, e_bi, e_isi, e_meth, e_bm, e_icall, e_ostr, e_att, e_ix, e_sl, e_lc, t_v, t_isi, t_call, t_meth, t_bop, t_bi, t_att, t_not, t_and, t_or, t_cmp, t_cmp2, trQ_bl, blQ_bl, a_nil', a_cons, s_nil, s_cons, s_set, s_setLc, s_par, s_expr, s_ret, s_retN, s_if, s_for, s_never, s_pass, s_brk, s_cont, g_v', g_tup, g_sub, g_att, gs_nil, gs_cons, gs_tup, i_L, i_T, i_S, i_R1, i_ES, i_E, i_Z, p_nil, p_pair, o_nil, o_k, x_K, x_w, x_fn, x_gv, x_tabs, x_mth, x_prp, x_fld, x_isi, x_kwo, isi_int, isi_str, isi_bl, isi_non, ii1, ii2, ii3, ii4, ii5, ii6, ii7, r_add, r_sub, r_mul, r_div, r_mod, r_pow, r_shl, r_shr, r_and, r_or, r_xor, r_neg, r_inv, r_lt, r_le, r_gt, r_ge, r_eqI, r_neI, r_eqS, r_neS, r_inS, r_niS, List.getElem?_cons_zero, List.getElem?_cons_succ, List.set_cons_zero, List.set_cons_succ, List.map_cons, List.map_nil, List.length_cons, List.length_nil, Nat.reduceAdd, Nat.reduceSub, List.replicate_succ, List.replicate_zero, List.cons_append, List.nil_append, List.append_nil, Bool.not_true, Bool.not_false, if_true, if_false, ite_true, ite_false, Bool.false_eq_true, Bool.true_eq_false, reduceIte]
    refine ⟨by decide, fun l hl => ?_⟩
    simp only [cps_S, e_k, e_v, e_g, e_bop, e_uop, e_not, e_and, e_or, e_ite, e_cmp, e_cmp2, e_lst, e_tup, e_dic, e_call, e_mk, e_bi, e_isi, e_meth, e_bm, e_icall, e_ostr, e_att, e_ix, e_sl, e_lc, t_v, t_isi, t_call, t_meth, t_bop, t_bi, t_att, t_not, t_and, t_or, t_cmp, t_cmp2, trQ_bl, blQ_bl, a_nil', a_cons, s_nil, s_cons, s_set, s_setLc, s_par, s_expr, s_ret, s_retN, s_if, s_for, s_never, s_pass, s_brk, s_cont, g_v', g_tup, g_sub, g_att, gs_nil, gs_cons, gs_tup, i_L, i_T, i_S, i_R1, i_ES, i_E, i_Z, p_nil, p_pair, o_nil, o_k, x_K, x_w, x_fn, x_gv, x_tabs, x_mth, x_prp, x_fld, x_isi, x_kwo, isi_int, isi_str, isi_bl, isi_non, ii1, ii2, ii3, ii4, ii5, ii6, ii7, r_add, r_sub, r_mul, r_div, r_mod, r_pow, r_shl, r_shr, r_and, r_or, r_xor, r_neg, r_inv, r_lt, r_le, r_gt, r_ge, r_eqI, r_neI, r_eqS, r_neS, r_inS, r_niS, List.getElem?_cons_zero, List.getElem?_cons_succ, List.set_cons_zero, List.set_cons_succ, List.map_cons, List.map_nil, List.length_cons, List.length_nil, Nat.reduceAdd, Nat.reduceSub, List.replicate_succ, List.replicate_zero, List.cons_append, List.nil_append, List.append_nil, Bool.not_true, Bool.not_false, if_true, if_false, ite_true, ite_false, Bool.false_eq_true, Bool.true_eq_false, reduceIte]
    refine r_inL (.inr (.inl (.inl upd_same))) rfl rfl ?_
    rw [h2]
    exact h _ (x.upd_of hl)
def bitsC (c : Nat) : Int := if c = 117 then 4 else if c = 103 then 2 else 1
def bitsOf (a : List Nat) : Int := (a.map bitsC).sum
def IsC (K : PySem.W.Frag) (H : Hp) (c : Addr) (who sign what : List Nat) : Prop := ∃ dx t, H c = some (.ins (He.ga K s_Clause) dx [(s_own_parts, .ref t), (s_own_bits, .int (bitsOf who))]) ∧ H t = some (.tup [.str (S who), .str (S sign), .str (S what)])
theorem IsC.ext {H' : Hp} {m : Addr} {a b c : List Nat} (h : IsC K H m a b c) (x : Ext H H') : IsC K H' m a b c := by
  obtain ⟨dx, t, h, h'⟩ := h
  exact ⟨dx, t, x.get h, x.get h'⟩
theorem mth2 : hd.pg.mth s_Clause "__init__" = some s_Clause___init__ := by decide +kernel
theorem sign1 : ∀ a ∈ signL, inV (.str (S a)) [.str (S [43]), .str (S [45]), .str (S [61])] = true := by decide +kernel
theorem who2 : ∀ a ∈ whoL, ∀ c ∈ a, c = 117 ∨ c = 103 ∨ c = 111 := by decide +kernel
theorem mk_Clause {Q' : Addr → Hp → Prop} {a b c : List Nat} (ha : a ∈ whoL) (hb : b ∈ signL) (hc : c ∈ whatL) (hn : 3 ≤ n) (h : ∀ x H', Ext H H' → IsC K H' x a b c → Q' x H') :
    ∀ x dx, H x = none → H dx = none → dx ≠ x → ∃ key, hd.pg.mth s_Clause "__init__" = some key ∧ run hd.pg K w n key [.ref x, .str (S a), .str (S b), .str (S c)] (upd (upd H dx (.own x)) x (.ins (He.ga K s_Clause) dx [])) (fun v H2 => v = .non ∧ Q' x H2) E := by
  intro x dx hx hdx hne
  refine ⟨_, mth2, ?_⟩
  obtain ⟨h1, h2, h3, h4⟩ := who1 a ha
  refine run_at f_Clause___init__ (by omega) rfl ?_
  obtain ⟨H0, eH0⟩ : ∃ H0, H0 = upd (upd H dx (.own x)) x (.ins (He.ga K s_Clause) dx []) := ⟨_, rfl⟩
  have x0 : ∀ H', Ext H0 H' → ∀ a o, H a = some o → H' a = some o ∧ a ≠ x := fun H' e a o ho => by
    have n1 := ne_of_none ho hx
    refine ⟨e a o ?_, n1⟩
    rw [eH0, upd_ne n1, upd_ne (ne_of_none ho hdx)]
    exact ho
  have e0 : H0 x = some (.ins (He.ga K s_Clause) dx []) := by rw [eH0, upd_same]
  rw [← eH0]
  simp only [d_Clause___init__, b_Clause___init__, L2.start, gv3, gv5, gv6, h2, e_k, e_v, e_g, e_bop, e_uop, e_not, e_and, e_or, e_ite, e_cmp, e_cmp2, e_lst, e_tup, e_dic, e_call, e_mk, e_bi, e_isi, e_meth, e_bm, e_icall, e_ostr, e_att, e_ix, e_sl, e_lc, t_v, t_isi, t_call, t_meth, t_bop, t_bi, t_att, t_not, t_and, t_or, t_cmp, t_cmp2, trQ_bl, blQ_bl, a_nil', a_cons, s_nil, s_cons, s_set, s_setLc, s_par, s_expr, s_ret, s_retN, s_if, s_for, s_never, s_pass, s_brk, s_cont, g_v', g_tup, g_sub, g_att, gs_nil, gs_cons, gs_tup, i_L, i_T, i_S, i_R1, i_ES, i_E, i_Z, p_nil, p_pair, o_nil, o_k, x_K, x_w, x_fn, x_gv, x_tabs, x_mth, x_prp, x_fld, x_isi, x_kwo, isi_int, isi_str, isi_bl, isi_non, ii1, ii2, ii3, ii4, ii5, ii6, ii7, r_add, r_sub, r_mul, r_div, r_mod, r_pow, r_shl, r_shr, r_and, r_or, r_xor, r_neg, r_inv, r_lt, r_le, r_gt, r_ge, r_eqI, r_neI, r_eqS, r_neS, r_inS, r_niS, List.getElem?_cons_zero, List.getElem?_cons_succ, List.set_cons_zero, List.set_cons_succ, List.map_cons, List.map_nil, List.length_cons, List.length_nil, Nat.reduceAdd, Nat.reduceSub, List.replicate_succ, List.replicate_zero, List.cons_append, List.nil_append, List.append_nil, Bool.not_true, Bool.not_false, if_true, if_false, ite_true, ite_false, Bool.false_eq_true, Bool.true_eq_false, reduceIte]
  refine c_is_who ha (by omega) fun H1 x1 => ?_
  simp only [e_k, e_v, e_g, e_bop, e_uop, e_not, e_and, e_or, e_ite, e_cmp, e_cmp2, e_lst, e_tup, e_dic, e_call, e_mk, e_bi, e_isi, e_meth, e_bm, e_icall, e_ostr, e_att, e_ix, e_sl, e_lc, t_v, t_isi, t_call, t_meth, t_bop, t_bi, t_att, t_not, t_and, t_or, t_cmp, t_cmp2, trQ_bl, blQ_bl, a_nil', a_cons, s_nil, s_cons, s_set, s_setLc, s_par, s_expr, s_ret, s_retN, s_if, s_for, s_never, s_pass, s_brk, s_cont, g_v', g_tup, g_sub, g_att, gs_nil, gs_cons, gs_tup, i_L, i_T, i_S, i_R1, i_ES, i_E, i_Z, p_nil, p_pair, o_nil, o_k, x_K, x_w, x_fn, x_gv, x_tabs, x_mth, x_prp, x_fld, x_isi, x_kwo, isi_int, isi_str, isi_bl, isi_non, ii1, ii2, ii3, ii4, ii5, ii6, ii7, r_add, r_sub, r_mul, r_div, r_mod, r_pow, r_shl, r_shr, r_and, r_or, r_xor, r_neg, r_inv, r_lt, r_le, r_gt, r_ge, r_eqI, r_neI, r_eqS, r_neS, r_inS, r_niS, List.getElem?_cons_zero, List.getElem?_cons_succ, List.set_cons_zero, List.set_cons_succ, List.map_cons, List.map_nil, List.length_cons, List.length_nil, Nat.reduceAdd, Nat.reduceSub, List.replicate_succ, List.replicate_zero, List.cons_append, List.nil_append, List.append_nil, Bool.not_true, Bool.not_false, if_true, if_false, ite_true, ite_false, Bool.false_eq_true, Bool.true_eq_false, reduceIte]
  refine ⟨by decide, fun l hl => ?_⟩
  simp only [cps_S, e_k, e_v, e_g, e_bop, e_uop, e_not, e_and, e_or, e_ite, e_cmp, e_cmp2, e_lst, e_tup, e_dic, e_call, e_mk, e_bi, e_isi, e_meth, e_bm, e_icall, e_ostr, e_att, e_ix, e_sl, e_lc, t_v, t_isi, t_call, t_meth, t_bop, t_bi, t_att, t_not, t_and, t_or, t_cmp, t_cmp2, trQ_bl, blQ_bl, a_nil', a_cons, s_nil, s_cons, s_set, s_setLc, s_par, s_expr, s_ret, s_retN, s_if, s_for, s_never, s_pass, s_brk, s_cont, g_v', g_tup, g_sub, g_att, gs_nil, gs_cons, gs_tup, i_L, i_T, i_S, i_R1, i_ES, i_E, i_Z, p_nil, p_pair, o_nil, o_k, x_K, x_w, x_fn, x_gv, x_tabs, x_mth, x_prp, x_fld, x_isi, x_kwo, isi_int, isi_str, isi_bl, isi_non, ii1, ii2, ii3, ii4, ii5, ii6, ii7, r_add, r_sub, r_mul, r_div, r_mod, r_pow, r_shl, r_shr, r_and, r_or, r_xor, r_neg, r_inv, r_lt, r_le, r_gt, r_ge, r_eqI, r_neI, r_eqS, r_neS, r_inS, r_niS, List.getElem?_cons_zero, List.getElem?_cons_succ, List.set_cons_zero, List.set_cons_succ, List.map_cons, List.map_nil, List.length_cons, List.length_nil, Nat.reduceAdd, Nat.reduceSub, List.replicate_succ, List.replicate_zero, List.cons_append, List.nil_append, List.append_nil, Bool.not_true, Bool.not_false, if_true, if_false, ite_true, ite_false, Bool.false_eq_true, Bool.true_eq_false, reduceIte]
  refine r_niL (.inr (.inl (.inl upd_same))) rfl rfl ?_
  rw [sign1 b hb]
  simp only [e_k, e_v, e_g, e_bop, e_uop, e_not, e_and, e_or, e_ite, e_cmp, e_cmp2, e_lst, e_tup, e_dic, e_call, e_mk, e_bi, e_isi, e_meth, e_bm, e_icall, e_ostr, e_att, e_ix, e_sl, e_lc, t_v, t_isi, t_call, t_meth, t_bop, t_bi, t_att, t_not, t_and, t_or, t_cmp, t_cmp2, trQ_bl, blQ_bl, a_nil', a_cons, s_nil, s_cons, s_set, s_setLc, s_par, s_expr, s_ret, s_retN, s_if, s_for, s_never, s_pass, s_brk, s_cont, g_v', g_tup, g_sub, g_att, gs_nil, gs_cons, gs_tup, i_L, i_T, i_S, i_R1, i_ES, i_E, i_Z, p_nil, p_pair, o_nil, o_k, x_K, x_w, x_fn, x_gv, x_tabs, x_mth, x_prp, x_fld, x_isi, x_kwo, isi_int, isi_str, isi_bl, isi_non, ii1, ii2, ii3, ii4, ii5, ii6, ii7, r_add, r_sub, r_mul, r_div, r_mod, r_pow, r_shl, r_shr, r_and, r_or, r_xor, r_neg, r_inv, r_lt, r_le, r_gt, r_ge, r_eqI, r_neI, r_eqS, r_neS, r_inS, r_niS, List.getElem?_cons_zero, List.getElem?_cons_succ, List.set_cons_zero, List.set_cons_succ, List.map_cons, List.map_nil, List.length_cons, List.length_nil, Nat.reduceAdd, Nat.reduceSub, List.replicate_succ, List.replicate_zero, List.cons_append, List.nil_append, List.append_nil, Bool.not_true, Bool.not_false, if_true, if_false, ite_true, ite_false, Bool.false_eq_true, Bool.true_eq_false, reduceIte]
  refine c_is_what hc (by omega) fun H2 x2 => ?_
  simp only [e_k, e_v, e_g, e_bop, e_uop, e_not, e_and, e_or, e_ite, e_cmp, e_cmp2, e_lst, e_tup, e_dic, e_call, e_mk, e_bi, e_isi, e_meth, e_bm, e_icall, e_ostr, e_att, e_ix, e_sl, e_lc, t_v, t_isi, t_call, t_meth, t_bop, t_bi, t_att, t_not, t_and, t_or, t_cmp, t_cmp2, trQ_bl, blQ_bl, a_nil', a_cons, s_nil, s_cons, s_set, s_setLc, s_par, s_expr, s_ret, s_retN, s_if, s_for, s_never, s_pass, s_brk, s_cont, g_v', g_tup, g_sub, g_att, gs_nil, gs_cons, gs_tup, i_L, i_T, i_S, i_R1, i_ES, i_E, i_Z, p_nil, p_pair, o_nil, o_k, x_K, x_w, x_fn, x_gv, x_tabs, x_mth, x_prp, x_fld, x_isi, x_kwo, isi_int, isi_str, isi_bl, isi_non, ii1, ii2, ii3, ii4, ii5, ii6, ii7, r_add, r_sub, r_mul, r_div, r_mod, r_pow, r_shl, r_shr, r_and, r_or, r_xor, r_neg, r_inv, r_lt, r_le, r_gt, r_ge, r_eqI, r_neI, r_eqS, r_neS, r_inS, r_niS, List.getElem?_cons_zero, List.getElem?_cons_succ, List.set_cons_zero, List.set_cons_succ, List.map_cons, List.map_nil, List.length_cons, List.length_nil, Nat.reduceAdd, Nat.reduceSub, List.replicate_succ, List.replicate_zero, List.cons_append, List.nil_append, List.append_nil, Bool.not_true, Bool.not_false, if_true, if_false, ite_true, ite_false, Bool.false_eq_true, Bool.true_eq_false, reduceIte]
  refine ⟨by decide, fun t ht => ?_⟩
  have x3 : Ext H0 H2 := (x1.upd_of hl).trans x2
  have e3 : upd H2 t (.tup [.str (S a), .str (S b), .str (S c)]) x = some (.ins (He.ga K s_Clause) dx []) := (x3.upd_of ht).get e0
  have ntx : t ≠ x := fun e => by
    rw [← e] at e0
    rw [x3.get e0] at ht
    cases ht
  refine ⟨s_Clause, dx, [], e3, rfl, by decide, ?_⟩
  simp only [putF, true_and, and_true, upd_same, upd_upd, Option.some.injEq, HO.lst.injEq, HO.tup.injEq, HO.dK.injEq, exists_eq_left', List.singleton_append, Int.cast_ofNat_Int, e_k, e_v, e_g, e_bop, e_uop, e_not, e_and, e_or, e_ite, e_cmp, e_cmp2, e_lst, e_tup, e_dic, e_call, e_mk, e_bi, e_isi, e_meth, e_bm, e_icall, e_ostr, e_att, e_ix, e_sl, e_lc, t_v, t_isi, t_call, t_meth, t_bop, t_bi, t_att, t_not, t_and, t_or, t_cmp, t_cmp2, trQ_bl, blQ_bl, a_nil', a_cons, s_nil, s_cons, s_set, s_setLc, s_par, s_expr, s_ret, s_retN, s_if, s_for, s_never, s_pass, s_brk, s_cont, g_v', g_tup, g_sub, g_att, gs_nil, gs_cons, gs_tup, i_L, i_T, i_S, i_R1, i_ES, i_E, i_Z, p_nil, p_pair, o_nil, o_k, x_K, x_w, x_fn, x_gv, x_tabs, x_mth, x_prp, x_fld, x_isi, x_kwo, isi_int, isi_str, isi_bl, isi_non, ii1, ii2, ii3, ii4, ii5, ii6, ii7, r_add, r_sub, r_mul, r_div, r_mod, r_pow, r_shl, r_shr, r_and, r_or, r_xor, r_neg, r_inv, r_lt, r_le, r_gt, r_ge, r_eqI, r_neI, r_eqS, r_neS, r_inS, r_niS, List.getElem?_cons_zero, List.getElem?_cons_succ, List.set_cons_zero, List.set_cons_succ, List.map_cons, List.map_nil, List.length_cons, List.length_nil, Nat.reduceAdd, Nat.reduceSub, List.replicate_succ, List.replicate_zero, List.cons_append, List.nil_append, List.append_nil, Bool.not_true, Bool.not_false, if_true, if_false, ite_true, ite_false, Bool.false_eq_true, Bool.true_eq_false, reduceIte]
  refine x_fldv upd_same rfl rfl ?_
  refine x_ixT (xs := [.str (S a), .str (S b), .str (S c)]) (v := .str (S a)) ?_ rfl ?_
  · rw [upd_ne ntx, upd_same]
  simp only [cps_S, e_k, e_v, e_g, e_bop, e_uop, e_not, e_and, e_or, e_ite, e_cmp, e_cmp2, e_lst, e_tup, e_dic, e_call, e_mk, e_bi, e_isi, e_meth, e_bm, e_icall, e_ostr, e_att, e_ix, e_sl, e_lc, t_v, t_isi, t_call, t_meth, t_bop, t_bi, t_att, t_not, t_and, t_or, t_cmp, t_cmp2, trQ_bl, blQ_bl, a_nil', a_cons, s_nil, s_cons, s_set, s_setLc, s_par, s_expr, s_ret, s_retN, s_if, s_for, s_never, s_pass, s_brk, s_cont, g_v', g_tup, g_sub, g_att, gs_nil, gs_cons, gs_tup, i_L, i_T, i_S, i_R1, i_ES, i_E, i_Z, p_nil, p_pair, o_nil, o_k, x_K, x_w, x_fn, x_gv, x_tabs, x_mth, x_prp, x_fld, x_isi, x_kwo, isi_int, isi_str, isi_bl, isi_non, ii1, ii2, ii3, ii4, ii5, ii6, ii7, r_add, r_sub, r_mul, r_div, r_mod, r_pow, r_shl, r_shr, r_and, r_or, r_xor, r_neg, r_inv, r_lt, r_le, r_gt, r_ge, r_eqI, r_neI, r_eqS, r_neS, r_inS, r_niS, List.getElem?_cons_zero, List.getElem?_cons_succ, List.set_cons_zero, List.set_cons_succ, List.map_cons, List.map_nil, List.length_cons, List.length_nil, Nat.reduceAdd, Nat.reduceSub, List.replicate_succ, List.replicate_zero, List.cons_append, List.nil_append, List.append_nil, Bool.not_true, Bool.not_false, if_true, if_false, ite_true, ite_false, Bool.false_eq_true, Bool.true_eq_false, reduceIte]
  obtain ⟨H3, eH3⟩ : ∃ H3, H3 = upd (upd H2 t (.tup [.str (S a), .str (S b), .str (S c)])) x (.ins (He.ga K s_Clause) dx [(s_own_parts, .ref t)]) := ⟨_, rfl⟩
  rw [← eH3]
  have e4 : H3 x = some (.ins (He.ga K s_Clause) dx [(s_own_parts, .ref t)]) := by rw [eH3, upd_same]
  have e5 : H3 t = some (.tup [.str (S a), .str (S b), .str (S c)]) := by rw [eH3, upd_ne ntx, upd_same]
  intro D hD
  have hs : (1000 : Nat) ≤ sizeLine := by decide
  refine lcs_inv (H := H3) (f := fun | .v (.str ⟨⟨[c]⟩⟩) => some (.int (bitsC c)) | _ => none) (fun _ _ => trivial) _ [] _ (Ext.new hD) upd_same ?_ (by simp; omega) ?_
  · intro y hy H' acc nx x1 e1 hl hq
    obtain ⟨c, hc, rfl⟩ := List.mem_map.mp hy
    show (rd _ _ _).g _ _ _ _
    simp only [gv6, for_nil, for_v, for_t, lc_nil, lc_v, lc_t, lc_turn0, lc_turn1, wipe_nil, wipe_cons, true_and, and_true, upd_same, upd_upd, Option.some.injEq, HO.lst.injEq, HO.tup.injEq, HO.dK.injEq, exists_eq_left', List.singleton_append, Int.cast_ofNat_Int, e_k, e_v, e_g, e_bop, e_uop, e_not, e_and, e_or, e_ite, e_cmp, e_cmp2, e_lst, e_tup, e_dic, e_call, e_mk, e_bi, e_isi, e_meth, e_bm, e_icall, e_ostr, e_att, e_ix, e_sl, e_lc, t_v, t_isi, t_call, t_meth, t_bop, t_bi, t_att, t_not, t_and, t_or, t_cmp, t_cmp2, trQ_bl, blQ_bl, a_nil', a_cons, s_nil, s_cons, s_set, s_setLc, s_par, s_expr, s_ret, s_retN, s_if, s_for, s_never, s_pass, s_brk, s_cont, g_v', g_tup, g_sub, g_att, gs_nil, gs_cons, gs_tup, i_L, i_T, i_S, i_R1, i_ES, i_E, i_Z, p_nil, p_pair, o_nil, o_k, x_K, x_w, x_fn, x_gv, x_tabs, x_mth, x_prp, x_fld, x_isi, x_kwo, isi_int, isi_str, isi_bl, isi_non, ii1, ii2, ii3, ii4, ii5, ii6, ii7, r_add, r_sub, r_mul, r_div, r_mod, r_pow, r_shl, r_shr, r_and, r_or, r_xor, r_neg, r_inv, r_lt, r_le, r_gt, r_ge, r_eqI, r_neI, r_eqS, r_neS, r_inS, r_niS, List.getElem?_cons_zero, List.getElem?_cons_succ, List.set_cons_zero, List.set_cons_succ, List.map_cons, List.map_nil, List.length_cons, List.length_nil, Nat.reduceAdd, Nat.reduceSub, List.replicate_succ, List.replicate_zero, List.cons_append, List.nil_append, List.append_nil, Bool.not_true, Bool.not_false, if_true, if_false, ite_true, ite_false, Bool.false_eq_true, Bool.true_eq_false, reduceIte]
    have hv : List.lookup (S [c]) [(S [117], V.int 4), (S [103], V.int 2), (S [111], V.int 1)] = some (.int (bitsC c)) := by
      rcases who2 a ha c hc with rfl | rfl | rfl <;> rfl
    refine x_ixK tb2 rfl hv ?_
    refine ⟨acc, e1, hl, hq _ (x1.put hD) ?_⟩
    rw [upd_same]
    rfl
  · intro H4 x4 e6
    have e7 : H4 D = some (.lst ((a.map bitsC).map V.int)) := by
      rw [e6, List.nil_append, List.filterMap_map]
      show some (HO.lst (a.filterMap fun c => some (V.int (bitsC c)))) = _
      rw [fm_some, List.map_map]
      rfl
    try simp only [for_nil, for_v, for_t, lc_nil, lc_v, lc_t, lc_turn0, lc_turn1, wipe_nil, wipe_cons, true_and, and_true, upd_same, upd_upd, Option.some.injEq, HO.lst.injEq, HO.tup.injEq, HO.dK.injEq, exists_eq_left', List.singleton_append, Int.cast_ofNat_Int, and1, e_k, e_v, e_g, e_bop, e_uop, e_not, e_and, e_or, e_ite, e_cmp, e_cmp2, e_lst, e_tup, e_dic, e_call, e_mk, e_bi, e_isi, e_meth, e_bm, e_icall, e_ostr, e_att, e_ix, e_sl, e_lc, t_v, t_isi, t_call, t_meth, t_bop, t_bi, t_att, t_not, t_and, t_or, t_cmp, t_cmp2, trQ_bl, blQ_bl, a_nil', a_cons, s_nil, s_cons, s_set, s_setLc, s_par, s_expr, s_ret, s_retN, s_if, s_for, s_never, s_pass, s_brk, s_cont, g_v', g_tup, g_sub, g_att, gs_nil, gs_cons, gs_tup, i_L, i_T, i_S, i_R1, i_ES, i_E, i_Z, p_nil, p_pair, o_nil, o_k, x_K, x_w, x_fn, x_gv, x_tabs, x_mth, x_prp, x_fld, x_isi, x_kwo, isi_int, isi_str, isi_bl, isi_non, ii1, ii2, ii3, ii4, ii5, ii6, ii7, r_add, r_sub, r_mul, r_div, r_mod, r_pow, r_shl, r_shr, r_and, r_or, r_xor, r_neg, r_inv, r_lt, r_le, r_gt, r_ge, r_eqI, r_neI, r_eqS, r_neS, r_inS, r_niS, List.getElem?_cons_zero, List.getElem?_cons_succ, List.set_cons_zero, List.set_cons_succ, List.map_cons, List.map_nil, List.length_cons, List.length_nil, Nat.reduceAdd, Nat.reduceSub, List.replicate_succ, List.replicate_zero, List.cons_append, List.nil_append, List.append_nil, Bool.not_true, Bool.not_false, if_true, if_false, ite_true, ite_false, Bool.false_eq_true, Bool.true_eq_false, reduceIte]
    refine ⟨_, .inl (.inl e7), ?_⟩
    refine ⟨s_Clause, dx, _, x4.get e4, rfl, (by decide : 1 < 1000), ?_⟩
    have ep : putF s_own_bits (.int (a.map bitsC).sum) [(s_own_parts, .ref t)] = [(s_own_parts, .ref t), (s_own_bits, .int (bitsOf a))] := rfl
    rw [ep]
    try simp only [for_nil, for_v, for_t, lc_nil, lc_v, lc_t, lc_turn0, lc_turn1, wipe_nil, wipe_cons, true_and, and_true, upd_same, upd_upd, Option.some.injEq, HO.lst.injEq, HO.tup.injEq, HO.dK.injEq, exists_eq_left', List.singleton_append, Int.cast_ofNat_Int, and1, e_k, e_v, e_g, e_bop, e_uop, e_not, e_and, e_or, e_ite, e_cmp, e_cmp2, e_lst, e_tup, e_dic, e_call, e_mk, e_bi, e_isi, e_meth, e_bm, e_icall, e_ostr, e_att, e_ix, e_sl, e_lc, t_v, t_isi, t_call, t_meth, t_bop, t_bi, t_att, t_not, t_and, t_or, t_cmp, t_cmp2, trQ_bl, blQ_bl, a_nil', a_cons, s_nil, s_cons, s_set, s_setLc, s_par, s_expr, s_ret, s_retN, s_if, s_for, s_never, s_pass, s_brk, s_cont, g_v', g_tup, g_sub, g_att, gs_nil, gs_cons, gs_tup, i_L, i_T, i_S, i_R1, i_ES, i_E, i_Z, p_nil, p_pair, o_nil, o_k, x_K, x_w, x_fn, x_gv, x_tabs, x_mth, x_prp, x_fld, x_isi, x_kwo, isi_int, isi_str, isi_bl, isi_non, ii1, ii2, ii3, ii4, ii5, ii6, ii7, r_add, r_sub, r_mul, r_div, r_mod, r_pow, r_shl, r_shr, r_and, r_or, r_xor, r_neg, r_inv, r_lt, r_le, r_gt, r_ge, r_eqI, r_neI, r_eqS, r_neS, r_inS, r_niS, List.getElem?_cons_zero, List.getElem?_cons_succ, List.set_cons_zero, List.set_cons_succ, List.map_cons, List.map_nil, List.length_cons, List.length_nil, Nat.reduceAdd, Nat.reduceSub, List.replicate_succ, List.replicate_zero, List.cons_append, List.nil_append, List.append_nil, Bool.not_true, Bool.not_false, if_true, if_false, ite_true, ite_false, Bool.false_eq_true, Bool.true_eq_false, reduceIte]
    refine h x _ (fun p o ho => ?_) ⟨dx, t, upd_same, ?_⟩
    · obtain ⟨k1, k2⟩ := x0 _ ((x3.upd_of ht)) p o ho
      rw [upd_ne k2]
      refine x4.get ?_
      rw [eH3, upd_ne k2]
      exact k1
    · rw [upd_ne ntx]
      exact x4.get e5
end U

namespace U
open PySem PySem.Spec PyProof.Rows L2
variable {K : PySem.W.Frag} {w : World} {n : Nat} {H : Hp} {Q : VK} {E : XK}
variable {a b c : List Nat} {m : Addr}
theorem c_who (hm : IsC K H m a b c) (hn : 1 ≤ n) (h : Q (.str (S a)) H) : run hd.pg K w n s_Clause_who [.ref m] H Q E := by
  obtain ⟨dx, t, h1, h2⟩ := hm
  refine run_at f_Clause_who hn rfl ?_
  simp only [d_Clause_who, b_Clause_who, L2.start, e_k, e_v, e_g, e_bop, e_uop, e_not, e_and, e_or, e_ite, e_cmp, e_cmp2, e_lst, e_tup, e_dic, e_call, e_mk, e_bi, e_isi, e_meth, e_bm, e_icall, e_ostr, e_att, e_ix, e_sl, e_lc, t_v, t_isi, t_call, t_meth, t_bop, t_bi, t_att, t_not, t_and, t_or, t_cmp, t_cmp2, trQ_bl, blQ_bl, a_nil', a_cons, s_nil, s_cons, s_set, s_setLc, s_par, s_expr, s_ret, s_retN, s_if, s_for, s_never, s_pass, s_brk, s_cont, g_v', g_tup, g_sub, g_att, gs_nil, gs_cons, gs_tup, i_L, i_T, i_S, i_R1, i_ES, i_E, i_Z, p_nil, p_pair, o_nil, o_k, x_K, x_w, x_fn, x_gv, x_tabs, x_mth, x_prp, x_fld, x_isi, x_kwo, isi_int, isi_str, isi_bl, isi_non, ii1, ii2, ii3, ii4, ii5, ii6, ii7, r_add, r_sub, r_mul, r_div, r_mod, r_pow, r_shl, r_shr, r_and, r_or, r_xor, r_neg, r_inv, r_lt, r_le, r_gt, r_ge, r_eqI, r_neI, r_eqS, r_neS, r_inS, r_niS, List.getElem?_cons_zero, List.getElem?_cons_succ, List.set_cons_zero, List.set_cons_succ, List.map_cons, List.map_nil, List.length_cons, List.length_nil, Nat.reduceAdd, Nat.reduceSub, List.replicate_succ, List.replicate_zero, List.cons_append, List.nil_append, List.append_nil, Bool.not_true, Bool.not_false, if_true, if_false, ite_true, ite_false, Bool.false_eq_true, Bool.true_eq_false, reduceIte]
  refine x_fldv h1 rfl rfl ?_
  exact x_ixT h2 rfl h
theorem c_sign (hm : IsC K H m a b c) (hn : 1 ≤ n) (h : Q (.str (S b)) H) : run hd.pg K w n s_Clause_sign [.ref m] H Q E := by
  obtain ⟨dx, t, h1, h2⟩ := hm
  refine run_at f_Clause_sign hn rfl ?_
  simp only [d_Clause_sign, b_Clause_sign, L2.start, e_k, e_v, e_g, e_bop, e_uop, e_not, e_and, e_or, e_ite, e_cmp, e_cmp2, e_lst, e_tup, e_dic, e_call, e_mk, e_bi, e_isi, e_meth, e_bm, e_icall, e_ostr, e_att, e_ix, e_sl, e_lc, t_v, t_isi, t_call, t_meth, t_bop, t_bi, t_att, t_not, t_and, t_or, t_cmp, t_cmp2, trQ_bl, blQ_bl, a_nil', a_cons, s_nil, s_cons, s_set, s_setLc, s_par, s_expr, s_ret, s_retN, s_if, s_for, s_never, s_pass, s_brk, s_cont, g_v', g_tup, g_sub, g_att, gs_nil, gs_cons, gs_tup, i_L, i_T, i_S, i_R1, i_ES, i_E, i_Z, p_nil, p_pair, o_nil, o_k, x_K, x_w, x_fn, x_gv, x_tabs, x_mth, x_prp, x_fld, x_isi, x_kwo, isi_int, isi_str, isi_bl, isi_non, ii1, ii2, ii3, ii4, ii5, ii6, ii7, r_add, r_sub, r_mul, r_div, r_mod, r_pow, r_shl, r_shr, r_and, r_or, r_xor, r_neg, r_inv, r_lt, r_le, r_gt, r_ge, r_eqI, r_neI, r_eqS, r_neS, r_inS, r_niS, List.getElem?_cons_zero, List.getElem?_cons_succ, List.set_cons_zero, List.set_cons_succ, List.map_cons, List.map_nil, List.length_cons, List.length_nil, Nat.reduceAdd, Nat.reduceSub, List.replicate_succ, List.replicate_zero, List.cons_append, List.nil_append, List.append_nil, Bool.not_true, Bool.not_false, if_true, if_false, ite_true, ite_false, Bool.false_eq_true, Bool.true_eq_false, reduceIte]
  refine x_fldv h1 rfl rfl ?_
  exact x_ixT h2 rfl h
theorem c_what (hm : IsC K H m a b c) (hn : 1 ≤ n) (h : Q (.str (S c)) H) : run hd.pg K w n s_Clause_what [.ref m] H Q E := by
  obtain ⟨dx, t, h1, h2⟩ := hm
  refine run_at f_Clause_what hn rfl ?_
  simp only [d_Clause_what, b_Clause_what, L2.start, e_k, e_v, e_g, e_bop, e_uop, e_not, e_and, e_or, e_ite, e_cmp, e_cmp2, e_lst, e_tup, e_dic, e_call, e_mk, e_bi, e_isi, e_meth, e_bm, e_icall, e_ostr, e_att, e_ix, e_sl, e_lc, t_v, t_isi, t_call, t_meth, t_bop, t_bi, t_att, t_not, t_and, t_or, t_cmp, t_cmp2, trQ_bl, blQ_bl, a_nil', a_cons, s_nil, s_cons, s_set, s_setLc, s_par, s_expr, s_ret, s_retN, s_if, s_for, s_never, s_pass, s_brk, s_cont, g_v', g_tup, g_sub, g_att, gs_nil, gs_cons, gs_tup, i_L, i_T, i_S, i_R1, i_ES, i_E, i_Z, p_nil, p_pair, o_nil, o_k, x_K, x_w, x_fn, x_gv, x_tabs, x_mth, x_prp, x_fld, x_isi, x_kwo, isi_int, isi_str, isi_bl, isi_non, ii1, ii2, ii3, ii4, ii5, ii6, ii7, r_add, r_sub, r_mul, r_div, r_mod, r_pow, r_shl, r_shr, r_and, r_or, r_xor, r_neg, r_inv, r_lt, r_le, r_gt, r_ge, r_eqI, r_neI, r_eqS, r_neS, r_inS, r_niS, List.getElem?_cons_zero, List.getElem?_cons_succ, List.set_cons_zero, List.set_cons_succ, List.map_cons, List.map_nil, List.length_cons, List.length_nil, Nat.reduceAdd, Nat.reduceSub, List.replicate_succ, List.replicate_zero, List.cons_append, List.nil_append, List.append_nil, Bool.not_true, Bool.not_false, if_true, if_false, ite_true, ite_false, Bool.false_eq_true, Bool.true_eq_false, reduceIte]
  refine x_fldv h1 rfl rfl ?_
  exact x_ixT h2 rfl h
theorem p_who {E : XK} {fn : Str → Sp} (hm : IsC K H m a b c) (h : fn s_Clause_who [.ref m] H Q fun _ _ _ => False) : rAtt (hd.pg.ctx K w fn) s_who E (.ref m) H Q := by
  obtain ⟨dx, t, h1, h2⟩ := hm
  exact x_prpv h1 rfl h
theorem p_sign {E : XK} {fn : Str → Sp} (hm : IsC K H m a b c) (h : fn s_Clause_sign [.ref m] H Q fun _ _ _ => False) : rAtt (hd.pg.ctx K w fn) s_sign E (.ref m) H Q := by
  obtain ⟨dx, t, h1, h2⟩ := hm
  exact x_prpv h1 rfl h
theorem p_what {E : XK} {fn : Str → Sp} (hm : IsC K H m a b c) (h : fn s_Clause_what [.ref m] H Q fun _ _ _ => False) : rAtt (hd.pg.ctx K w fn) s_what E (.ref m) H Q := by
  obtain ⟨dx, t, h1, h2⟩ := hm
  exact x_prpv h1 rfl h
def formL (f : Bool) : List Nat := if f then [102, 111, 108, 100, 101, 114] else [102, 105, 108, 101]
def bitK (c : List Nat) : Option Int := if c = [117] then some 4 else if c = [103] then some 2 else if c = [111] then some 1 else none
theorem bitK1 : ∀ c ∈ whatL, List.lookup (S c) [(S [117], V.int 4), (S [103], V.int 2), (S [111], V.int 1)] = (bitK c).map V.int := by decide +kernel
def takesB (c : List Nat) (l : Nat) (pat : Int) (f : Bool) : Bool := match bitK c with
  | some k => decide (0 < Builtin.bitAnd pat k)
  | none => inS (S [l]) (S c) || ((S [l] == S [120]) && (inS (S [88]) (S c) && (f || decide (0 < pat))))
theorem c_takes {l : Nat} {pat : Int} {f : Bool} (hc : c ∈ whatL) (hm : IsC K H m a b c) (hn : 2 ≤ n) (h : Q (.bl (takesB c l pat f)) H) : run hd.pg K w n s_Clause_takes [.ref m, .str (S [l]), .int pat, .str (S (formL f))] H Q E := by
  have hk := bitK1 c hc
  refine run_at f_Clause_takes (by omega) rfl ?_
  simp only [d_Clause_takes, b_Clause_takes, L2.start, gv6, e_k, e_v, e_g, e_bop, e_uop, e_not, e_and, e_or, e_ite, e_cmp, e_cmp2, e_lst, e_tup, e_dic, e_call, e_mk, e_bi, e_isi, e_meth, e_bm, e_icall, e_ostr, e_att, e_ix, e_sl, e_lc, t_v, t_isi, t_call, t_meth, t_bop, t_bi, t_att, t_not, t_and, t_or, t_cmp, t_cmp2, trQ_bl, blQ_bl, a_nil', a_cons, s_nil, s_cons, s_set, s_setLc, s_par, s_expr, s_ret, s_retN, s_if, s_for, s_never, s_pass, s_brk, s_cont, g_v', g_tup, g_sub, g_att, gs_nil, gs_cons, gs_tup, i_L, i_T, i_S, i_R1, i_ES, i_E, i_Z, p_nil, p_pair, o_nil, o_k, x_K, x_w, x_fn, x_gv, x_tabs, x_mth, x_prp, x_fld, x_isi, x_kwo, isi_int, isi_str, isi_bl, isi_non, ii1, ii2, ii3, ii4, ii5, ii6, ii7, r_add, r_sub, r_mul, r_div, r_mod, r_pow, r_shl, r_shr, r_and, r_or, r_xor, r_neg, r_inv, r_lt, r_le, r_gt, r_ge, r_eqI, r_neI, r_eqS, r_neS, r_inS, r_niS, List.getElem?_cons_zero, List.getElem?_cons_succ, List.set_cons_zero, List.set_cons_succ, List.map_cons, List.map_nil, List.length_cons, List.length_nil, Nat.reduceAdd, Nat.reduceSub, List.replicate_succ, List.replicate_zero, List.cons_append, List.nil_append, List.append_nil, Bool.not_true, Bool.not_false, if_true, if_false, ite_true, ite_false, Bool.false_eq_true, Bool.true_eq_false, reduceIte]
  refine p_what hm (c_what hm (by omega) ?_)
  refine r_inK tb2 rfl ?_
  unfold takesB at h
  dsimp only
  rw [hk]
  cases e : bitK c with
  | some k =>
    rw [e] at h hk
    simp only [Option.map_some, Option.isSome_some, e_k, e_v, e_g, e_bop, e_uop, e_not, e_and, e_or, e_ite, e_cmp, e_cmp2, e_lst, e_tup, e_dic, e_call, e_mk, e_bi, e_isi, e_meth, e_bm, e_icall, e_ostr, e_att, e_ix, e_sl, e_lc, t_v, t_isi, t_call, t_meth, t_bop, t_bi, t_att, t_not, t_and, t_or, t_cmp, t_cmp2, trQ_bl, blQ_bl, a_nil', a_cons, s_nil, s_cons, s_set, s_setLc, s_par, s_expr, s_ret, s_retN, s_if, s_for, s_never, s_pass, s_brk, s_cont, g_v', g_tup, g_sub, g_att, gs_nil, gs_cons, gs_tup, i_L, i_T, i_S, i_R1, i_ES, i_E, i_Z, p_nil, p_pair, o_nil, o_k, x_K, x_w, x_fn, x_gv, x_tabs, x_mth, x_prp, x_fld, x_isi, x_kwo, isi_int, isi_str, isi_bl, isi_non, ii1, ii2, ii3, ii4, ii5, ii6, ii7, r_add, r_sub, r_mul, r_div, r_mod, r_pow, r_shl, r_shr, r_and, r_or, r_xor, r_neg, r_inv, r_lt, r_le, r_gt, r_ge, r_eqI, r_neI, r_eqS, r_neS, r_inS, r_niS, List.getElem?_cons_zero, List.getElem?_cons_succ, List.set_cons_zero, List.set_cons_succ, List.map_cons, List.map_nil, List.length_cons, List.length_nil, Nat.reduceAdd, Nat.reduceSub, List.replicate_succ, List.replicate_zero, List.cons_append, List.nil_append, List.append_nil, Bool.not_true, Bool.not_false, if_true, if_false, ite_true, ite_false, Bool.false_eq_true, Bool.true_eq_false, reduceIte]
    refine p_what hm (c_what hm (by omega) ?_)
    exact x_ixK tb2 rfl hk h
  | none =>
    rw [e] at h
    simp only [Option.map_none, Option.isSome_none, e_k, e_v, e_g, e_bop, e_uop, e_not, e_and, e_or, e_ite, e_cmp, e_cmp2, e_lst, e_tup, e_dic, e_call, e_mk, e_bi, e_isi, e_meth, e_bm, e_icall, e_ostr, e_att, e_ix, e_sl, e_lc, t_v, t_isi, t_call, t_meth, t_bop, t_bi, t_att, t_not, t_and, t_or, t_cmp, t_cmp2, trQ_bl, blQ_bl, a_nil', a_cons, s_nil, s_cons, s_set, s_setLc, s_par, s_expr, s_ret, s_retN, s_if, s_for, s_never, s_pass, s_brk, s_cont, g_v', g_tup, g_sub, g_att, gs_nil, gs_cons, gs_tup, i_L, i_T, i_S, i_R1, i_ES, i_E, i_Z, p_nil, p_pair, o_nil, o_k, x_K, x_w, x_fn, x_gv, x_tabs, x_mth, x_prp, x_fld, x_isi, x_kwo, isi_int, isi_str, isi_bl, isi_non, ii1, ii2, ii3, ii4, ii5, ii6, ii7, r_add, r_sub, r_mul, r_div, r_mod, r_pow, r_shl, r_shr, r_and, r_or, r_xor, r_neg, r_inv, r_lt, r_le, r_gt, r_ge, r_eqI, r_neI, r_eqS, r_neS, r_inS, r_niS, List.getElem?_cons_zero, List.getElem?_cons_succ, List.set_cons_zero, List.set_cons_succ, List.map_cons, List.map_nil, List.length_cons, List.length_nil, Nat.reduceAdd, Nat.reduceSub, List.replicate_succ, List.replicate_zero, List.cons_append, List.nil_append, List.append_nil, Bool.not_true, Bool.not_false, if_true, if_false, ite_true, ite_false, Bool.false_eq_true, Bool.true_eq_false, reduceIte]
    refine p_what hm (c_what hm (by omega) ?_)
    simp only [Bool.false_xor, e_k, e_v, e_g, e_bop, e_uop, e_not, e_and, e_or, e_ite, e_cmp, e_cmp2, e_lst, e_tup, e_dic, e_call, e_mk, e_bi, e_isi, e_meth, e_bm, e_icall, e_ostr, e_att, e_ix, e_sl, e_lc, t_v, t_isi, t_call, t_meth, t_bop, t_bi, t_att, t_not, t_and, t_or, t_cmp, t_cmp2, trQ_bl, blQ_bl, a_nil', a_cons, s_nil, s_cons, s_set, s_setLc, s_par, s_expr, s_ret, s_retN, s_if, s_for, s_never, s_pass, s_brk, s_cont, g_v', g_tup, g_sub, g_att, gs_nil, gs_cons, gs_tup, i_L, i_T, i_S, i_R1, i_ES, i_E, i_Z, p_nil, p_pair, o_nil, o_k, x_K, x_w, x_fn, x_gv, x_tabs, x_mth, x_prp, x_fld, x_isi, x_kwo, isi_int, isi_str, isi_bl, isi_non, ii1, ii2, ii3, ii4, ii5, ii6, ii7, r_add, r_sub, r_mul, r_div, r_mod, r_pow, r_shl, r_shr, r_and, r_or, r_xor, r_neg, r_inv, r_lt, r_le, r_gt, r_ge, r_eqI, r_neI, r_eqS, r_neS, r_inS, r_niS, List.getElem?_cons_zero, List.getElem?_cons_succ, List.set_cons_zero, List.set_cons_succ, List.map_cons, List.map_nil, List.length_cons, List.length_nil, Nat.reduceAdd, Nat.reduceSub, List.replicate_succ, List.replicate_zero, List.cons_append, List.nil_append, List.append_nil, Bool.not_true, Bool.not_false, if_true, if_false, ite_true, ite_false, Bool.false_eq_true, Bool.true_eq_false, reduceIte]
    dsimp only at h
    cases e1 : inS (S [l]) (S c) with
    | true =>
      rw [e1] at h
      try simp only [for_nil, for_v, for_t, lc_nil, lc_v, lc_t, lc_turn0, lc_turn1, wipe_nil, wipe_cons, true_and, and_true, upd_same, upd_upd, Option.some.injEq, HO.lst.injEq, HO.tup.injEq, HO.dK.injEq, exists_eq_left', List.singleton_append, Int.cast_ofNat_Int, and1, e_k, e_v, e_g, e_bop, e_uop, e_not, e_and, e_or, e_ite, e_cmp, e_cmp2, e_lst, e_tup, e_dic, e_call, e_mk, e_bi, e_isi, e_meth, e_bm, e_icall, e_ostr, e_att, e_ix, e_sl, e_lc, t_v, t_isi, t_call, t_meth, t_bop, t_bi, t_att, t_not, t_and, t_or, t_cmp, t_cmp2, trQ_bl, blQ_bl, a_nil', a_cons, s_nil, s_cons, s_set, s_setLc, s_par, s_expr, s_ret, s_retN, s_if, s_for, s_never, s_pass, s_brk, s_cont, g_v', g_tup, g_sub, g_att, gs_nil, gs_cons, gs_tup, i_L, i_T, i_S, i_R1, i_ES, i_E, i_Z, p_nil, p_pair, o_nil, o_k, x_K, x_w, x_fn, x_gv, x_tabs, x_mth, x_prp, x_fld, x_isi, x_kwo, isi_int, isi_str, isi_bl, isi_non, ii1, ii2, ii3, ii4, ii5, ii6, ii7, r_add, r_sub, r_mul, r_div, r_mod, r_pow, r_shl, r_shr, r_and, r_or, r_xor, r_neg, r_inv, r_lt, r_le, r_gt, r_ge, r_eqI, r_neI, r_eqS, r_neS, r_inS, r_niS, List.getElem?_cons_zero, List.getElem?_cons_succ, List.set_cons_zero, List.set_cons_succ, List.map_cons, List.map_nil, List.length_cons, List.length_nil, Nat.reduceAdd, Nat.reduceSub, List.replicate_succ, List.replicate_zero, List.cons_append, List.nil_append, List.append_nil, Bool.not_true, Bool.not_false, if_true, if_false, ite_true, ite_false, Bool.false_eq_true, Bool.true_eq_false, reduceIte]
      exact h
    | false =>
      rw [e1] at h
      try simp only [for_nil, for_v, for_t, lc_nil, lc_v, lc_t, lc_turn0, lc_turn1, wipe_nil, wipe_cons, true_and, and_true, upd_same, upd_upd, Option.some.injEq, HO.lst.injEq, HO.tup.injEq, HO.dK.injEq, exists_eq_left', List.singleton_append, Int.cast_ofNat_Int, and1, e_k, e_v, e_g, e_bop, e_uop, e_not, e_and, e_or, e_ite, e_cmp, e_cmp2, e_lst, e_tup, e_dic, e_call, e_mk, e_bi, e_isi, e_meth, e_bm, e_icall, e_ostr, e_att, e_ix, e_sl, e_lc, t_v, t_isi, t_call, t_meth, t_bop, t_bi, t_att, t_not, t_and, t_or, t_cmp, t_cmp2, trQ_bl, blQ_bl, a_nil', a_cons, s_nil, s_cons, s_set, s_setLc, s_par, s_expr, s_ret, s_retN, s_if, s_for, s_never, s_pass, s_brk, s_cont, g_v', g_tup, g_sub, g_att, gs_nil, gs_cons, gs_tup, i_L, i_T, i_S, i_R1, i_ES, i_E, i_Z, p_nil, p_pair, o_nil, o_k, x_K, x_w, x_fn, x_gv, x_tabs, x_mth, x_prp, x_fld, x_isi, x_kwo, isi_int, isi_str, isi_bl, isi_non, ii1, ii2, ii3, ii4, ii5, ii6, ii7, r_add, r_sub, r_mul, r_div, r_mod, r_pow, r_shl, r_shr, r_and, r_or, r_xor, r_neg, r_inv, r_lt, r_le, r_gt, r_ge, r_eqI, r_neI, r_eqS, r_neS, r_inS, r_niS, List.getElem?_cons_zero, List.getElem?_cons_succ, List.set_cons_zero, List.set_cons_succ, List.map_cons, List.map_nil, List.length_cons, List.length_nil, Nat.reduceAdd, Nat.reduceSub, List.replicate_succ, List.replicate_zero, List.cons_append, List.nil_append, List.append_nil, Bool.not_true, Bool.not_false, if_true, if_false, ite_true, ite_false, Bool.false_eq_true, Bool.true_eq_false, reduceIte]
      cases e2 : (S [l] == S [120]) with
      | false =>
        rw [e2] at h
        try simp only [for_nil, for_v, for_t, lc_nil, lc_v, lc_t, lc_turn0, lc_turn1, wipe_nil, wipe_cons, true_and, and_true, upd_same, upd_upd, Option.some.injEq, HO.lst.injEq, HO.tup.injEq, HO.dK.injEq, exists_eq_left', List.singleton_append, Int.cast_ofNat_Int, and1, e_k, e_v, e_g, e_bop, e_uop, e_not, e_and, e_or, e_ite, e_cmp, e_cmp2, e_lst, e_tup, e_dic, e_call, e_mk, e_bi, e_isi, e_meth, e_bm, e_icall, e_ostr, e_att, e_ix, e_sl, e_lc, t_v, t_isi, t_call, t_meth, t_bop, t_bi, t_att, t_not, t_and, t_or, t_cmp, t_cmp2, trQ_bl, blQ_bl, a_nil', a_cons, s_nil, s_cons, s_set, s_setLc, s_par, s_expr, s_ret, s_retN, s_if, s_for, s_never, s_pass, s_brk, s_cont, g_v', g_tup, g_sub, g_att, gs_nil, gs_cons, gs_tup, i_L, i_T, i_S, i_R1, i_ES, i_E, i_Z, p_nil, p_pair, o_nil, o_k, x_K, x_w, x_fn, x_gv, x_tabs, x_mth, x_prp, x_fld, x_isi, x_kwo, isi_int, isi_str, isi_bl, isi_non, ii1, ii2, ii3, ii4, ii5, ii6, ii7, r_add, r_sub, r_mul, r_div, r_mod, r_pow, r_shl, r_shr, r_and, r_or, r_xor, r_neg, r_inv, r_lt, r_le, r_gt, r_ge, r_eqI, r_neI, r_eqS, r_neS, r_inS, r_niS, List.getElem?_cons_zero, List.getElem?_cons_succ, List.set_cons_zero, List.set_cons_succ, List.map_cons, List.map_nil, List.length_cons, List.length_nil, Nat.reduceAdd, Nat.reduceSub, List.replicate_succ, List.replicate_zero, List.cons_append, List.nil_append, List.append_nil, Bool.not_true, Bool.not_false, if_true, if_false, ite_true, ite_false, Bool.false_eq_true, Bool.true_eq_false, reduceIte]
        exact h
      | true =>
        rw [e2] at h
        try simp only [for_nil, for_v, for_t, lc_nil, lc_v, lc_t, lc_turn0, lc_turn1, wipe_nil, wipe_cons, true_and, and_true, upd_same, upd_upd, Option.some.injEq, HO.lst.injEq, HO.tup.injEq, HO.dK.injEq, exists_eq_left', List.singleton_append, Int.cast_ofNat_Int, and1, e_k, e_v, e_g, e_bop, e_uop, e_not, e_and, e_or, e_ite, e_cmp, e_cmp2, e_lst, e_tup, e_dic, e_call, e_mk, e_bi, e_isi, e_meth, e_bm, e_icall, e_ostr, e_att, e_ix, e_sl, e_lc, t_v, t_isi, t_call, t_meth, t_bop, t_bi, t_att, t_not, t_and, t_or, t_cmp, t_cmp2, trQ_bl, blQ_bl, a_nil', a_cons, s_nil, s_cons, s_set, s_setLc, s_par, s_expr, s_ret, s_retN, s_if, s_for, s_never, s_pass, s_brk, s_cont, g_v', g_tup, g_sub, g_att, gs_nil, gs_cons, gs_tup, i_L, i_T, i_S, i_R1, i_ES, i_E, i_Z, p_nil, p_pair, o_nil, o_k, x_K, x_w, x_fn, x_gv, x_tabs, x_mth, x_prp, x_fld, x_isi, x_kwo, isi_int, isi_str, isi_bl, isi_non, ii1, ii2, ii3, ii4, ii5, ii6, ii7, r_add, r_sub, r_mul, r_div, r_mod, r_pow, r_shl, r_shr, r_and, r_or, r_xor, r_neg, r_inv, r_lt, r_le, r_gt, r_ge, r_eqI, r_neI, r_eqS, r_neS, r_inS, r_niS, List.getElem?_cons_zero, List.getElem?_cons_succ, List.set_cons_zero, List.set_cons_succ, List.map_cons, List.map_nil, List.length_cons, List.length_nil, Nat.reduceAdd, Nat.reduceSub, List.replicate_succ, List.replicate_zero, List.cons_append, List.nil_append, List.append_nil, Bool.not_true, Bool.not_false, if_true, if_false, ite_true, ite_false, Bool.false_eq_true, Bool.true_eq_false, reduceIte]
        refine p_what hm (c_what hm (by omega) ?_)
        simp only [Bool.false_xor, e_k, e_v, e_g, e_bop, e_uop, e_not, e_and, e_or, e_ite, e_cmp, e_cmp2, e_lst, e_tup, e_dic, e_call, e_mk, e_bi, e_isi, e_meth, e_bm, e_icall, e_ostr, e_att, e_ix, e_sl, e_lc, t_v, t_isi, t_call, t_meth, t_bop, t_bi, t_att, t_not, t_and, t_or, t_cmp, t_cmp2, trQ_bl, blQ_bl, a_nil', a_cons, s_nil, s_cons, s_set, s_setLc, s_par, s_expr, s_ret, s_retN, s_if, s_for, s_never, s_pass, s_brk, s_cont, g_v', g_tup, g_sub, g_att, gs_nil, gs_cons, gs_tup, i_L, i_T, i_S, i_R1, i_ES, i_E, i_Z, p_nil, p_pair, o_nil, o_k, x_K, x_w, x_fn, x_gv, x_tabs, x_mth, x_prp, x_fld, x_isi, x_kwo, isi_int, isi_str, isi_bl, isi_non, ii1, ii2, ii3, ii4, ii5, ii6, ii7, r_add, r_sub, r_mul, r_div, r_mod, r_pow, r_shl, r_shr, r_and, r_or, r_xor, r_neg, r_inv, r_lt, r_le, r_gt, r_ge, r_eqI, r_neI, r_eqS, r_neS, r_inS, r_niS, List.getElem?_cons_zero, List.getElem?_cons_succ, List.set_cons_zero, List.set_cons_succ, List.map_cons, List.map_nil, List.length_cons, List.length_nil, Nat.reduceAdd, Nat.reduceSub, List.replicate_succ, List.replicate_zero, List.cons_append, List.nil_append, List.append_nil, Bool.not_true, Bool.not_false, if_true, if_false, ite_true, ite_false, Bool.false_eq_true, Bool.true_eq_false, reduceIte]
        cases e3 : inS (S [88]) (S c) with
        | false =>
          rw [e3] at h
          try simp only [for_nil, for_v, for_t, lc_nil, lc_v, lc_t, lc_turn0, lc_turn1, wipe_nil, wipe_cons, true_and, and_true, upd_same, upd_upd, Option.some.injEq, HO.lst.injEq, HO.tup.injEq, HO.dK.injEq, exists_eq_left', List.singleton_append, Int.cast_ofNat_Int, and1, e_k, e_v, e_g, e_bop, e_uop, e_not, e_and, e_or, e_ite, e_cmp, e_cmp2, e_lst, e_tup, e_dic, e_call, e_mk, e_bi, e_isi, e_meth, e_bm, e_icall, e_ostr, e_att, e_ix, e_sl, e_lc, t_v, t_isi, t_call, t_meth, t_bop, t_bi, t_att, t_not, t_and, t_or, t_cmp, t_cmp2, trQ_bl, blQ_bl, a_nil', a_cons, s_nil, s_cons, s_set, s_setLc, s_par, s_expr, s_ret, s_retN, s_if, s_for, s_never, s_pass, s_brk, s_cont, g_v', g_tup, g_sub, g_att, gs_nil, gs_cons, gs_tup, i_L, i_T, i_S, i_R1, i_ES, i_E, i_Z, p_nil, p_pair, o_nil, o_k, x_K, x_w, x_fn, x_gv, x_tabs, x_mth, x_prp, x_fld, x_isi, x_kwo, isi_int, isi_str, isi_bl, isi_non, ii1, ii2, ii3, ii4, ii5, ii6, ii7, r_add, r_sub, r_mul, r_div, r_mod, r_pow, r_shl, r_shr, r_and, r_or, r_xor, r_neg, r_inv, r_lt, r_le, r_gt, r_ge, r_eqI, r_neI, r_eqS, r_neS, r_inS, r_niS, List.getElem?_cons_zero, List.getElem?_cons_succ, List.set_cons_zero, List.set_cons_succ, List.map_cons, List.map_nil, List.length_cons, List.length_nil, Nat.reduceAdd, Nat.reduceSub, List.replicate_succ, List.replicate_zero, List.cons_append, List.nil_append, List.append_nil, Bool.not_true, Bool.not_false, if_true, if_false, ite_true, ite_false, Bool.false_eq_true, Bool.true_eq_false, reduceIte]
          exact h
        | true =>
          rw [e3] at h
          try simp only [for_nil, for_v, for_t, lc_nil, lc_v, lc_t, lc_turn0, lc_turn1, wipe_nil, wipe_cons, true_and, and_true, upd_same, upd_upd, Option.some.injEq, HO.lst.injEq, HO.tup.injEq, HO.dK.injEq, exists_eq_left', List.singleton_append, Int.cast_ofNat_Int, and1, e_k, e_v, e_g, e_bop, e_uop, e_not, e_and, e_or, e_ite, e_cmp, e_cmp2, e_lst, e_tup, e_dic, e_call, e_mk, e_bi, e_isi, e_meth, e_bm, e_icall, e_ostr, e_att, e_ix, e_sl, e_lc, t_v, t_isi, t_call, t_meth, t_bop, t_bi, t_att, t_not, t_and, t_or, t_cmp, t_cmp2, trQ_bl, blQ_bl, a_nil', a_cons, s_nil, s_cons, s_set, s_setLc, s_par, s_expr, s_ret, s_retN, s_if, s_for, s_never, s_pass, s_brk, s_cont, g_v', g_tup, g_sub, g_att, gs_nil, gs_cons, gs_tup, i_L, i_T, i_S, i_R1, i_ES, i_E, i_Z, p_nil, p_pair, o_nil, o_k, x_K, x_w, x_fn, x_gv, x_tabs, x_mth, x_prp, x_fld, x_isi, x_kwo, isi_int, isi_str, isi_bl, isi_non, ii1, ii2, ii3, ii4, ii5, ii6, ii7, r_add, r_sub, r_mul, r_div, r_mod, r_pow, r_shl, r_shr, r_and, r_or, r_xor, r_neg, r_inv, r_lt, r_le, r_gt, r_ge, r_eqI, r_neI, r_eqS, r_neS, r_inS, r_niS, List.getElem?_cons_zero, List.getElem?_cons_succ, List.set_cons_zero, List.set_cons_succ, List.map_cons, List.map_nil, List.length_cons, List.length_nil, Nat.reduceAdd, Nat.reduceSub, List.replicate_succ, List.replicate_zero, List.cons_append, List.nil_append, List.append_nil, Bool.not_true, Bool.not_false, if_true, if_false, ite_true, ite_false, Bool.false_eq_true, Bool.true_eq_false, reduceIte]
          cases f with
          | true =>
            rw [show (S (formL true) == S [102, 111, 108, 100, 101, 114]) = true from rfl]
            try simp only [for_nil, for_v, for_t, lc_nil, lc_v, lc_t, lc_turn0, lc_turn1, wipe_nil, wipe_cons, true_and, and_true, upd_same, upd_upd, Option.some.injEq, HO.lst.injEq, HO.tup.injEq, HO.dK.injEq, exists_eq_left', List.singleton_append, Int.cast_ofNat_Int, and1, e_k, e_v, e_g, e_bop, e_uop, e_not, e_and, e_or, e_ite, e_cmp, e_cmp2, e_lst, e_tup, e_dic, e_call, e_mk, e_bi, e_isi, e_meth, e_bm, e_icall, e_ostr, e_att, e_ix, e_sl, e_lc, t_v, t_isi, t_call, t_meth, t_bop, t_bi, t_att, t_not, t_and, t_or, t_cmp, t_cmp2, trQ_bl, blQ_bl, a_nil', a_cons, s_nil, s_cons, s_set, s_setLc, s_par, s_expr, s_ret, s_retN, s_if, s_for, s_never, s_pass, s_brk, s_cont, g_v', g_tup, g_sub, g_att, gs_nil, gs_cons, gs_tup, i_L, i_T, i_S, i_R1, i_ES, i_E, i_Z, p_nil, p_pair, o_nil, o_k, x_K, x_w, x_fn, x_gv, x_tabs, x_mth, x_prp, x_fld, x_isi, x_kwo, isi_int, isi_str, isi_bl, isi_non, ii1, ii2, ii3, ii4, ii5, ii6, ii7, r_add, r_sub, r_mul, r_div, r_mod, r_pow, r_shl, r_shr, r_and, r_or, r_xor, r_neg, r_inv, r_lt, r_le, r_gt, r_ge, r_eqI, r_neI, r_eqS, r_neS, r_inS, r_niS, List.getElem?_cons_zero, List.getElem?_cons_succ, List.set_cons_zero, List.set_cons_succ, List.map_cons, List.map_nil, List.length_cons, List.length_nil, Nat.reduceAdd, Nat.reduceSub, List.replicate_succ, List.replicate_zero, List.cons_append, List.nil_append, List.append_nil, Bool.not_true, Bool.not_false, if_true, if_false, ite_true, ite_false, Bool.false_eq_true, Bool.true_eq_false, reduceIte]
            exact h
          | false =>
            rw [show (S (formL false) == S [102, 111, 108, 100, 101, 114]) = false from rfl]
            try simp only [for_nil, for_v, for_t, lc_nil, lc_v, lc_t, lc_turn0, lc_turn1, wipe_nil, wipe_cons, true_and, and_true, upd_same, upd_upd, Option.some.injEq, HO.lst.injEq, HO.tup.injEq, HO.dK.injEq, exists_eq_left', List.singleton_append, Int.cast_ofNat_Int, and1, e_k, e_v, e_g, e_bop, e_uop, e_not, e_and, e_or, e_ite, e_cmp, e_cmp2, e_lst, e_tup, e_dic, e_call, e_mk, e_bi, e_isi, e_meth, e_bm, e_icall, e_ostr, e_att, e_ix, e_sl, e_lc, t_v, t_isi, t_call, t_meth, t_bop, t_bi, t_att, t_not, t_and, t_or, t_cmp, t_cmp2, trQ_bl, blQ_bl, a_nil', a_cons, s_nil, s_cons, s_set, s_setLc, s_par, s_expr, s_ret, s_retN, s_if, s_for, s_never, s_pass, s_brk, s_cont, g_v', g_tup, g_sub, g_att, gs_nil, gs_cons, gs_tup, i_L, i_T, i_S, i_R1, i_ES, i_E, i_Z, p_nil, p_pair, o_nil, o_k, x_K, x_w, x_fn, x_gv, x_tabs, x_mth, x_prp, x_fld, x_isi, x_kwo, isi_int, isi_str, isi_bl, isi_non, ii1, ii2, ii3, ii4, ii5, ii6, ii7, r_add, r_sub, r_mul, r_div, r_mod, r_pow, r_shl, r_shr, r_and, r_or, r_xor, r_neg, r_inv, r_lt, r_le, r_gt, r_ge, r_eqI, r_neI, r_eqS, r_neS, r_inS, r_niS, List.getElem?_cons_zero, List.getElem?_cons_succ, List.set_cons_zero, List.set_cons_succ, List.map_cons, List.map_nil, List.length_cons, List.length_nil, Nat.reduceAdd, Nat.reduceSub, List.replicate_succ, List.replicate_zero, List.cons_append, List.nil_append, List.append_nil, Bool.not_true, Bool.not_false, if_true, if_false, ite_true, ite_false, Bool.false_eq_true, Bool.true_eq_false, reduceIte]
            exact h
def movedI (a b c : List Nat) (l : Nat) (pat : Int) (f : Bool) : Int :=
  if b = [61] then (if takesB c l pat f = true then Builtin.bitOr pat (bitsOf a) else Builtin.bitAnd pat (Builtin.bitNot (bitsOf a)))
  else if takesB c l pat f = true then (if b = [43] then Builtin.bitOr pat (bitsOf a) else Builtin.bitAnd pat (Builtin.bitNot (bitsOf a))) else pat
theorem fld_bits {E : XK} {fn : Str → Sp} (hm : IsC K H m a b c) (h : Q (.int (bitsOf a)) H) : rAtt (hd.pg.ctx K w fn) s_own_bits E (.ref m) H Q := by
  obtain ⟨dx, t, h1, h2⟩ := hm
  exact x_fldv h1 rfl rfl h
theorem c_moved {l : Nat} {pat : Int} {f : Bool} (hb : b ∈ signL) (hc : c ∈ whatL) (hm : IsC K H m a b c) (hn : 3 ≤ n) (h : Q (.int (movedI a b c l pat f)) H) : run hd.pg K w n s_Clause_moved [.ref m, .str (S [l]), .int pat, .str (S (formL f))] H Q E := by
  have hm' := hm
  obtain ⟨dx, t, h1, h2⟩ := hm'
  refine run_at f_Clause_moved (by omega) rfl ?_
  simp only [d_Clause_moved, b_Clause_moved, L2.start, gv6, e_k, e_v, e_g, e_bop, e_uop, e_not, e_and, e_or, e_ite, e_cmp, e_cmp2, e_lst, e_tup, e_dic, e_call, e_mk, e_bi, e_isi, e_meth, e_bm, e_icall, e_ostr, e_att, e_ix, e_sl, e_lc, t_v, t_isi, t_call, t_meth, t_bop, t_bi, t_att, t_not, t_and, t_or, t_cmp, t_cmp2, trQ_bl, blQ_bl, a_nil', a_cons, s_nil, s_cons, s_set, s_setLc, s_par, s_expr, s_ret, s_retN, s_if, s_for, s_never, s_pass, s_brk, s_cont, g_v', g_tup, g_sub, g_att, gs_nil, gs_cons, gs_tup, i_L, i_T, i_S, i_R1, i_ES, i_E, i_Z, p_nil, p_pair, o_nil, o_k, x_K, x_w, x_fn, x_gv, x_tabs, x_mth, x_prp, x_fld, x_isi, x_kwo, isi_int, isi_str, isi_bl, isi_non, ii1, ii2, ii3, ii4, ii5, ii6, ii7, r_add, r_sub, r_mul, r_div, r_mod, r_pow, r_shl, r_shr, r_and, r_or, r_xor, r_neg, r_inv, r_lt, r_le, r_gt, r_ge, r_eqI, r_neI, r_eqS, r_neS, r_inS, r_niS, List.getElem?_cons_zero, List.getElem?_cons_succ, List.set_cons_zero, List.set_cons_succ, List.map_cons, List.map_nil, List.length_cons, List.length_nil, Nat.reduceAdd, Nat.reduceSub, List.replicate_succ, List.replicate_zero, List.cons_append, List.nil_append, List.append_nil, Bool.not_true, Bool.not_false, if_true, if_false, ite_true, ite_false, Bool.false_eq_true, Bool.true_eq_false, reduceIte]
  refine ⟨s_Clause, dx, _, s_Clause_takes, h1, rfl, rfl, ?_⟩
  refine c_takes hc hm (by omega) ?_
  try simp only [for_nil, for_v, for_t, lc_nil, lc_v, lc_t, lc_turn0, lc_turn1, wipe_nil, wipe_cons, true_and, and_true, upd_same, upd_upd, Option.some.injEq, HO.lst.injEq, HO.tup.injEq, HO.dK.injEq, exists_eq_left', List.singleton_append, Int.cast_ofNat_Int, and1, e_k, e_v, e_g, e_bop, e_uop, e_not, e_and, e_or, e_ite, e_cmp, e_cmp2, e_lst, e_tup, e_dic, e_call, e_mk, e_bi, e_isi, e_meth, e_bm, e_icall, e_ostr, e_att, e_ix, e_sl, e_lc, t_v, t_isi, t_call, t_meth, t_bop, t_bi, t_att, t_not, t_and, t_or, t_cmp, t_cmp2, trQ_bl, blQ_bl, a_nil', a_cons, s_nil, s_cons, s_set, s_setLc, s_par, s_expr, s_ret, s_retN, s_if, s_for, s_never, s_pass, s_brk, s_cont, g_v', g_tup, g_sub, g_att, gs_nil, gs_cons, gs_tup, i_L, i_T, i_S, i_R1, i_ES, i_E, i_Z, p_nil, p_pair, o_nil, o_k, x_K, x_w, x_fn, x_gv, x_tabs, x_mth, x_prp, x_fld, x_isi, x_kwo, isi_int, isi_str, isi_bl, isi_non, ii1, ii2, ii3, ii4, ii5, ii6, ii7, r_add, r_sub, r_mul, r_div, r_mod, r_pow, r_shl, r_shr, r_and, r_or, r_xor, r_neg, r_inv, r_lt, r_le, r_gt, r_ge, r_eqI, r_neI, r_eqS, r_neS, r_inS, r_niS, List.getElem?_cons_zero, List.getElem?_cons_succ, List.set_cons_zero, List.set_cons_succ, List.map_cons, List.map_nil, List.length_cons, List.length_nil, Nat.reduceAdd, Nat.reduceSub, List.replicate_succ, List.replicate_zero, List.cons_append, List.nil_append, List.append_nil, Bool.not_true, Bool.not_false, if_true, if_false, ite_true, ite_false, Bool.false_eq_true, Bool.true_eq_false, reduceIte]
  refine p_sign hm (c_sign hm (by omega) ?_)
  unfold movedI at h
  simp only [signL, List.mem_cons, List.not_mem_nil, or_false] at hb
  rcases hb with rfl | rfl | rfl
  · rw [show (rCmp K w hd.pg.tabs .Eq (.str (S [43])) (.str (S [61]))) = fun H Q => Q (.bl false) H from rfl]
    cases e : takesB c l pat f with
    | true =>
      simp only [e, e_k, e_v, e_g, e_bop, e_uop, e_not, e_and, e_or, e_ite, e_cmp, e_cmp2, e_lst, e_tup, e_dic, e_call, e_mk, e_bi, e_isi, e_meth, e_bm, e_icall, e_ostr, e_att, e_ix, e_sl, e_lc, t_v, t_isi, t_call, t_meth, t_bop, t_bi, t_att, t_not, t_and, t_or, t_cmp, t_cmp2, trQ_bl, blQ_bl, a_nil', a_cons, s_nil, s_cons, s_set, s_setLc, s_par, s_expr, s_ret, s_retN, s_if, s_for, s_never, s_pass, s_brk, s_cont, g_v', g_tup, g_sub, g_att, gs_nil, gs_cons, gs_tup, i_L, i_T, i_S, i_R1, i_ES, i_E, i_Z, p_nil, p_pair, o_nil, o_k, x_K, x_w, x_fn, x_gv, x_tabs, x_mth, x_prp, x_fld, x_isi, x_kwo, isi_int, isi_str, isi_bl, isi_non, ii1, ii2, ii3, ii4, ii5, ii6, ii7, r_add, r_sub, r_mul, r_div, r_mod, r_pow, r_shl, r_shr, r_and, r_or, r_xor, r_neg, r_inv, r_lt, r_le, r_gt, r_ge, r_eqI, r_neI, r_eqS, r_neS, r_inS, r_niS, List.getElem?_cons_zero, List.getElem?_cons_succ, List.set_cons_zero, List.set_cons_succ, List.map_cons, List.map_nil, List.length_cons, List.length_nil, Nat.reduceAdd, Nat.reduceSub, List.replicate_succ, List.replicate_zero, List.cons_append, List.nil_append, List.append_nil, Bool.not_true, Bool.not_false, if_true, if_false, ite_true, ite_false, Bool.false_eq_true, Bool.true_eq_false, reduceIte]
      refine p_sign hm (c_sign hm (by omega) ?_)
      rw [show (rCmp K w hd.pg.tabs .Eq (.str (S [43])) (.str (S [43]))) = fun H Q => Q (.bl true) H from rfl]
      try simp only [for_nil, for_v, for_t, lc_nil, lc_v, lc_t, lc_turn0, lc_turn1, wipe_nil, wipe_cons, true_and, and_true, upd_same, upd_upd, Option.some.injEq, HO.lst.injEq, HO.tup.injEq, HO.dK.injEq, exists_eq_left', List.singleton_append, Int.cast_ofNat_Int, and1, e_k, e_v, e_g, e_bop, e_uop, e_not, e_and, e_or, e_ite, e_cmp, e_cmp2, e_lst, e_tup, e_dic, e_call, e_mk, e_bi, e_isi, e_meth, e_bm, e_icall, e_ostr, e_att, e_ix, e_sl, e_lc, t_v, t_isi, t_call, t_meth, t_bop, t_bi, t_att, t_not, t_and, t_or, t_cmp, t_cmp2, trQ_bl, blQ_bl, a_nil', a_cons, s_nil, s_cons, s_set, s_setLc, s_par, s_expr, s_ret, s_retN, s_if, s_for, s_never, s_pass, s_brk, s_cont, g_v', g_tup, g_sub, g_att, gs_nil, gs_cons, gs_tup, i_L, i_T, i_S, i_R1, i_ES, i_E, i_Z, p_nil, p_pair, o_nil, o_k, x_K, x_w, x_fn, x_gv, x_tabs, x_mth, x_prp, x_fld, x_isi, x_kwo, isi_int, isi_str, isi_bl, isi_non, ii1, ii2, ii3, ii4, ii5, ii6, ii7, r_add, r_sub, r_mul, r_div, r_mod, r_pow, r_shl, r_shr, r_and, r_or, r_xor, r_neg, r_inv, r_lt, r_le, r_gt, r_ge, r_eqI, r_neI, r_eqS, r_neS, r_inS, r_niS, List.getElem?_cons_zero, List.getElem?_cons_succ, List.set_cons_zero, List.set_cons_succ, List.map_cons, List.map_nil, List.length_cons, List.length_nil, Nat.reduceAdd, Nat.reduceSub, List.replicate_succ, List.replicate_zero, List.cons_append, List.nil_append, List.append_nil, Bool.not_true, Bool.not_false, if_true, if_false, ite_true, ite_false, Bool.false_eq_true, Bool.true_eq_false, reduceIte]
      refine fld_bits hm ?_
      try simp only [for_nil, for_v, for_t, lc_nil, lc_v, lc_t, lc_turn0, lc_turn1, wipe_nil, wipe_cons, true_and, and_true, upd_same, upd_upd, Option.some.injEq, HO.lst.injEq, HO.tup.injEq, HO.dK.injEq, exists_eq_left', List.singleton_append, Int.cast_ofNat_Int, and1, e_k, e_v, e_g, e_bop, e_uop, e_not, e_and, e_or, e_ite, e_cmp, e_cmp2, e_lst, e_tup, e_dic, e_call, e_mk, e_bi, e_isi, e_meth, e_bm, e_icall, e_ostr, e_att, e_ix, e_sl, e_lc, t_v, t_isi, t_call, t_meth, t_bop, t_bi, t_att, t_not, t_and, t_or, t_cmp, t_cmp2, trQ_bl, blQ_bl, a_nil', a_cons, s_nil, s_cons, s_set, s_setLc, s_par, s_expr, s_ret, s_retN, s_if, s_for, s_never, s_pass, s_brk, s_cont, g_v', g_tup, g_sub, g_att, gs_nil, gs_cons, gs_tup, i_L, i_T, i_S, i_R1, i_ES, i_E, i_Z, p_nil, p_pair, o_nil, o_k, x_K, x_w, x_fn, x_gv, x_tabs, x_mth, x_prp, x_fld, x_isi, x_kwo, isi_int, isi_str, isi_bl, isi_non, ii1, ii2, ii3, ii4, ii5, ii6, ii7, r_add, r_sub, r_mul, r_div, r_mod, r_pow, r_shl, r_shr, r_and, r_or, r_xor, r_neg, r_inv, r_lt, r_le, r_gt, r_ge, r_eqI, r_neI, r_eqS, r_neS, r_inS, r_niS, List.getElem?_cons_zero, List.getElem?_cons_succ, List.set_cons_zero, List.set_cons_succ, List.map_cons, List.map_nil, List.length_cons, List.length_nil, Nat.reduceAdd, Nat.reduceSub, List.replicate_succ, List.replicate_zero, List.cons_append, List.nil_append, List.append_nil, Bool.not_true, Bool.not_false, if_true, if_false, ite_true, ite_false, Bool.false_eq_true, Bool.true_eq_false, reduceIte]
      simpa [e] using h
    | false =>
      simp only [e, e_k, e_v, e_g, e_bop, e_uop, e_not, e_and, e_or, e_ite, e_cmp, e_cmp2, e_lst, e_tup, e_dic, e_call, e_mk, e_bi, e_isi, e_meth, e_bm, e_icall, e_ostr, e_att, e_ix, e_sl, e_lc, t_v, t_isi, t_call, t_meth, t_bop, t_bi, t_att, t_not, t_and, t_or, t_cmp, t_cmp2, trQ_bl, blQ_bl, a_nil', a_cons, s_nil, s_cons, s_set, s_setLc, s_par, s_expr, s_ret, s_retN, s_if, s_for, s_never, s_pass, s_brk, s_cont, g_v', g_tup, g_sub, g_att, gs_nil, gs_cons, gs_tup, i_L, i_T, i_S, i_R1, i_ES, i_E, i_Z, p_nil, p_pair, o_nil, o_k, x_K, x_w, x_fn, x_gv, x_tabs, x_mth, x_prp, x_fld, x_isi, x_kwo, isi_int, isi_str, isi_bl, isi_non, ii1, ii2, ii3, ii4, ii5, ii6, ii7, r_add, r_sub, r_mul, r_div, r_mod, r_pow, r_shl, r_shr, r_and, r_or, r_xor, r_neg, r_inv, r_lt, r_le, r_gt, r_ge, r_eqI, r_neI, r_eqS, r_neS, r_inS, r_niS, List.getElem?_cons_zero, List.getElem?_cons_succ, List.set_cons_zero, List.set_cons_succ, List.map_cons, List.map_nil, List.length_cons, List.length_nil, Nat.reduceAdd, Nat.reduceSub, List.replicate_succ, List.replicate_zero, List.cons_append, List.nil_append, List.append_nil, Bool.not_true, Bool.not_false, if_true, if_false, ite_true, ite_false, Bool.false_eq_true, Bool.true_eq_false, reduceIte]
      simpa [e] using h
  · rw [show (rCmp K w hd.pg.tabs .Eq (.str (S [45])) (.str (S [61]))) = fun H Q => Q (.bl false) H from rfl]
    cases e : takesB c l pat f with
    | true =>
      simp only [e, e_k, e_v, e_g, e_bop, e_uop, e_not, e_and, e_or, e_ite, e_cmp, e_cmp2, e_lst, e_tup, e_dic, e_call, e_mk, e_bi, e_isi, e_meth, e_bm, e_icall, e_ostr, e_att, e_ix, e_sl, e_lc, t_v, t_isi, t_call, t_meth, t_bop, t_bi, t_att, t_not, t_and, t_or, t_cmp, t_cmp2, trQ_bl, blQ_bl, a_nil', a_cons, s_nil, s_cons, s_set, s_setLc, s_par, s_expr, s_ret, s_retN, s_if, s_for, s_never, s_pass, s_brk, s_cont, g_v', g_tup, g_sub, g_att, gs_nil, gs_cons, gs_tup, i_L, i_T, i_S, i_R1, i_ES, i_E, i_Z, p_nil, p_pair, o_nil, o_k, x_K, x_w, x_fn, x_gv, x_tabs, x_mth, x_prp, x_fld, x_isi, x_kwo, isi_int, isi_str, isi_bl, isi_non, ii1, ii2, ii3, ii4, ii5, ii6, ii7, r_add, r_sub, r_mul, r_div, r_mod, r_pow, r_shl, r_shr, r_and, r_or, r_xor, r_neg, r_inv, r_lt, r_le, r_gt, r_ge, r_eqI, r_neI, r_eqS, r_neS, r_inS, r_niS, List.getElem?_cons_zero, List.getElem?_cons_succ, List.set_cons_zero, List.set_cons_succ, List.map_cons, List.map_nil, List.length_cons, List.length_nil, Nat.reduceAdd, Nat.reduceSub, List.replicate_succ, List.replicate_zero, List.cons_append, List.nil_append, List.append_nil, Bool.not_true, Bool.not_false, if_true, if_false, ite_true, ite_false, Bool.false_eq_true, Bool.true_eq_false, reduceIte]
      refine p_sign hm (c_sign hm (by omega) ?_)
      rw [show (rCmp K w hd.pg.tabs .Eq (.str (S [45])) (.str (S [43]))) = fun H Q => Q (.bl false) H from rfl]
      try simp only [for_nil, for_v, for_t, lc_nil, lc_v, lc_t, lc_turn0, lc_turn1, wipe_nil, wipe_cons, true_and, and_true, upd_same, upd_upd, Option.some.injEq, HO.lst.injEq, HO.tup.injEq, HO.dK.injEq, exists_eq_left', List.singleton_append, Int.cast_ofNat_Int, and1, e_k, e_v, e_g, e_bop, e_uop, e_not, e_and, e_or, e_ite, e_cmp, e_cmp2, e_lst, e_tup, e_dic, e_call, e_mk, e_bi, e_isi, e_meth, e_bm, e_icall, e_ostr, e_att, e_ix, e_sl, e_lc, t_v, t_isi, t_call, t_meth, t_bop, t_bi, t_att, t_not, t_and, t_or, t_cmp, t_cmp2, trQ_bl, blQ_bl, a_nil', a_cons, s_nil, s_cons, s_set, s_setLc, s_par, s_expr, s_ret, s_retN, s_if, s_for, s_never, s_pass, s_brk, s_cont, g_v', g_tup, g_sub, g_att, gs_nil, gs_cons, gs_tup, i_L, i_T, i_S, i_R1, i_ES, i_E, i_Z, p_nil, p_pair, o_nil, o_k, x_K, x_w, x_fn, x_gv, x_tabs, x_mth, x_prp, x_fld, x_isi, x_kwo, isi_int, isi_str, isi_bl, isi_non, ii1, ii2, ii3, ii4, ii5, ii6, ii7, r_add, r_sub, r_mul, r_div, r_mod, r_pow, r_shl, r_shr, r_and, r_or, r_xor, r_neg, r_inv, r_lt, r_le, r_gt, r_ge, r_eqI, r_neI, r_eqS, r_neS, r_inS, r_niS, List.getElem?_cons_zero, List.getElem?_cons_succ, List.set_cons_zero, List.set_cons_succ, List.map_cons, List.map_nil, List.length_cons, List.length_nil, Nat.reduceAdd, Nat.reduceSub, List.replicate_succ, List.replicate_zero, List.cons_append, List.nil_append, List.append_nil, Bool.not_true, Bool.not_false, if_true, if_false, ite_true, ite_false, Bool.false_eq_true, Bool.true_eq_false, reduceIte]
      refine fld_bits hm ?_
      try simp only [for_nil, for_v, for_t, lc_nil, lc_v, lc_t, lc_turn0, lc_turn1, wipe_nil, wipe_cons, true_and, and_true, upd_same, upd_upd, Option.some.injEq, HO.lst.injEq, HO.tup.injEq, HO.dK.injEq, exists_eq_left', List.singleton_append, Int.cast_ofNat_Int, and1, e_k, e_v, e_g, e_bop, e_uop, e_not, e_and, e_or, e_ite, e_cmp, e_cmp2, e_lst, e_tup, e_dic, e_call, e_mk, e_bi, e_isi, e_meth, e_bm, e_icall, e_ostr, e_att, e_ix, e_sl, e_lc, t_v, t_isi, t_call, t_meth, t_bop, t_bi, t_att, t_not, t_and, t_or, t_cmp, t_cmp2, trQ_bl, blQ_bl, a_nil', a_cons, s_nil, s_cons, s_set, s_setLc, s_par, s_expr, s_ret, s_retN, s_if, s_for, s_never, s_pass, s_brk, s_cont, g_v', g_tup, g_sub, g_att, gs_nil, gs_cons, gs_tup, i_L, i_T, i_S, i_R1, i_ES, i_E, i_Z, p_nil, p_pair, o_nil, o_k, x_K, x_w, x_fn, x_gv, x_tabs, x_mth, x_prp, x_fld, x_isi, x_kwo, isi_int, isi_str, isi_bl, isi_non, ii1, ii2, ii3, ii4, ii5, ii6, ii7, r_add, r_sub, r_mul, r_div, r_mod, r_pow, r_shl, r_shr, r_and, r_or, r_xor, r_neg, r_inv, r_lt, r_le, r_gt, r_ge, r_eqI, r_neI, r_eqS, r_neS, r_inS, r_niS, List.getElem?_cons_zero, List.getElem?_cons_succ, List.set_cons_zero, List.set_cons_succ, List.map_cons, List.map_nil, List.length_cons, List.length_nil, Nat.reduceAdd, Nat.reduceSub, List.replicate_succ, List.replicate_zero, List.cons_append, List.nil_append, List.append_nil, Bool.not_true, Bool.not_false, if_true, if_false, ite_true, ite_false, Bool.false_eq_true, Bool.true_eq_false, reduceIte]
      simpa [e] using h
    | false =>
      simp only [e, e_k, e_v, e_g, e_bop, e_uop, e_not, e_and, e_or, e_ite, e_cmp, e_cmp2, e_lst, e_tup, e_dic, e_call, e_mk, e_bi, e_isi, e_meth, e_bm, e_icall, e_ostr, e_att, e_ix, e_sl, e_lc, t_v, t_isi, t_call, t_meth, t_bop, t_bi, t_att, t_not, t_and, t_or, t_cmp, t_cmp2, trQ_bl, blQ_bl, a_nil', a_cons, s_nil, s_cons, s_set, s_setLc, s_par, s_expr, s_ret, s_retN, s_if, s_for, s_never, s_pass, s_brk, s_cont, g_v', g_tup, g_sub, g_att, gs_nil, gs_cons, gs_tup, i_L, i_T, i_S, i_R1, i_ES, i_E, i_Z, p_nil, p_pair, o_nil, o_k, x_K, x_w, x_fn, x_gv, x_tabs, x_mth, x_prp, x_fld, x_isi, x_kwo, isi_int, isi_str, isi_bl, isi_non, ii1, ii2, ii3, ii4, ii5, ii6, ii7, r_add, r_sub, r_mul, r_div, r_mod, r_pow, r_shl, r_shr, r_and, r_or, r_xor, r_neg, r_inv, r_lt, r_le, r_gt, r_ge, r_eqI, r_neI, r_eqS, r_neS, r_inS, r_niS, List.getElem?_cons_zero, List.getElem?_cons_succ, List.set_cons_zero, List.set_cons_succ, List.map_cons, List.map_nil, List.length_cons, List.length_nil, Nat.reduceAdd, Nat.reduceSub, List.replicate_succ, List.replicate_zero, List.cons_append, List.nil_append, List.append_nil, Bool.not_true, Bool.not_false, if_true, if_false, ite_true, ite_false, Bool.false_eq_true, Bool.true_eq_false, reduceIte]
      simpa [e] using h
  · rw [show (rCmp K w hd.pg.tabs .Eq (.str (S [61])) (.str (S [61]))) = fun H Q => Q (.bl true) H from rfl]
    cases e : takesB c l pat f with
    | true =>
      simp only [e, e_k, e_v, e_g, e_bop, e_uop, e_not, e_and, e_or, e_ite, e_cmp, e_cmp2, e_lst, e_tup, e_dic, e_call, e_mk, e_bi, e_isi, e_meth, e_bm, e_icall, e_ostr, e_att, e_ix, e_sl, e_lc, t_v, t_isi, t_call, t_meth, t_bop, t_bi, t_att, t_not, t_and, t_or, t_cmp, t_cmp2, trQ_bl, blQ_bl, a_nil', a_cons, s_nil, s_cons, s_set, s_setLc, s_par, s_expr, s_ret, s_retN, s_if, s_for, s_never, s_pass, s_brk, s_cont, g_v', g_tup, g_sub, g_att, gs_nil, gs_cons, gs_tup, i_L, i_T, i_S, i_R1, i_ES, i_E, i_Z, p_nil, p_pair, o_nil, o_k, x_K, x_w, x_fn, x_gv, x_tabs, x_mth, x_prp, x_fld, x_isi, x_kwo, isi_int, isi_str, isi_bl, isi_non, ii1, ii2, ii3, ii4, ii5, ii6, ii7, r_add, r_sub, r_mul, r_div, r_mod, r_pow, r_shl, r_shr, r_and, r_or, r_xor, r_neg, r_inv, r_lt, r_le, r_gt, r_ge, r_eqI, r_neI, r_eqS, r_neS, r_inS, r_niS, List.getElem?_cons_zero, List.getElem?_cons_succ, List.set_cons_zero, List.set_cons_succ, List.map_cons, List.map_nil, List.length_cons, List.length_nil, Nat.reduceAdd, Nat.reduceSub, List.replicate_succ, List.replicate_zero, List.cons_append, List.nil_append, List.append_nil, Bool.not_true, Bool.not_false, if_true, if_false, ite_true, ite_false, Bool.false_eq_true, Bool.true_eq_false, reduceIte]
      refine fld_bits hm ?_
      try simp only [for_nil, for_v, for_t, lc_nil, lc_v, lc_t, lc_turn0, lc_turn1, wipe_nil, wipe_cons, true_and, and_true, upd_same, upd_upd, Option.some.injEq, HO.lst.injEq, HO.tup.injEq, HO.dK.injEq, exists_eq_left', List.singleton_append, Int.cast_ofNat_Int, and1, e_k, e_v, e_g, e_bop, e_uop, e_not, e_and, e_or, e_ite, e_cmp, e_cmp2, e_lst, e_tup, e_dic, e_call, e_mk, e_bi, e_isi, e_meth, e_bm, e_icall, e_ostr, e_att, e_ix, e_sl, e_lc, t_v, t_isi, t_call, t_meth, t_bop, t_bi, t_att, t_not, t_and, t_or, t_cmp, t_cmp2, trQ_bl, blQ_bl, a_nil', a_cons, s_nil, s_cons, s_set, s_setLc, s_par, s_expr, s_ret, s_retN, s_if, s_for, s_never, s_pass, s_brk, s_cont, g_v', g_tup, g_sub, g_att, gs_nil, gs_cons, gs_tup, i_L, i_T, i_S, i_R1, i_ES, i_E, i_Z, p_nil, p_pair, o_nil, o_k, x_K, x_w, x_fn, x_gv, x_tabs, x_mth, x_prp, x_fld, x_isi, x_kwo, isi_int, isi_str, isi_bl, isi_non, ii1, ii2, ii3, ii4, ii5, ii6, ii7, r_add, r_sub, r_mul, r_div, r_mod, r_pow, r_shl, r_shr, r_and, r_or, r_xor, r_neg, r_inv, r_lt, r_le, r_gt, r_ge, r_eqI, r_neI, r_eqS, r_neS, r_inS, r_niS, List.getElem?_cons_zero, List.getElem?_cons_succ, List.set_cons_zero, List.set_cons_succ, List.map_cons, List.map_nil, List.length_cons, List.length_nil, Nat.reduceAdd, Nat.reduceSub, List.replicate_succ, List.replicate_zero, List.cons_append, List.nil_append, List.append_nil, Bool.not_true, Bool.not_false, if_true, if_false, ite_true, ite_false, Bool.false_eq_true, Bool.true_eq_false, reduceIte]
      simpa [e] using h
    | false =>
      simp only [e, e_k, e_v, e_g, e_bop, e_uop, e_not, e_and, e_or, e_ite, e_cmp, e_cmp2, e_lst, e_tup, e_dic, e_call, e_mk, e_bi, e_isi, e_meth, e_bm, e_icall, e_ostr, e_att, e_ix, e_sl, e_lc, t_v, t_isi, t_call, t_meth, t_bop, t_bi, t_att, t_not, t_and, t_or, t_cmp, t_cmp2, trQ_bl, blQ_bl, a_nil', a_cons, s_nil, s_cons, s_set, s_setLc, s_par, s_expr, s_ret, s_retN, s_if, s_for, s_never, s_pass, s_brk, s_cont, g_v', g_tup, g_sub, g_att, gs_nil, gs_cons, gs_tup, i_L, i_T, i_S, i_R1, i_ES, i_E, i_Z, p_nil, p_pair, o_nil, o_k, x_K, x_w, x_fn, x_gv, x_tabs, x_mth, x_prp, x_fld, x_isi, x_kwo, isi_int, isi_str, isi_bl, isi_non, ii1, ii2, ii3, ii4, ii5, ii6, ii7, r_add, r_sub, r_mul, r_div, r_mod, r_pow, r_shl, r_shr, r_and, r_or, r_xor, r_neg, r_inv, r_lt, r_le, r_gt, r_ge, r_eqI, r_neI, r_eqS, r_neS, r_inS, r_niS, List.getElem?_cons_zero, List.getElem?_cons_succ, List.set_cons_zero, List.set_cons_succ, List.map_cons, List.map_nil, List.length_cons, List.length_nil, Nat.reduceAdd, Nat.reduceSub, List.replicate_succ, List.replicate_zero, List.cons_append, List.nil_append, List.append_nil, Bool.not_true, Bool.not_false, if_true, if_false, ite_true, ite_false, Bool.false_eq_true, Bool.true_eq_false, reduceIte]
      refine fld_bits hm ?_
      try simp only [for_nil, for_v, for_t, lc_nil, lc_v, lc_t, lc_turn0, lc_turn1, wipe_nil, wipe_cons, true_and, and_true, upd_same, upd_upd, Option.some.injEq, HO.lst.injEq, HO.tup.injEq, HO.dK.injEq, exists_eq_left', List.singleton_append, Int.cast_ofNat_Int, and1, e_k, e_v, e_g, e_bop, e_uop, e_not, e_and, e_or, e_ite, e_cmp, e_cmp2, e_lst, e_tup, e_dic, e_call, e_mk, e_bi, e_isi, e_meth, e_bm, e_icall, e_ostr, e_att, e_ix, e_sl, e_lc, t_v, t_isi, t_call, t_meth, t_bop, t_bi, t_att, t_not, t_and, t_or, t_cmp, t_cmp2, trQ_bl, blQ_bl, a_nil', a_cons, s_nil, s_cons, s_set, s_setLc, s_par, s_expr, s_ret, s_retN, s_if, s_for, s_never, s_pass, s_brk, s_cont, g_v', g_tup, g_sub, g_att, gs_nil, gs_cons, gs_tup, i_L, i_T, i_S, i_R1, i_ES, i_E, i_Z, p_nil, p_pair, o_nil, o_k, x_K, x_w, x_fn, x_gv, x_tabs, x_mth, x_prp, x_fld, x_isi, x_kwo, isi_int, isi_str, isi_bl, isi_non, ii1, ii2, ii3, ii4, ii5, ii6, ii7, r_add, r_sub, r_mul, r_div, r_mod, r_pow, r_shl, r_shr, r_and, r_or, r_xor, r_neg, r_inv, r_lt, r_le, r_gt, r_ge, r_eqI, r_neI, r_eqS, r_neS, r_inS, r_niS, List.getElem?_cons_zero, List.getElem?_cons_succ, List.set_cons_zero, List.set_cons_succ, List.map_cons, List.map_nil, List.length_cons, List.length_nil, Nat.reduceAdd, Nat.reduceSub, List.replicate_succ, List.replicate_zero, List.cons_append, List.nil_append, List.append_nil, Bool.not_true, Bool.not_false, if_true, if_false, ite_true, ite_false, Bool.false_eq_true, Bool.true_eq_false, reduceIte]
      simpa [e] using h
def stepI (a b c : List Nat) (f : Bool) (l : Nat) (p : Int) (m : Int) : Int := wpI m p (movedI a b c l (patI m p) f)
def callI (a b c : List Nat) (f : Bool) (m : Int) : Int := stepI a b c f 120 0 (stepI a b c f 119 1 (stepI a b c f 114 2 m))
theorem pat_range (m p : Int) : 0 ≤ patI m p ∧ patI m p ≤ 7 := by
  unfold patI
  have h1 := bitAnd_range (m / 2 ^ p.toNat) (show (0 : Int) ≤ 1 by decide)
  have h2 := bitAnd_range (m / 2 ^ (3 + p).toNat) (show (0 : Int) ≤ 1 by decide)
  have h3 := bitAnd_range (m / 2 ^ (6 + p).toNat) (show (0 : Int) ≤ 1 by decide)
  omega
theorem bits_range : ∀ a ∈ whoL, ∀ p : Nat, p < 8 → (0 ≤ Builtin.bitOr p (bitsOf a) ∧ Builtin.bitOr p (bitsOf a) ≤ 7) ∧ (0 ≤ Builtin.bitAnd p (Builtin.bitNot (bitsOf a)) ∧ Builtin.bitAnd p (Builtin.bitNot (bitsOf a)) ≤ 7) := by decide +kernel
theorem moved_range {l : Nat} {p : Int} {f : Bool} (ha : a ∈ whoL) (hp : 0 ≤ p ∧ p ≤ 7) : 0 ≤ movedI a b c l p f ∧ movedI a b c l p f ≤ 7 := by
  have h := bits_range a ha p.toNat (by omega)
  rw [Int.toNat_of_nonneg hp.1] at h
  unfold movedI
  split
  · split
    · exact h.1
    · exact h.2
  · split
    · split
      · exact h.1
      · exact h.2
    · exact hp
theorem step_range {l : Nat} {p m : Int} {f : Bool} (ha : a ∈ whoL) (hp : 0 ≤ p ∧ p ≤ 2) (hm : 0 ≤ m ∧ m ≤ 511) : 0 ≤ stepI a b c f l p m ∧ stepI a b c f l p m ≤ 511 := wp_range hm hp (moved_range ha (pat_range m p))
theorem IsM.get {x : Addr} {v : Int} {E : XK} {f : Str} (h : IsM K H x v) : ∃ dx fs, H x = some (.ins (He.ga K s_Mode) dx fs) ∧ fs = [(s_bits, .int v)] := by
  obtain ⟨dx, h⟩ := h
  exact ⟨dx, _, h, rfl⟩
/-- the three turns of __call__ -/
theorem c_turn {l : Nat} {p : Int} {f : Bool} {m x : Addr} {v : Int} {W : WX} (ha : a ∈ whoL) (hb : b ∈ signL) (hc : c ∈ whatL) (hl : (l, p) ∈ [(114, 2), (119, 1), (120, (0 : Int))]) (hm : IsC K H m a b c) (hx : IsM K H x v) (hv : 0 ≤ v ∧ v ≤ 511) (hn : 3 ≤ n)
    (h : ∀ y H', Ext H H' → IsM K H' y (stepI a b c f l p v) → Q (.ref y) H') :
    (rd (hd.pg.ctx K w (run hd.pg K w n)) (.meth (.v 3) s_with_pattern (.cons (.v 4) (.cons (.meth (.v 0) s_moved (.cons (.v 4) (.cons (.meth (.v 3) s_pattern (.cons (.v 4) .nil)) (.cons (.v 2) .nil)))) .nil))) W).e
      [some (.ref m), some (u : V), some (.str (S (formL f))), some (.ref x), some (.str (S [l]))] H Q := by
  have hx' := hx
  have hm' := hm
  obtain ⟨dx, e1⟩ := hx
  obtain ⟨dm, t, e2, e3⟩ := hm
  have hp : 0 ≤ p ∧ p ≤ 2 := by
    simp at hl
    omega
  try simp only [for_nil, for_v, for_t, lc_nil, lc_v, lc_t, lc_turn0, lc_turn1, wipe_nil, wipe_cons, true_and, and_true, upd_same, upd_upd, Option.some.injEq, HO.lst.injEq, HO.tup.injEq, HO.dK.injEq, exists_eq_left', List.singleton_append, Int.cast_ofNat_Int, and1, e_k, e_v, e_g, e_bop, e_uop, e_not, e_and, e_or, e_ite, e_cmp, e_cmp2, e_lst, e_tup, e_dic, e_call, e_mk, e_bi, e_isi, e_meth, e_bm, e_icall, e_ostr, e_att, e_ix, e_sl, e_lc, t_v, t_isi, t_call, t_meth, t_bop, t_bi, t_att, t_not, t_and, t_or, t_cmp, t_cmp2, trQ_bl, blQ_bl, a_nil', a_cons, s_nil, s_cons, s_set, s_setLc, s_par, s_expr, s_ret, s_retN, s_if, s_for, s_never, s_pass, s_brk, s_cont, g_v', g_tup, g_sub, g_att, gs_nil, gs_cons, gs_tup, i_L, i_T, i_S, i_R1, i_ES, i_E, i_Z, p_nil, p_pair, o_nil, o_k, x_K, x_w, x_fn, x_gv, x_tabs, x_mth, x_prp, x_fld, x_isi, x_kwo, isi_int, isi_str, isi_bl, isi_non, ii1, ii2, ii3, ii4, ii5, ii6, ii7, r_add, r_sub, r_mul, r_div, r_mod, r_pow, r_shl, r_shr, r_and, r_or, r_xor, r_neg, r_inv, r_lt, r_le, r_gt, r_ge, r_eqI, r_neI, r_eqS, r_neS, r_inS, r_niS, List.getElem?_cons_zero, List.getElem?_cons_succ, List.set_cons_zero, List.set_cons_succ, List.map_cons, List.map_nil, List.length_cons, List.length_nil, Nat.reduceAdd, Nat.reduceSub, List.replicate_succ, List.replicate_zero, List.cons_append, List.nil_append, List.append_nil, Bool.not_true, Bool.not_false, if_true, if_false, ite_true, ite_false, Bool.false_eq_true, Bool.true_eq_false, reduceIte]
  refine ⟨s_Mode, dx, _, s_Mode_with_pattern, e1, rfl, rfl, ?_⟩
  refine ⟨s_Clause, dm, _, s_Clause_moved, e2, rfl, rfl, ?_⟩
  refine ⟨s_Mode, dx, _, s_Mode_pattern, e1, rfl, rfl, ?_⟩
  refine c_pattern (by omega) hx' hl fun H1 x1 => ?_
  try simp only [for_nil, for_v, for_t, lc_nil, lc_v, lc_t, lc_turn0, lc_turn1, wipe_nil, wipe_cons, true_and, and_true, upd_same, upd_upd, Option.some.injEq, HO.lst.injEq, HO.tup.injEq, HO.dK.injEq, exists_eq_left', List.singleton_append, Int.cast_ofNat_Int, and1, e_k, e_v, e_g, e_bop, e_uop, e_not, e_and, e_or, e_ite, e_cmp, e_cmp2, e_lst, e_tup, e_dic, e_call, e_mk, e_bi, e_isi, e_meth, e_bm, e_icall, e_ostr, e_att, e_ix, e_sl, e_lc, t_v, t_isi, t_call, t_meth, t_bop, t_bi, t_att, t_not, t_and, t_or, t_cmp, t_cmp2, trQ_bl, blQ_bl, a_nil', a_cons, s_nil, s_cons, s_set, s_setLc, s_par, s_expr, s_ret, s_retN, s_if, s_for, s_never, s_pass, s_brk, s_cont, g_v', g_tup, g_sub, g_att, gs_nil, gs_cons, gs_tup, i_L, i_T, i_S, i_R1, i_ES, i_E, i_Z, p_nil, p_pair, o_nil, o_k, x_K, x_w, x_fn, x_gv, x_tabs, x_mth, x_prp, x_fld, x_isi, x_kwo, isi_int, isi_str, isi_bl, isi_non, ii1, ii2, ii3, ii4, ii5, ii6, ii7, r_add, r_sub, r_mul, r_div, r_mod, r_pow, r_shl, r_shr, r_and, r_or, r_xor, r_neg, r_inv, r_lt, r_le, r_gt, r_ge, r_eqI, r_neI, r_eqS, r_neS, r_inS, r_niS, List.getElem?_cons_zero, List.getElem?_cons_succ, List.set_cons_zero, List.set_cons_succ, List.map_cons, List.map_nil, List.length_cons, List.length_nil, Nat.reduceAdd, Nat.reduceSub, List.replicate_succ, List.replicate_zero, List.cons_append, List.nil_append, List.append_nil, Bool.not_true, Bool.not_false, if_true, if_false, ite_true, ite_false, Bool.false_eq_true, Bool.true_eq_false, reduceIte]
  refine c_moved hb hc (hm'.ext x1) (by omega) ?_
  try simp only [for_nil, for_v, for_t, lc_nil, lc_v, lc_t, lc_turn0, lc_turn1, wipe_nil, wipe_cons, true_and, and_true, upd_same, upd_upd, Option.some.injEq, HO.lst.injEq, HO.tup.injEq, HO.dK.injEq, exists_eq_left', List.singleton_append, Int.cast_ofNat_Int, and1, e_k, e_v, e_g, e_bop, e_uop, e_not, e_and, e_or, e_ite, e_cmp, e_cmp2, e_lst, e_tup, e_dic, e_call, e_mk, e_bi, e_isi, e_meth, e_bm, e_icall, e_ostr, e_att, e_ix, e_sl, e_lc, t_v, t_isi, t_call, t_meth, t_bop, t_bi, t_att, t_not, t_and, t_or, t_cmp, t_cmp2, trQ_bl, blQ_bl, a_nil', a_cons, s_nil, s_cons, s_set, s_setLc, s_par, s_expr, s_ret, s_retN, s_if, s_for, s_never, s_pass, s_brk, s_cont, g_v', g_tup, g_sub, g_att, gs_nil, gs_cons, gs_tup, i_L, i_T, i_S, i_R1, i_ES, i_E, i_Z, p_nil, p_pair, o_nil, o_k, x_K, x_w, x_fn, x_gv, x_tabs, x_mth, x_prp, x_fld, x_isi, x_kwo, isi_int, isi_str, isi_bl, isi_non, ii1, ii2, ii3, ii4, ii5, ii6, ii7, r_add, r_sub, r_mul, r_div, r_mod, r_pow, r_shl, r_shr, r_and, r_or, r_xor, r_neg, r_inv, r_lt, r_le, r_gt, r_ge, r_eqI, r_neI, r_eqS, r_neS, r_inS, r_niS, List.getElem?_cons_zero, List.getElem?_cons_succ, List.set_cons_zero, List.set_cons_succ, List.map_cons, List.map_nil, List.length_cons, List.length_nil, Nat.reduceAdd, Nat.reduceSub, List.replicate_succ, List.replicate_zero, List.cons_append, List.nil_append, List.append_nil, Bool.not_true, Bool.not_false, if_true, if_false, ite_true, ite_false, Bool.false_eq_true, Bool.true_eq_false, reduceIte]
  refine c_with_pattern (by omega) (hx'.ext x1) hv hl (moved_range ha (pat_range v p)) fun y H2 x2 h2 => ?_
  exact h y H2 (x1.trans x2) h2
theorem c_call0 {f : Bool} {v : Int} {u : V} (ha : a ∈ whoL) (hb : b ∈ signL) (hc : c ∈ whatL) (hm : IsC K H m a b c) (hv : 0 ≤ v ∧ v ≤ 511) (hn : 4 ≤ n)
    (hu : u = .int v ∨ ∃ x, u = .ref x ∧ IsM K H x v) (h : ∀ y H', Ext H H' → IsM K H' y (callI a b c f v) → Q (.ref y) H') : run hd.pg K w n s_Clause___call__ [.ref m, u, .str (S (formL f))] H Q E := by
  refine run_at f_Clause___call__ (by omega) rfl ?_
  have key : ∀ {Q : VK} {E : XK}, Q (.int v) H → run hd.pg K w (n - 1) s_number_of [u] H Q E := by
    intro Q E q
    rcases hu with rfl | ⟨x, rfl, dx, hx⟩
    · exact c_number_of (by omega) hv q
    · exact c_number_of_m (by omega) hx q
  simp only [d_Clause___call__, b_Clause___call__, L2.start, cps_S, e_k, e_v, e_g, e_bop, e_uop, e_not, e_and, e_or, e_ite, e_cmp, e_cmp2, e_lst, e_tup, e_dic, e_call, e_mk, e_bi, e_isi, e_meth, e_bm, e_icall, e_ostr, e_att, e_ix, e_sl, e_lc, t_v, t_isi, t_call, t_meth, t_bop, t_bi, t_att, t_not, t_and, t_or, t_cmp, t_cmp2, trQ_bl, blQ_bl, a_nil', a_cons, s_nil, s_cons, s_set, s_setLc, s_par, s_expr, s_ret, s_retN, s_if, s_for, s_never, s_pass, s_brk, s_cont, g_v', g_tup, g_sub, g_att, gs_nil, gs_cons, gs_tup, i_L, i_T, i_S, i_R1, i_ES, i_E, i_Z, p_nil, p_pair, o_nil, o_k, x_K, x_w, x_fn, x_gv, x_tabs, x_mth, x_prp, x_fld, x_isi, x_kwo, isi_int, isi_str, isi_bl, isi_non, ii1, ii2, ii3, ii4, ii5, ii6, ii7, r_add, r_sub, r_mul, r_div, r_mod, r_pow, r_shl, r_shr, r_and, r_or, r_xor, r_neg, r_inv, r_lt, r_le, r_gt, r_ge, r_eqI, r_neI, r_eqS, r_neS, r_inS, r_niS, List.getElem?_cons_zero, List.getElem?_cons_succ, List.set_cons_zero, List.set_cons_succ, List.map_cons, List.map_nil, List.length_cons, List.length_nil, Nat.reduceAdd, Nat.reduceSub, List.replicate_succ, List.replicate_zero, List.cons_append, List.nil_append, List.append_nil, Bool.not_true, Bool.not_false, if_true, if_false, ite_true, ite_false, Bool.false_eq_true, Bool.true_eq_false, reduceIte]
  refine key ?_
  refine mk_Mode (n := n - 1) (by omega) hv fun x H1 x1 h1 => ?_
  simp only [for_nil, for_v, for_t, lc_nil, lc_v, lc_t, lc_turn0, lc_turn1, wipe_nil, wipe_cons, true_and, and_true, upd_same, upd_upd, Option.some.injEq, HO.lst.injEq, HO.tup.injEq, HO.dK.injEq, exists_eq_left', List.singleton_append, Int.cast_ofNat_Int, s_cons, s_nil, s_set, g_v', List.set_cons_zero, List.set_cons_succ]
  have r1 : 0 ≤ stepI a b c f 114 2 v ∧ stepI a b c f 114 2 v ≤ 511 := step_range ha (by omega) hv
  have r2 : 0 ≤ stepI a b c f 119 1 (stepI a b c f 114 2 v) ∧ stepI a b c f 119 1 (stepI a b c f 114 2 v) ≤ 511 := step_range ha (by omega) r1
  refine c_turn (l := 114) (p := 2) ha hb hc (by simp) (hm.ext x1) h1 hv (by omega) fun y1 H2 x2 h2 => ?_
  refine c_turn (l := 119) (p := 1) ha hb hc (by simp) (hm.ext (x1.trans x2)) h2 r1 (by omega) fun y2 H3 x3 h3 => ?_
  refine c_turn (l := 120) (p := 0) ha hb hc (by simp) (hm.ext (x1.trans (x2.trans x3))) h3 r2 (by omega) fun y3 H4 x4 h4 => ?_
  try simp only [for_nil, for_v, for_t, lc_nil, lc_v, lc_t, lc_turn0, lc_turn1, wipe_nil, wipe_cons, true_and, and_true, upd_same, upd_upd, Option.some.injEq, HO.lst.injEq, HO.tup.injEq, HO.dK.injEq, exists_eq_left', List.singleton_append, Int.cast_ofNat_Int, and1, e_k, e_v, e_g, e_bop, e_uop, e_not, e_and, e_or, e_ite, e_cmp, e_cmp2, e_lst, e_tup, e_dic, e_call, e_mk, e_bi, e_isi, e_meth, e_bm, e_icall, e_ostr, e_att, e_ix, e_sl, e_lc, t_v, t_isi, t_call, t_meth, t_bop, t_bi, t_att, t_not, t_and, t_or, t_cmp, t_cmp2, trQ_bl, blQ_bl, a_nil', a_cons, s_nil, s_cons, s_set, s_setLc, s_par, s_expr, s_ret, s_retN, s_if, s_for, s_never, s_pass, s_brk, s_cont, g_v', g_tup, g_sub, g_att, gs_nil, gs_cons, gs_tup, i_L, i_T, i_S, i_R1, i_ES, i_E, i_Z, p_nil, p_pair, o_nil, o_k, x_K, x_w, x_fn, x_gv, x_tabs, x_mth, x_prp, x_fld, x_isi, x_kwo, isi_int, isi_str, isi_bl, isi_non, ii1, ii2, ii3, ii4, ii5, ii6, ii7, r_add, r_sub, r_mul, r_div, r_mod, r_pow, r_shl, r_shr, r_and, r_or, r_xor, r_neg, r_inv, r_lt, r_le, r_gt, r_ge, r_eqI, r_neI, r_eqS, r_neS, r_inS, r_niS, List.getElem?_cons_zero, List.getElem?_cons_succ, List.set_cons_zero, List.set_cons_succ, List.map_cons, List.map_nil, List.length_cons, List.length_nil, Nat.reduceAdd, Nat.reduceSub, List.replicate_succ, List.replicate_zero, List.cons_append, List.nil_append, List.append_nil, Bool.not_true, Bool.not_false, if_true, if_false, ite_true, ite_false, Bool.false_eq_true, Bool.true_eq_false, reduceIte]
  exact h y3 H4 (x1.trans (x2.trans (x3.trans x4))) h4
end U

namespace U
open PySem PySem.Spec PyProof.Rows L2
variable {K : PySem.W.Frag} {w : World} {n : Nat} {H : Hp} {Q : VK} {E : XK} {p : Addr}
/-! lists of ints as data -/
theorem lay_ints : ∀ ns : List Int, PyData.canLayAll0 (ns.map PyData.int) = true
  | [] => rfl
  | x :: r => by
    have := lay_ints r
    simp [PyData.canLayAll0, PyData.canLay0, this]
theorem dep_ints : ∀ ns : List Int, PyData.depthAll (ns.map PyData.int) ≤ 1
  | [] => by simp [PyData.depthAll]
  | x :: r => by
    have := dep_ints r
    simp [PyData.depthAll, PyData.depth]
    omega
theorem shp_ints (ns : List Int) : SeqAt.shaped (.list (ns.map PyData.int)) = true := by
  have h1 := lay_ints ns
  have h2 := dep_ints ns
  unfold SeqAt.shaped
  simp only [PyData.canLay0, PyData.depth, h1, Bool.true_and]
  exact decide_eq_true (by omega)
theorem dp_ints : ∀ ns : List Int, DpAll K H (ns.map V.int) (ns.map PyData.int)
  | [] => .nil
  | x :: r => .cons (.int x) (dp_ints r)
theorem eqv_nil (ns : List Int) : PyData.eqv (.list (ns.map PyData.int)) (.list []) = ns.isEmpty := by
  cases ns <;> simp [PyData.eqv, PyData.eqvAll]
/-! the pen -/
def ExtP (p : Addr) (H H' : Hp) : Prop := ∀ a o, a ≠ p → H a = some o → H' a = some o
theorem Ext.toP {H' : Hp} (x : Ext H H') : ExtP p H H' := fun a o _ h => x a o h
theorem ExtP.trans {H1 H2 : Hp} (a : ExtP p H H1) (b : ExtP p H1 H2) : ExtP p H H2 := fun x o n h => b x o n (a x o n h)
def Pen (H : Hp) (p : Addr) (N : Int) : Prop := ∃ (q : Addr) (t l : Int) (ns : List Int), H p = some (.lst [.ref q, .int t, .int l]) ∧ H q = some (.lst (ns.map V.int)) ∧ q ≠ p ∧ 0 ≤ t ∧ t ≤ N ∧ 0 ≤ l
theorem Pen.ext {H' : Hp} {N : Int} (h : Pen H p N) (x : Ext H H') : Pen H' p N := by
  obtain ⟨q, t, l, ns, h1, h2, h3⟩ := h
  exact ⟨q, t, l, ns, x.get h1, x.get h2, h3⟩
theorem Pen.ge {N M : Int} (h : Pen H p N) (x : N ≤ M) : Pen H p M := by
  obtain ⟨q, t, l, ns, h1, h2, h3, h4, h5, h6⟩ := h
  exact ⟨q, t, l, ns, h1, h2, h3, h4, by omega, h6⟩
theorem c_pen {a : Addr} {ns : List Int} (ha : SqL K H a (ns.map V.int)) (hn : 1 ≤ n) (h : ∀ p H', H p = none → Ext H H' → Pen H' p 0 → Q (.ref p) H') : run hd.pg K w n s__law_pen [.ref a] H Q E := by
  refine run_at f__law_pen hn rfl ?_
  simp only [d__law_pen, b__law_pen, L2.start, e_k, e_v, e_g, e_bop, e_uop, e_not, e_and, e_or, e_ite, e_cmp, e_cmp2, e_lst, e_tup, e_dic, e_call, e_mk, e_bi, e_isi, e_meth, e_bm, e_icall, e_ostr, e_att, e_ix, e_sl, e_lc, t_v, t_isi, t_call, t_meth, t_bop, t_bi, t_att, t_not, t_and, t_or, t_cmp, t_cmp2, trQ_bl, blQ_bl, a_nil', a_cons, s_nil, s_cons, s_set, s_setLc, s_par, s_expr, s_ret, s_retN, s_if, s_for, s_never, s_pass, s_brk, s_cont, g_v', g_tup, g_sub, g_att, gs_nil, gs_cons, gs_tup, i_L, i_T, i_S, i_R1, i_ES, i_E, i_Z, p_nil, p_pair, o_nil, o_k, x_K, x_w, x_fn, x_gv, x_tabs, x_mth, x_prp, x_fld, x_isi, x_kwo, isi_int, isi_str, isi_bl, isi_non, ii1, ii2, ii3, ii4, ii5, ii6, ii7, r_add, r_sub, r_mul, r_div, r_mod, r_pow, r_shl, r_shr, r_and, r_or, r_xor, r_neg, r_inv, r_lt, r_le, r_gt, r_ge, r_eqI, r_neI, r_eqS, r_neS, r_inS, r_niS, List.getElem?_cons_zero, List.getElem?_cons_succ, List.set_cons_zero, List.set_cons_succ, List.map_cons, List.map_nil, List.length_cons, List.length_nil, Nat.reduceAdd, Nat.reduceSub, List.replicate_succ, List.replicate_zero, List.cons_append, List.nil_append, List.append_nil, Bool.not_true, Bool.not_false, if_true, if_false, ite_true, ite_false, Bool.false_eq_true, Bool.true_eq_false, reduceIte]
  refine x_slL ha fun p hp => ?_
  obtain ⟨ms, hms⟩ : ∃ ms : List Int, cutV (ns.map V.int) none (some 63) = ms.map V.int := ⟨_, by simp only [cutV, ← List.map_drop, ← List.map_take]; rfl⟩
  rw [hms]
  refine ⟨_, .inl (.inl (.inl upd_same)), fun q hq => ?_⟩
  try simp only [for_nil, for_v, for_t, lc_nil, lc_v, lc_t, lc_turn0, lc_turn1, wipe_nil, wipe_cons, true_and, and_true, upd_same, upd_upd, Option.some.injEq, HO.lst.injEq, HO.tup.injEq, HO.dK.injEq, exists_eq_left', List.singleton_append, Int.cast_ofNat_Int, and1, e_k, e_v, e_g, e_bop, e_uop, e_not, e_and, e_or, e_ite, e_cmp, e_cmp2, e_lst, e_tup, e_dic, e_call, e_mk, e_bi, e_isi, e_meth, e_bm, e_icall, e_ostr, e_att, e_ix, e_sl, e_lc, t_v, t_isi, t_call, t_meth, t_bop, t_bi, t_att, t_not, t_and, t_or, t_cmp, t_cmp2, trQ_bl, blQ_bl, a_nil', a_cons, s_nil, s_cons, s_set, s_setLc, s_par, s_expr, s_ret, s_retN, s_if, s_for, s_never, s_pass, s_brk, s_cont, g_v', g_tup, g_sub, g_att, gs_nil, gs_cons, gs_tup, i_L, i_T, i_S, i_R1, i_ES, i_E, i_Z, p_nil, p_pair, o_nil, o_k, x_K, x_w, x_fn, x_gv, x_tabs, x_mth, x_prp, x_fld, x_isi, x_kwo, isi_int, isi_str, isi_bl, isi_non, ii1, ii2, ii3, ii4, ii5, ii6, ii7, r_add, r_sub, r_mul, r_div, r_mod, r_pow, r_shl, r_shr, r_and, r_or, r_xor, r_neg, r_inv, r_lt, r_le, r_gt, r_ge, r_eqI, r_neI, r_eqS, r_neS, r_inS, r_niS, List.getElem?_cons_zero, List.getElem?_cons_succ, List.set_cons_zero, List.set_cons_succ, List.map_cons, List.map_nil, List.length_cons, List.length_nil, Nat.reduceAdd, Nat.reduceSub, List.replicate_succ, List.replicate_zero, List.cons_append, List.nil_append, List.append_nil, Bool.not_true, Bool.not_false, if_true, if_false, ite_true, ite_false, Bool.false_eq_true, Bool.true_eq_false, reduceIte]
  refine ⟨by decide, fun r hr => ?_⟩
  have n1 : q ≠ r := fun e => by rw [e, upd_same] at hr; cases hr
  have x1 : Ext H (upd (upd H p (.lst (ms.map V.int))) q (.lst (ms.map V.int))) := (Ext.new hp).upd_of hq
  refine h r _ (none_of x1 hr) (x1.upd_of hr) ⟨q, 0, 0, ms, upd_same, ?_, n1, by omega, by omega, by omega⟩
  rw [upd_ne n1, upd_same]
theorem ixL {xs : List V} {i : Int} {v : V} {T : List KTab} {Q : VK} (h : H p = some (.lst xs)) (hv : atI xs i = some v) (q : Q v H) : rIxU K w T (.ref p) (.int i) H Q := x_ixL (.inl (.inl h)) hv q
theorem putL {xs : List V} {i : Int} {j : Nat} {v : V} {Q : Hp → Prop} (h : H p = some (.lst xs)) (hj : ixN xs.length i = some j) (q : Q (upd H p (.lst (xs.set j v)))) : rSetU (.ref p) (.int i) v H Q := .inl ⟨xs, h, j, hj, q⟩
theorem rB_int {i : Int} : rB K .int [.int i] H Q = Q (.int i) H := rfl
theorem rB_intb {b : Bool} : rB K .int [.bl b] H Q = Q (.int (if b then 1 else 0)) H := rfl
theorem rB_abs {i : Int} : rB K .abs [.int i] H Q = Q (.int (if i < 0 then -i else i)) H := rfl
theorem lenL {xs : List V} (h : H p = some (.lst xs)) (q : Q (.int xs.length) H) : rB K .len [.ref p] H Q := .inl ⟨xs, .inl (.inl h), q⟩
theorem cmul_l {i j : Int} (h : -(2 ^ 64) < i ∧ i < 2 ^ 64) : CMul i j ∨ CMulW i j := .inl (.inl h)
theorem cmul_r {i j : Int} (h : -(2 ^ 64) < j ∧ j < 2 ^ 64) : CMul i j ∨ CMulW i j := .inl (.inr h)
theorem atI_mod {α : Type} (xs : List α) (t : Int) (h : xs ≠ []) : ∃ x ∈ xs, atI xs (t % xs.length) = some x := by
  have hl : 0 < xs.length := List.length_pos_iff.mpr h
  have h1 := Int.emod_nonneg t (show (xs.length : Int) ≠ 0 by omega)
  have h2 := Int.emod_lt_of_pos t (show (0 : Int) < xs.length by omega)
  have h3 : (t % (xs.length : Int)).toNat < xs.length := by omega
  refine ⟨xs[(t % (xs.length : Int)).toNat], List.getElem_mem h3, ?_⟩
  unfold atI ixN
  rw [if_pos h1, if_pos h2]
  exact List.getElem?_eq_getElem h3
/-- behind the cell: what is told of it -/
theorem pow5 (i : Int) (h : 0 ≤ i ∧ i < 2 ^ 64) : CPow i 5 := ⟨by omega, by omega, by omega⟩
theorem pow3 (i : Int) (h : 0 ≤ i ∧ i < 2 ^ 64) : CPow i 3 := ⟨by omega, by omega, by omega⟩
theorem rB_bool {b : Bool} : (if b = true then (1 : Int) else 0) = if b then 1 else 0 := rfl
/-- the end of a draw -/
theorem draw_tail {N m t l c : Int} {q : Addr} {ns : List Int} {fn : Str → Sp} {W : WX} {D : Ends} (e1 : H p = some (.lst [.ref q, .int (t + 1), .int l])) (e2 : H q = some (.lst (ns.map V.int))) (e3 : q ≠ p) (t0 : 0 ≤ t) (tN : t ≤ N) (l0 : 0 ≤ l) (hN : N < 65536) (hm : 0 < m ∧ m < 1048576)
    (h : ∀ v H', 0 ≤ v ∧ v < m → Pen H' p (N + 1) → ExtP p H H' → D.rt (.int v) H') : (rd (hd.pg.ctx K w fn) (tailI 5 b__law_draw) W).s D [some (.ref p), some (.int m), none, some (.int t), some (.int c), none, none] H := by
  have md : ∀ i : Int, 0 ≤ i % m ∧ i % m < m := fun i => ⟨Int.emod_nonneg _ (by omega), Int.emod_lt_of_pos _ hm.1⟩
  have dv : ∀ i : Int, CDivU i m := fun i => .inl ⟨hm.1, by omega⟩
  rw [s_split 1 (by rfl)]
  have pen : Pen H p (N + 1) := ⟨q, t + 1, l, ns, e1, e2, e3, by omega, by omega, l0⟩
  have tl : (rd (hd.pg.ctx K w fn) (tailI 1 (tailI 5 b__law_draw)) W).s D [some (.ref p), some (.int m), none, some (.int t), some (.int c), none, none] H := by
    simp only [tailI, b__law_draw, rB_int, e_k, e_v, e_g, e_bop, e_uop, e_not, e_and, e_or, e_ite, e_cmp, e_cmp2, e_lst, e_tup, e_dic, e_call, e_mk, e_bi, e_isi, e_meth, e_bm, e_icall, e_ostr, e_att, e_ix, e_sl, e_lc, t_v, t_isi, t_call, t_meth, t_bop, t_bi, t_att, t_not, t_and, t_or, t_cmp, t_cmp2, trQ_bl, blQ_bl, a_nil', a_cons, s_nil, s_cons, s_set, s_setLc, s_par, s_expr, s_ret, s_retN, s_if, s_for, s_never, s_pass, s_brk, s_cont, g_v', g_tup, g_sub, g_att, gs_nil, gs_cons, gs_tup, i_L, i_T, i_S, i_R1, i_ES, i_E, i_Z, p_nil, p_pair, o_nil, o_k, x_K, x_w, x_fn, x_gv, x_tabs, x_mth, x_prp, x_fld, x_isi, x_kwo, isi_int, isi_str, isi_bl, isi_non, ii1, ii2, ii3, ii4, ii5, ii6, ii7, r_add, r_sub, r_mul, r_div, r_mod, r_pow, r_shl, r_shr, r_and, r_or, r_xor, r_neg, r_inv, r_lt, r_le, r_gt, r_ge, r_eqI, r_neI, r_eqS, r_neS, r_inS, r_niS, List.getElem?_cons_zero, List.getElem?_cons_succ, List.set_cons_zero, List.set_cons_succ, List.map_cons, List.map_nil, List.length_cons, List.length_nil, Nat.reduceAdd, Nat.reduceSub, List.replicate_succ, List.replicate_zero, List.cons_append, List.nil_append, List.append_nil, Bool.not_true, Bool.not_false, if_true, if_false, ite_true, ite_false, Bool.false_eq_true, Bool.true_eq_false, reduceIte]
    have a1 := Int.emod_nonneg c (show (2147483549 : Int) ≠ 0 by decide)
    have a2 := Int.emod_lt_of_pos c (show (0 : Int) < 2147483549 by decide)
    refine ⟨by decide, cmul_l (by decide), pow5 _ (by omega), by decide, ?_⟩
    have b1 := Int.emod_nonneg ((c % 2147483549 + 60091 * t + 337) ^ Int.toNat 5) (show (2147483629 : Int) ≠ 0 by decide)
    have b2 := Int.emod_lt_of_pos ((c % 2147483549 + 60091 * t + 337) ^ Int.toNat 5) (show (0 : Int) < 2147483629 by decide)
    obtain ⟨x, ex⟩ : ∃ x, x = (c % 2147483549 + 60091 * t + 337) ^ Int.toNat 5 % 2147483629 := ⟨_, rfl⟩
    rw [← ex] at b1 b2 ⊢
    have c1 : x * (2 * t + 43) ≤ 2147483629 * (2 * 65536 + 43) := Int.mul_le_mul (by omega) (by omega) (by omega) (by omega)
    have c2 : 0 ≤ x * (2 * t + 43) := Int.mul_nonneg b1 (by omega)
    have c3 : 70051 * t * t ≤ 70051 * 65536 * 65536 := Int.mul_le_mul (by omega) (by omega) (by omega) (by omega)
    have c4 : 0 ≤ 70051 * t * t := Int.mul_nonneg (by omega) (by omega)
    refine ⟨cmul_l (by decide), cmul_l (by omega), cmul_l (by decide), cmul_r (by omega), pow3 _ (by omega), by decide, .inl ⟨by decide, by decide⟩, hm.1, ?_⟩
    exact h _ _ (md _) pen fun a o _ e => e
  generalize (rd (hd.pg.ctx K w fn) (tailI 1 (tailI 5 b__law_draw)) W).s D = nx at tl ⊢
  simp only [headI, tailI, b__law_draw, rB_int, e_k, e_v, e_g, e_bop, e_uop, e_not, e_and, e_or, e_ite, e_cmp, e_cmp2, e_lst, e_tup, e_dic, e_call, e_mk, e_bi, e_isi, e_meth, e_bm, e_icall, e_ostr, e_att, e_ix, e_sl, e_lc, t_v, t_isi, t_call, t_meth, t_bop, t_bi, t_att, t_not, t_and, t_or, t_cmp, t_cmp2, trQ_bl, blQ_bl, a_nil', a_cons, s_nil, s_cons, s_set, s_setLc, s_par, s_expr, s_ret, s_retN, s_if, s_for, s_never, s_pass, s_brk, s_cont, g_v', g_tup, g_sub, g_att, gs_nil, gs_cons, gs_tup, i_L, i_T, i_S, i_R1, i_ES, i_E, i_Z, p_nil, p_pair, o_nil, o_k, x_K, x_w, x_fn, x_gv, x_tabs, x_mth, x_prp, x_fld, x_isi, x_kwo, isi_int, isi_str, isi_bl, isi_non, ii1, ii2, ii3, ii4, ii5, ii6, ii7, r_add, r_sub, r_mul, r_div, r_mod, r_pow, r_shl, r_shr, r_and, r_or, r_xor, r_neg, r_inv, r_lt, r_le, r_gt, r_ge, r_eqI, r_neI, r_eqS, r_neS, r_inS, r_niS, List.getElem?_cons_zero, List.getElem?_cons_succ, List.set_cons_zero, List.set_cons_succ, List.map_cons, List.map_nil, List.length_cons, List.length_nil, Nat.reduceAdd, Nat.reduceSub, List.replicate_succ, List.replicate_zero, List.cons_append, List.nil_append, List.append_nil, Bool.not_true, Bool.not_false, if_true, if_false, ite_true, ite_false, Bool.false_eq_true, Bool.true_eq_false, reduceIte]
  refine ixL e1 rfl (lenL e2 ?_)
  try simp only [for_nil, for_v, for_t, lc_nil, lc_v, lc_t, lc_turn0, lc_turn1, wipe_nil, wipe_cons, true_and, and_true, upd_same, upd_upd, Option.some.injEq, HO.lst.injEq, HO.tup.injEq, HO.dK.injEq, exists_eq_left', List.singleton_append, Int.cast_ofNat_Int, and1, e_k, e_v, e_g, e_bop, e_uop, e_not, e_and, e_or, e_ite, e_cmp, e_cmp2, e_lst, e_tup, e_dic, e_call, e_mk, e_bi, e_isi, e_meth, e_bm, e_icall, e_ostr, e_att, e_ix, e_sl, e_lc, t_v, t_isi, t_call, t_meth, t_bop, t_bi, t_att, t_not, t_and, t_or, t_cmp, t_cmp2, trQ_bl, blQ_bl, a_nil', a_cons, s_nil, s_cons, s_set, s_setLc, s_par, s_expr, s_ret, s_retN, s_if, s_for, s_never, s_pass, s_brk, s_cont, g_v', g_tup, g_sub, g_att, gs_nil, gs_cons, gs_tup, i_L, i_T, i_S, i_R1, i_ES, i_E, i_Z, p_nil, p_pair, o_nil, o_k, x_K, x_w, x_fn, x_gv, x_tabs, x_mth, x_prp, x_fld, x_isi, x_kwo, isi_int, isi_str, isi_bl, isi_non, ii1, ii2, ii3, ii4, ii5, ii6, ii7, r_add, r_sub, r_mul, r_div, r_mod, r_pow, r_shl, r_shr, r_and, r_or, r_xor, r_neg, r_inv, r_lt, r_le, r_gt, r_ge, r_eqI, r_neI, r_eqS, r_neS, r_inS, r_niS, List.getElem?_cons_zero, List.getElem?_cons_succ, List.set_cons_zero, List.set_cons_succ, List.map_cons, List.map_nil, List.length_cons, List.length_nil, Nat.reduceAdd, Nat.reduceSub, List.replicate_succ, List.replicate_zero, List.cons_append, List.nil_append, List.append_nil, Bool.not_true, Bool.not_false, if_true, if_false, ite_true, ite_false, Bool.false_eq_true, Bool.true_eq_false, reduceIte]
  by_cases h1 : t < ((ns.map V.int).length : Int)
  · rw [decide_eq_true h1]
    simp only [rB_int, rB_intb, rB_abs, e_k, e_v, e_g, e_bop, e_uop, e_not, e_and, e_or, e_ite, e_cmp, e_cmp2, e_lst, e_tup, e_dic, e_call, e_mk, e_bi, e_isi, e_meth, e_bm, e_icall, e_ostr, e_att, e_ix, e_sl, e_lc, t_v, t_isi, t_call, t_meth, t_bop, t_bi, t_att, t_not, t_and, t_or, t_cmp, t_cmp2, trQ_bl, blQ_bl, a_nil', a_cons, s_nil, s_cons, s_set, s_setLc, s_par, s_expr, s_ret, s_retN, s_if, s_for, s_never, s_pass, s_brk, s_cont, g_v', g_tup, g_sub, g_att, gs_nil, gs_cons, gs_tup, i_L, i_T, i_S, i_R1, i_ES, i_E, i_Z, p_nil, p_pair, o_nil, o_k, x_K, x_w, x_fn, x_gv, x_tabs, x_mth, x_prp, x_fld, x_isi, x_kwo, isi_int, isi_str, isi_bl, isi_non, ii1, ii2, ii3, ii4, ii5, ii6, ii7, r_add, r_sub, r_mul, r_div, r_mod, r_pow, r_shl, r_shr, r_and, r_or, r_xor, r_neg, r_inv, r_lt, r_le, r_gt, r_ge, r_eqI, r_neI, r_eqS, r_neS, r_inS, r_niS, List.getElem?_cons_zero, List.getElem?_cons_succ, List.set_cons_zero, List.set_cons_succ, List.map_cons, List.map_nil, List.length_cons, List.length_nil, Nat.reduceAdd, Nat.reduceSub, List.replicate_succ, List.replicate_zero, List.cons_append, List.nil_append, List.append_nil, Bool.not_true, Bool.not_false, if_true, if_false, ite_true, ite_false, Bool.false_eq_true, Bool.true_eq_false, reduceIte]
    refine ⟨⟨by decide, by decide, by decide⟩, ?_⟩
    generalize hb : decide ((10 : Int) ^ Int.toNat 18 ≤ if c < 0 then -c else c) = b1
    cases b1 with
    | false => simpa only [e_k, e_v, e_g, e_bop, e_uop, e_not, e_and, e_or, e_ite, e_cmp, e_cmp2, e_lst, e_tup, e_dic, e_call, e_mk, e_bi, e_isi, e_meth, e_bm, e_icall, e_ostr, e_att, e_ix, e_sl, e_lc, t_v, t_isi, t_call, t_meth, t_bop, t_bi, t_att, t_not, t_and, t_or, t_cmp, t_cmp2, trQ_bl, blQ_bl, a_nil', a_cons, s_nil, s_cons, s_set, s_setLc, s_par, s_expr, s_ret, s_retN, s_if, s_for, s_never, s_pass, s_brk, s_cont, g_v', g_tup, g_sub, g_att, gs_nil, gs_cons, gs_tup, i_L, i_T, i_S, i_R1, i_ES, i_E, i_Z, p_nil, p_pair, o_nil, o_k, x_K, x_w, x_fn, x_gv, x_tabs, x_mth, x_prp, x_fld, x_isi, x_kwo, isi_int, isi_str, isi_bl, isi_non, ii1, ii2, ii3, ii4, ii5, ii6, ii7, r_add, r_sub, r_mul, r_div, r_mod, r_pow, r_shl, r_shr, r_and, r_or, r_xor, r_neg, r_inv, r_lt, r_le, r_gt, r_ge, r_eqI, r_neI, r_eqS, r_neS, r_inS, r_niS, List.getElem?_cons_zero, List.getElem?_cons_succ, List.set_cons_zero, List.set_cons_succ, List.map_cons, List.map_nil, List.length_cons, List.length_nil, Nat.reduceAdd, Nat.reduceSub, List.replicate_succ, List.replicate_zero, List.cons_append, List.nil_append, List.append_nil, Bool.not_true, Bool.not_false, if_true, if_false, ite_true, ite_false, Bool.false_eq_true, Bool.true_eq_false, reduceIte] using tl
    | true =>
      simp only [e_k, e_v, e_g, e_bop, e_uop, e_not, e_and, e_or, e_ite, e_cmp, e_cmp2, e_lst, e_tup, e_dic, e_call, e_mk, e_bi, e_isi, e_meth, e_bm, e_icall, e_ostr, e_att, e_ix, e_sl, e_lc, t_v, t_isi, t_call, t_meth, t_bop, t_bi, t_att, t_not, t_and, t_or, t_cmp, t_cmp2, trQ_bl, blQ_bl, a_nil', a_cons, s_nil, s_cons, s_set, s_setLc, s_par, s_expr, s_ret, s_retN, s_if, s_for, s_never, s_pass, s_brk, s_cont, g_v', g_tup, g_sub, g_att, gs_nil, gs_cons, gs_tup, i_L, i_T, i_S, i_R1, i_ES, i_E, i_Z, p_nil, p_pair, o_nil, o_k, x_K, x_w, x_fn, x_gv, x_tabs, x_mth, x_prp, x_fld, x_isi, x_kwo, isi_int, isi_str, isi_bl, isi_non, ii1, ii2, ii3, ii4, ii5, ii6, ii7, r_add, r_sub, r_mul, r_div, r_mod, r_pow, r_shl, r_shr, r_and, r_or, r_xor, r_neg, r_inv, r_lt, r_le, r_gt, r_ge, r_eqI, r_neI, r_eqS, r_neS, r_inS, r_niS, List.getElem?_cons_zero, List.getElem?_cons_succ, List.set_cons_zero, List.set_cons_succ, List.map_cons, List.map_nil, List.length_cons, List.length_nil, Nat.reduceAdd, Nat.reduceSub, List.replicate_succ, List.replicate_zero, List.cons_append, List.nil_append, List.append_nil, Bool.not_true, Bool.not_false, if_true, if_false, ite_true, ite_false, Bool.false_eq_true, Bool.true_eq_false, reduceIte]
      have ha := of_decide_eq_true hb
      refine ⟨⟨by decide, by decide, by decide⟩, cmul_l (by decide), dv _, ?_⟩
      refine putL (j := 2) e1 rfl ?_
      try simp only [for_nil, for_v, for_t, lc_nil, lc_v, lc_t, lc_turn0, lc_turn1, wipe_nil, wipe_cons, true_and, and_true, upd_same, upd_upd, Option.some.injEq, HO.lst.injEq, HO.tup.injEq, HO.dK.injEq, exists_eq_left', List.singleton_append, Int.cast_ofNat_Int, and1, e_k, e_v, e_g, e_bop, e_uop, e_not, e_and, e_or, e_ite, e_cmp, e_cmp2, e_lst, e_tup, e_dic, e_call, e_mk, e_bi, e_isi, e_meth, e_bm, e_icall, e_ostr, e_att, e_ix, e_sl, e_lc, t_v, t_isi, t_call, t_meth, t_bop, t_bi, t_att, t_not, t_and, t_or, t_cmp, t_cmp2, trQ_bl, blQ_bl, a_nil', a_cons, s_nil, s_cons, s_set, s_setLc, s_par, s_expr, s_ret, s_retN, s_if, s_for, s_never, s_pass, s_brk, s_cont, g_v', g_tup, g_sub, g_att, gs_nil, gs_cons, gs_tup, i_L, i_T, i_S, i_R1, i_ES, i_E, i_Z, p_nil, p_pair, o_nil, o_k, x_K, x_w, x_fn, x_gv, x_tabs, x_mth, x_prp, x_fld, x_isi, x_kwo, isi_int, isi_str, isi_bl, isi_non, ii1, ii2, ii3, ii4, ii5, ii6, ii7, r_add, r_sub, r_mul, r_div, r_mod, r_pow, r_shl, r_shr, r_and, r_or, r_xor, r_neg, r_inv, r_lt, r_le, r_gt, r_ge, r_eqI, r_neI, r_eqS, r_neS, r_inS, r_niS, List.getElem?_cons_zero, List.getElem?_cons_succ, List.set_cons_zero, List.set_cons_succ, List.map_cons, List.map_nil, List.length_cons, List.length_nil, Nat.reduceAdd, Nat.reduceSub, List.replicate_succ, List.replicate_zero, List.cons_append, List.nil_append, List.append_nil, Bool.not_true, Bool.not_false, if_true, if_false, ite_true, ite_false, Bool.false_eq_true, Bool.true_eq_false, reduceIte]
      refine ⟨hm.1, ?_⟩
      refine h _ _ (md _) ⟨q, t + 1, _, ns, upd_same, by rw [upd_ne e3]; exact e2, e3, by omega, by omega, ?_⟩ fun a o n e => by rw [upd_ne n]; exact e
      refine Int.ediv_nonneg ?_ (by omega)
      have : (0 : Int) ≤ if decide (c < 0) = true then 1 else 0 := by split <;> omega
      omega
  · rw [decide_eq_false h1]
    simpa only [e_k, e_v, e_g, e_bop, e_uop, e_not, e_and, e_or, e_ite, e_cmp, e_cmp2, e_lst, e_tup, e_dic, e_call, e_mk, e_bi, e_isi, e_meth, e_bm, e_icall, e_ostr, e_att, e_ix, e_sl, e_lc, t_v, t_isi, t_call, t_meth, t_bop, t_bi, t_att, t_not, t_and, t_or, t_cmp, t_cmp2, trQ_bl, blQ_bl, a_nil', a_cons, s_nil, s_cons, s_set, s_setLc, s_par, s_expr, s_ret, s_retN, s_if, s_for, s_never, s_pass, s_brk, s_cont, g_v', g_tup, g_sub, g_att, gs_nil, gs_cons, gs_tup, i_L, i_T, i_S, i_R1, i_ES, i_E, i_Z, p_nil, p_pair, o_nil, o_k, x_K, x_w, x_fn, x_gv, x_tabs, x_mth, x_prp, x_fld, x_isi, x_kwo, isi_int, isi_str, isi_bl, isi_non, ii1, ii2, ii3, ii4, ii5, ii6, ii7, r_add, r_sub, r_mul, r_div, r_mod, r_pow, r_shl, r_shr, r_and, r_or, r_xor, r_neg, r_inv, r_lt, r_le, r_gt, r_ge, r_eqI, r_neI, r_eqS, r_neS, r_inS, r_niS, List.getElem?_cons_zero, List.getElem?_cons_succ, List.set_cons_zero, List.set_cons_succ, List.map_cons, List.map_nil, List.length_cons, List.length_nil, Nat.reduceAdd, Nat.reduceSub, List.replicate_succ, List.replicate_zero, List.cons_append, List.nil_append, List.append_nil, Bool.not_true, Bool.not_false, if_true, if_false, ite_true, ite_false, Bool.false_eq_true, Bool.true_eq_false, reduceIte] using tl
theorem c_draw {N m : Int} (hP : Pen H p N) (hN : N < 65536) (hm : 0 < m ∧ m < 1048576) (hn : 1 ≤ n)
    (h : ∀ v H', 0 ≤ v ∧ v < m → Pen H' p (N + 1) → ExtP p H H' → Q (.int v) H') : run hd.pg K w n s__law_draw [.ref p, .int m] H Q E := by
  obtain ⟨q, t, l, ns, e1, e2, e3, t0, tN, l0⟩ := hP
  have md : ∀ i : Int, 0 ≤ i % m ∧ i % m < m := fun i => ⟨Int.emod_nonneg _ (by omega), Int.emod_lt_of_pos _ hm.1⟩
  have dv : ∀ i : Int, CDivU i m := fun i => .inl ⟨hm.1, by omega⟩
  refine run_at f__law_draw hn rfl ?_
  show (rd _ b__law_draw _).s _ _ _
  rw [s_split 5 (by rfl)]
  have tl : ∀ (c : Int) (H2 : Hp), H2 p = some (.lst [.ref q, .int (t + 1), .int l]) → H2 q = some (.lst (ns.map V.int)) → ExtP p H H2 →
      (rd (hd.pg.ctx K w (run hd.pg K w (n - 1))) (tailI 5 b__law_draw) fun cls dd _ H' => E cls dd H').s { nx := fun _ H' => Q .non H', rt := Q } [some (.ref p), some (.int m), none, some (.int t), some (.int c), none, none] H2 :=
    fun c H2 k1 k2 x => draw_tail k1 k2 e3 t0 tN l0 hN hm fun v H' hv hp hx => h v H' hv hp (x.trans hx)
  generalize (rd (hd.pg.ctx K w (run hd.pg K w (n - 1))) (tailI 5 b__law_draw) fun cls dd _ H' => E cls dd H').s { nx := fun _ H' => Q .non H', rt := Q } = nx at tl ⊢
  simp only [d__law_draw, headI, b__law_draw, L2.start, rB_int, e_k, e_v, e_g, e_bop, e_uop, e_not, e_and, e_or, e_ite, e_cmp, e_cmp2, e_lst, e_tup, e_dic, e_call, e_mk, e_bi, e_isi, e_meth, e_bm, e_icall, e_ostr, e_att, e_ix, e_sl, e_lc, t_v, t_isi, t_call, t_meth, t_bop, t_bi, t_att, t_not, t_and, t_or, t_cmp, t_cmp2, trQ_bl, blQ_bl, a_nil', a_cons, s_nil, s_cons, s_set, s_setLc, s_par, s_expr, s_ret, s_retN, s_if, s_for, s_never, s_pass, s_brk, s_cont, g_v', g_tup, g_sub, g_att, gs_nil, gs_cons, gs_tup, i_L, i_T, i_S, i_R1, i_ES, i_E, i_Z, p_nil, p_pair, o_nil, o_k, x_K, x_w, x_fn, x_gv, x_tabs, x_mth, x_prp, x_fld, x_isi, x_kwo, isi_int, isi_str, isi_bl, isi_non, ii1, ii2, ii3, ii4, ii5, ii6, ii7, r_add, r_sub, r_mul, r_div, r_mod, r_pow, r_shl, r_shr, r_and, r_or, r_xor, r_neg, r_inv, r_lt, r_le, r_gt, r_ge, r_eqI, r_neI, r_eqS, r_neS, r_inS, r_niS, List.getElem?_cons_zero, List.getElem?_cons_succ, List.set_cons_zero, List.set_cons_succ, List.map_cons, List.map_nil, List.length_cons, List.length_nil, Nat.reduceAdd, Nat.reduceSub, List.replicate_succ, List.replicate_zero, List.cons_append, List.nil_append, List.append_nil, Bool.not_true, Bool.not_false, if_true, if_false, ite_true, ite_false, Bool.false_eq_true, Bool.true_eq_false, reduceIte]
  refine ixL e1 rfl ?_
  try simp only [for_nil, for_v, for_t, lc_nil, lc_v, lc_t, lc_turn0, lc_turn1, wipe_nil, wipe_cons, true_and, and_true, upd_same, upd_upd, Option.some.injEq, HO.lst.injEq, HO.tup.injEq, HO.dK.injEq, exists_eq_left', List.singleton_append, Int.cast_ofNat_Int, and1, e_k, e_v, e_g, e_bop, e_uop, e_not, e_and, e_or, e_ite, e_cmp, e_cmp2, e_lst, e_tup, e_dic, e_call, e_mk, e_bi, e_isi, e_meth, e_bm, e_icall, e_ostr, e_att, e_ix, e_sl, e_lc, t_v, t_isi, t_call, t_meth, t_bop, t_bi, t_att, t_not, t_and, t_or, t_cmp, t_cmp2, trQ_bl, blQ_bl, a_nil', a_cons, s_nil, s_cons, s_set, s_setLc, s_par, s_expr, s_ret, s_retN, s_if, s_for, s_never, s_pass, s_brk, s_cont, g_v', g_tup, g_sub, g_att, gs_nil, gs_cons, gs_tup, i_L, i_T, i_S, i_R1, i_ES, i_E, i_Z, p_nil, p_pair, o_nil, o_k, x_K, x_w, x_fn, x_gv, x_tabs, x_mth, x_prp, x_fld, x_isi, x_kwo, isi_int, isi_str, isi_bl, isi_non, ii1, ii2, ii3, ii4, ii5, ii6, ii7, r_add, r_sub, r_mul, r_div, r_mod, r_pow, r_shl, r_shr, r_and, r_or, r_xor, r_neg, r_inv, r_lt, r_le, r_gt, r_ge, r_eqI, r_neI, r_eqS, r_neS, r_inS, r_niS, List.getElem?_cons_zero, List.getElem?_cons_succ, List.set_cons_zero, List.set_cons_succ, List.map_cons, List.map_nil, List.length_cons, List.length_nil, Nat.reduceAdd, Nat.reduceSub, List.replicate_succ, List.replicate_zero, List.cons_append, List.nil_append, List.append_nil, Bool.not_true, Bool.not_false, if_true, if_false, ite_true, ite_false, Bool.false_eq_true, Bool.true_eq_false, reduceIte]
  by_cases hl : 0 < l
  · rw [decide_eq_true hl]
    try simp only [for_nil, for_v, for_t, lc_nil, lc_v, lc_t, lc_turn0, lc_turn1, wipe_nil, wipe_cons, true_and, and_true, upd_same, upd_upd, Option.some.injEq, HO.lst.injEq, HO.tup.injEq, HO.dK.injEq, exists_eq_left', List.singleton_append, Int.cast_ofNat_Int, and1, e_k, e_v, e_g, e_bop, e_uop, e_not, e_and, e_or, e_ite, e_cmp, e_cmp2, e_lst, e_tup, e_dic, e_call, e_mk, e_bi, e_isi, e_meth, e_bm, e_icall, e_ostr, e_att, e_ix, e_sl, e_lc, t_v, t_isi, t_call, t_meth, t_bop, t_bi, t_att, t_not, t_and, t_or, t_cmp, t_cmp2, trQ_bl, blQ_bl, a_nil', a_cons, s_nil, s_cons, s_set, s_setLc, s_par, s_expr, s_ret, s_retN, s_if, s_for, s_never, s_pass, s_brk, s_cont, g_v', g_tup, g_sub, g_att, gs_nil, gs_cons, gs_tup, i_L, i_T, i_S, i_R1, i_ES, i_E, i_Z, p_nil, p_pair, o_nil, o_k, x_K, x_w, x_fn, x_gv, x_tabs, x_mth, x_prp, x_fld, x_isi, x_kwo, isi_int, isi_str, isi_bl, isi_non, ii1, ii2, ii3, ii4, ii5, ii6, ii7, r_add, r_sub, r_mul, r_div, r_mod, r_pow, r_shl, r_shr, r_and, r_or, r_xor, r_neg, r_inv, r_lt, r_le, r_gt, r_ge, r_eqI, r_neI, r_eqS, r_neS, r_inS, r_niS, List.getElem?_cons_zero, List.getElem?_cons_succ, List.set_cons_zero, List.set_cons_succ, List.map_cons, List.map_nil, List.length_cons, List.length_nil, Nat.reduceAdd, Nat.reduceSub, List.replicate_succ, List.replicate_zero, List.cons_append, List.nil_append, List.append_nil, Bool.not_true, Bool.not_false, if_true, if_false, ite_true, ite_false, Bool.false_eq_true, Bool.true_eq_false, reduceIte]
    refine ixL e1 rfl ?_
    simp only [rB_int, e_k, e_v, e_g, e_bop, e_uop, e_not, e_and, e_or, e_ite, e_cmp, e_cmp2, e_lst, e_tup, e_dic, e_call, e_mk, e_bi, e_isi, e_meth, e_bm, e_icall, e_ostr, e_att, e_ix, e_sl, e_lc, t_v, t_isi, t_call, t_meth, t_bop, t_bi, t_att, t_not, t_and, t_or, t_cmp, t_cmp2, trQ_bl, blQ_bl, a_nil', a_cons, s_nil, s_cons, s_set, s_setLc, s_par, s_expr, s_ret, s_retN, s_if, s_for, s_never, s_pass, s_brk, s_cont, g_v', g_tup, g_sub, g_att, gs_nil, gs_cons, gs_tup, i_L, i_T, i_S, i_R1, i_ES, i_E, i_Z, p_nil, p_pair, o_nil, o_k, x_K, x_w, x_fn, x_gv, x_tabs, x_mth, x_prp, x_fld, x_isi, x_kwo, isi_int, isi_str, isi_bl, isi_non, ii1, ii2, ii3, ii4, ii5, ii6, ii7, r_add, r_sub, r_mul, r_div, r_mod, r_pow, r_shl, r_shr, r_and, r_or, r_xor, r_neg, r_inv, r_lt, r_le, r_gt, r_ge, r_eqI, r_neI, r_eqS, r_neS, r_inS, r_niS, List.getElem?_cons_zero, List.getElem?_cons_succ, List.set_cons_zero, List.set_cons_succ, List.map_cons, List.map_nil, List.length_cons, List.length_nil, Nat.reduceAdd, Nat.reduceSub, List.replicate_succ, List.replicate_zero, List.cons_append, List.nil_append, List.append_nil, Bool.not_true, Bool.not_false, if_true, if_false, ite_true, ite_false, Bool.false_eq_true, Bool.true_eq_false, reduceIte]
    refine ⟨hm.1, ?_⟩
    refine ixL e1 rfl ?_
    simp only [rB_int, e_k, e_v, e_g, e_bop, e_uop, e_not, e_and, e_or, e_ite, e_cmp, e_cmp2, e_lst, e_tup, e_dic, e_call, e_mk, e_bi, e_isi, e_meth, e_bm, e_icall, e_ostr, e_att, e_ix, e_sl, e_lc, t_v, t_isi, t_call, t_meth, t_bop, t_bi, t_att, t_not, t_and, t_or, t_cmp, t_cmp2, trQ_bl, blQ_bl, a_nil', a_cons, s_nil, s_cons, s_set, s_setLc, s_par, s_expr, s_ret, s_retN, s_if, s_for, s_never, s_pass, s_brk, s_cont, g_v', g_tup, g_sub, g_att, gs_nil, gs_cons, gs_tup, i_L, i_T, i_S, i_R1, i_ES, i_E, i_Z, p_nil, p_pair, o_nil, o_k, x_K, x_w, x_fn, x_gv, x_tabs, x_mth, x_prp, x_fld, x_isi, x_kwo, isi_int, isi_str, isi_bl, isi_non, ii1, ii2, ii3, ii4, ii5, ii6, ii7, r_add, r_sub, r_mul, r_div, r_mod, r_pow, r_shl, r_shr, r_and, r_or, r_xor, r_neg, r_inv, r_lt, r_le, r_gt, r_ge, r_eqI, r_neI, r_eqS, r_neS, r_inS, r_niS, List.getElem?_cons_zero, List.getElem?_cons_succ, List.set_cons_zero, List.set_cons_succ, List.map_cons, List.map_nil, List.length_cons, List.length_nil, Nat.reduceAdd, Nat.reduceSub, List.replicate_succ, List.replicate_zero, List.cons_append, List.nil_append, List.append_nil, Bool.not_true, Bool.not_false, if_true, if_false, ite_true, ite_false, Bool.false_eq_true, Bool.true_eq_false, reduceIte]
    refine ⟨dv l, ?_⟩
    refine putL (j := 2) e1 rfl ?_
    try simp only [for_nil, for_v, for_t, lc_nil, lc_v, lc_t, lc_turn0, lc_turn1, wipe_nil, wipe_cons, true_and, and_true, upd_same, upd_upd, Option.some.injEq, HO.lst.injEq, HO.tup.injEq, HO.dK.injEq, exists_eq_left', List.singleton_append, Int.cast_ofNat_Int, and1, e_k, e_v, e_g, e_bop, e_uop, e_not, e_and, e_or, e_ite, e_cmp, e_cmp2, e_lst, e_tup, e_dic, e_call, e_mk, e_bi, e_isi, e_meth, e_bm, e_icall, e_ostr, e_att, e_ix, e_sl, e_lc, t_v, t_isi, t_call, t_meth, t_bop, t_bi, t_att, t_not, t_and, t_or, t_cmp, t_cmp2, trQ_bl, blQ_bl, a_nil', a_cons, s_nil, s_cons, s_set, s_setLc, s_par, s_expr, s_ret, s_retN, s_if, s_for, s_never, s_pass, s_brk, s_cont, g_v', g_tup, g_sub, g_att, gs_nil, gs_cons, gs_tup, i_L, i_T, i_S, i_R1, i_ES, i_E, i_Z, p_nil, p_pair, o_nil, o_k, x_K, x_w, x_fn, x_gv, x_tabs, x_mth, x_prp, x_fld, x_isi, x_kwo, isi_int, isi_str, isi_bl, isi_non, ii1, ii2, ii3, ii4, ii5, ii6, ii7, r_add, r_sub, r_mul, r_div, r_mod, r_pow, r_shl, r_shr, r_and, r_or, r_xor, r_neg, r_inv, r_lt, r_le, r_gt, r_ge, r_eqI, r_neI, r_eqS, r_neS, r_inS, r_niS, List.getElem?_cons_zero, List.getElem?_cons_succ, List.set_cons_zero, List.set_cons_succ, List.map_cons, List.map_nil, List.length_cons, List.length_nil, Nat.reduceAdd, Nat.reduceSub, List.replicate_succ, List.replicate_zero, List.cons_append, List.nil_append, List.append_nil, Bool.not_true, Bool.not_false, if_true, if_false, ite_true, ite_false, Bool.false_eq_true, Bool.true_eq_false, reduceIte]
    refine h _ _ (md l) ⟨q, t, l / m, ns, upd_same, by rw [upd_ne e3]; exact e2, e3, t0, by omega, Int.ediv_nonneg l0 (by omega)⟩ fun a o n e => by rw [upd_ne n]; exact e
  · rw [decide_eq_false hl]
    try simp only [for_nil, for_v, for_t, lc_nil, lc_v, lc_t, lc_turn0, lc_turn1, wipe_nil, wipe_cons, true_and, and_true, upd_same, upd_upd, Option.some.injEq, HO.lst.injEq, HO.tup.injEq, HO.dK.injEq, exists_eq_left', List.singleton_append, Int.cast_ofNat_Int, and1, e_k, e_v, e_g, e_bop, e_uop, e_not, e_and, e_or, e_ite, e_cmp, e_cmp2, e_lst, e_tup, e_dic, e_call, e_mk, e_bi, e_isi, e_meth, e_bm, e_icall, e_ostr, e_att, e_ix, e_sl, e_lc, t_v, t_isi, t_call, t_meth, t_bop, t_bi, t_att, t_not, t_and, t_or, t_cmp, t_cmp2, trQ_bl, blQ_bl, a_nil', a_cons, s_nil, s_cons, s_set, s_setLc, s_par, s_expr, s_ret, s_retN, s_if, s_for, s_never, s_pass, s_brk, s_cont, g_v', g_tup, g_sub, g_att, gs_nil, gs_cons, gs_tup, i_L, i_T, i_S, i_R1, i_ES, i_E, i_Z, p_nil, p_pair, o_nil, o_k, x_K, x_w, x_fn, x_gv, x_tabs, x_mth, x_prp, x_fld, x_isi, x_kwo, isi_int, isi_str, isi_bl, isi_non, ii1, ii2, ii3, ii4, ii5, ii6, ii7, r_add, r_sub, r_mul, r_div, r_mod, r_pow, r_shl, r_shr, r_and, r_or, r_xor, r_neg, r_inv, r_lt, r_le, r_gt, r_ge, r_eqI, r_neI, r_eqS, r_neS, r_inS, r_niS, List.getElem?_cons_zero, List.getElem?_cons_succ, List.set_cons_zero, List.set_cons_succ, List.map_cons, List.map_nil, List.length_cons, List.length_nil, Nat.reduceAdd, Nat.reduceSub, List.replicate_succ, List.replicate_zero, List.cons_append, List.nil_append, List.append_nil, Bool.not_true, Bool.not_false, if_true, if_false, ite_true, ite_false, Bool.false_eq_true, Bool.true_eq_false, reduceIte]
    refine ixL e1 rfl ?_
    try simp only [for_nil, for_v, for_t, lc_nil, lc_v, lc_t, lc_turn0, lc_turn1, wipe_nil, wipe_cons, true_and, and_true, upd_same, upd_upd, Option.some.injEq, HO.lst.injEq, HO.tup.injEq, HO.dK.injEq, exists_eq_left', List.singleton_append, Int.cast_ofNat_Int, and1, e_k, e_v, e_g, e_bop, e_uop, e_not, e_and, e_or, e_ite, e_cmp, e_cmp2, e_lst, e_tup, e_dic, e_call, e_mk, e_bi, e_isi, e_meth, e_bm, e_icall, e_ostr, e_att, e_ix, e_sl, e_lc, t_v, t_isi, t_call, t_meth, t_bop, t_bi, t_att, t_not, t_and, t_or, t_cmp, t_cmp2, trQ_bl, blQ_bl, a_nil', a_cons, s_nil, s_cons, s_set, s_setLc, s_par, s_expr, s_ret, s_retN, s_if, s_for, s_never, s_pass, s_brk, s_cont, g_v', g_tup, g_sub, g_att, gs_nil, gs_cons, gs_tup, i_L, i_T, i_S, i_R1, i_ES, i_E, i_Z, p_nil, p_pair, o_nil, o_k, x_K, x_w, x_fn, x_gv, x_tabs, x_mth, x_prp, x_fld, x_isi, x_kwo, isi_int, isi_str, isi_bl, isi_non, ii1, ii2, ii3, ii4, ii5, ii6, ii7, r_add, r_sub, r_mul, r_div, r_mod, r_pow, r_shl, r_shr, r_and, r_or, r_xor, r_neg, r_inv, r_lt, r_le, r_gt, r_ge, r_eqI, r_neI, r_eqS, r_neS, r_inS, r_niS, List.getElem?_cons_zero, List.getElem?_cons_succ, List.set_cons_zero, List.set_cons_succ, List.map_cons, List.map_nil, List.length_cons, List.length_nil, Nat.reduceAdd, Nat.reduceSub, List.replicate_succ, List.replicate_zero, List.cons_append, List.nil_append, List.append_nil, Bool.not_true, Bool.not_false, if_true, if_false, ite_true, ite_false, Bool.false_eq_true, Bool.true_eq_false, reduceIte]
    refine putL (j := 1) e1 rfl ?_
    try simp only [for_nil, for_v, for_t, lc_nil, lc_v, lc_t, lc_turn0, lc_turn1, wipe_nil, wipe_cons, true_and, and_true, upd_same, upd_upd, Option.some.injEq, HO.lst.injEq, HO.tup.injEq, HO.dK.injEq, exists_eq_left', List.singleton_append, Int.cast_ofNat_Int, and1, e_k, e_v, e_g, e_bop, e_uop, e_not, e_and, e_or, e_ite, e_cmp, e_cmp2, e_lst, e_tup, e_dic, e_call, e_mk, e_bi, e_isi, e_meth, e_bm, e_icall, e_ostr, e_att, e_ix, e_sl, e_lc, t_v, t_isi, t_call, t_meth, t_bop, t_bi, t_att, t_not, t_and, t_or, t_cmp, t_cmp2, trQ_bl, blQ_bl, a_nil', a_cons, s_nil, s_cons, s_set, s_setLc, s_par, s_expr, s_ret, s_retN, s_if, s_for, s_never, s_pass, s_brk, s_cont, g_v', g_tup, g_sub, g_att, gs_nil, gs_cons, gs_tup, i_L, i_T, i_S, i_R1, i_ES, i_E, i_Z, p_nil, p_pair, o_nil, o_k, x_K, x_w, x_fn, x_gv, x_tabs, x_mth, x_prp, x_fld, x_isi, x_kwo, isi_int, isi_str, isi_bl, isi_non, ii1, ii2, ii3, ii4, ii5, ii6, ii7, r_add, r_sub, r_mul, r_div, r_mod, r_pow, r_shl, r_shr, r_and, r_or, r_xor, r_neg, r_inv, r_lt, r_le, r_gt, r_ge, r_eqI, r_neI, r_eqS, r_neS, r_inS, r_niS, List.getElem?_cons_zero, List.getElem?_cons_succ, List.set_cons_zero, List.set_cons_succ, List.map_cons, List.map_nil, List.length_cons, List.length_nil, Nat.reduceAdd, Nat.reduceSub, List.replicate_succ, List.replicate_zero, List.cons_append, List.nil_append, List.append_nil, Bool.not_true, Bool.not_false, if_true, if_false, ite_true, ite_false, Bool.false_eq_true, Bool.true_eq_false, reduceIte]
    refine ⟨cmul_l (by decide), ?_⟩
    obtain ⟨H1, eH1⟩ : ∃ H1, H1 = upd H p (.lst [.ref q, .int (t + 1), .int l]) := ⟨_, rfl⟩
    rw [← eH1]
    have e4 : H1 p = some (.lst [.ref q, .int (t + 1), .int l]) := by rw [eH1, upd_same]
    have e5 : H1 q = some (.lst (ns.map V.int)) := by rw [eH1, upd_ne e3]; exact e2
    have x1 : ExtP p H H1 := fun a o n e => by rw [eH1, upd_ne n]; exact e
    refine ixL e4 rfl ?_
    try simp only [for_nil, for_v, for_t, lc_nil, lc_v, lc_t, lc_turn0, lc_turn1, wipe_nil, wipe_cons, true_and, and_true, upd_same, upd_upd, Option.some.injEq, HO.lst.injEq, HO.tup.injEq, HO.dK.injEq, exists_eq_left', List.singleton_append, Int.cast_ofNat_Int, and1, e_k, e_v, e_g, e_bop, e_uop, e_not, e_and, e_or, e_ite, e_cmp, e_cmp2, e_lst, e_tup, e_dic, e_call, e_mk, e_bi, e_isi, e_meth, e_bm, e_icall, e_ostr, e_att, e_ix, e_sl, e_lc, t_v, t_isi, t_call, t_meth, t_bop, t_bi, t_att, t_not, t_and, t_or, t_cmp, t_cmp2, trQ_bl, blQ_bl, a_nil', a_cons, s_nil, s_cons, s_set, s_setLc, s_par, s_expr, s_ret, s_retN, s_if, s_for, s_never, s_pass, s_brk, s_cont, g_v', g_tup, g_sub, g_att, gs_nil, gs_cons, gs_tup, i_L, i_T, i_S, i_R1, i_ES, i_E, i_Z, p_nil, p_pair, o_nil, o_k, x_K, x_w, x_fn, x_gv, x_tabs, x_mth, x_prp, x_fld, x_isi, x_kwo, isi_int, isi_str, isi_bl, isi_non, ii1, ii2, ii3, ii4, ii5, ii6, ii7, r_add, r_sub, r_mul, r_div, r_mod, r_pow, r_shl, r_shr, r_and, r_or, r_xor, r_neg, r_inv, r_lt, r_le, r_gt, r_ge, r_eqI, r_neI, r_eqS, r_neS, r_inS, r_niS, List.getElem?_cons_zero, List.getElem?_cons_succ, List.set_cons_zero, List.set_cons_succ, List.map_cons, List.map_nil, List.length_cons, List.length_nil, Nat.reduceAdd, Nat.reduceSub, List.replicate_succ, List.replicate_zero, List.cons_append, List.nil_append, List.append_nil, Bool.not_true, Bool.not_false, if_true, if_false, ite_true, ite_false, Bool.false_eq_true, Bool.true_eq_false, reduceIte]
    refine ⟨by decide, fun z hz => ?_⟩
    try simp only [for_nil, for_v, for_t, lc_nil, lc_v, lc_t, lc_turn0, lc_turn1, wipe_nil, wipe_cons, true_and, and_true, upd_same, upd_upd, Option.some.injEq, HO.lst.injEq, HO.tup.injEq, HO.dK.injEq, exists_eq_left', List.singleton_append, Int.cast_ofNat_Int, and1, e_k, e_v, e_g, e_bop, e_uop, e_not, e_and, e_or, e_ite, e_cmp, e_cmp2, e_lst, e_tup, e_dic, e_call, e_mk, e_bi, e_isi, e_meth, e_bm, e_icall, e_ostr, e_att, e_ix, e_sl, e_lc, t_v, t_isi, t_call, t_meth, t_bop, t_bi, t_att, t_not, t_and, t_or, t_cmp, t_cmp2, trQ_bl, blQ_bl, a_nil', a_cons, s_nil, s_cons, s_set, s_setLc, s_par, s_expr, s_ret, s_retN, s_if, s_for, s_never, s_pass, s_brk, s_cont, g_v', g_tup, g_sub, g_att, gs_nil, gs_cons, gs_tup, i_L, i_T, i_S, i_R1, i_ES, i_E, i_Z, p_nil, p_pair, o_nil, o_k, x_K, x_w, x_fn, x_gv, x_tabs, x_mth, x_prp, x_fld, x_isi, x_kwo, isi_int, isi_str, isi_bl, isi_non, ii1, ii2, ii3, ii4, ii5, ii6, ii7, r_add, r_sub, r_mul, r_div, r_mod, r_pow, r_shl, r_shr, r_and, r_or, r_xor, r_neg, r_inv, r_lt, r_le, r_gt, r_ge, r_eqI, r_neI, r_eqS, r_neS, r_inS, r_niS, List.getElem?_cons_zero, List.getElem?_cons_succ, List.set_cons_zero, List.set_cons_succ, List.map_cons, List.map_nil, List.length_cons, List.length_nil, Nat.reduceAdd, Nat.reduceSub, List.replicate_succ, List.replicate_zero, List.cons_append, List.nil_append, List.append_nil, Bool.not_true, Bool.not_false, if_true, if_false, ite_true, ite_false, Bool.false_eq_true, Bool.true_eq_false, reduceIte]
    have x2 : Ext H1 (upd H1 z (.lst [])) := Ext.new hz
    refine r_neD (d := .list (ns.map PyData.int)) (e := .list []) rfl (.lst (.inl (.inl (x2.get e5))) (dp_ints ns)) (.lst (.inl (.inl upd_same)) .nil) (shp_ints ns) rfl ?_
    rw [eqv_nil]
    obtain ⟨H2, eH2⟩ : ∃ H2, H2 = upd H1 z (.lst []) := ⟨_, rfl⟩
    rw [← eH2] at x2 ⊢
    have e6 := x2.get e4
    have e7 := x2.get e5
    have x3 : ExtP p H H2 := x1.trans x2.toP
    by_cases hns : ns = []
    · rw [hns]
      try simp only [for_nil, for_v, for_t, lc_nil, lc_v, lc_t, lc_turn0, lc_turn1, wipe_nil, wipe_cons, true_and, and_true, upd_same, upd_upd, Option.some.injEq, HO.lst.injEq, HO.tup.injEq, HO.dK.injEq, exists_eq_left', List.singleton_append, Int.cast_ofNat_Int, and1, e_k, e_v, e_g, e_bop, e_uop, e_not, e_and, e_or, e_ite, e_cmp, e_cmp2, e_lst, e_tup, e_dic, e_call, e_mk, e_bi, e_isi, e_meth, e_bm, e_icall, e_ostr, e_att, e_ix, e_sl, e_lc, t_v, t_isi, t_call, t_meth, t_bop, t_bi, t_att, t_not, t_and, t_or, t_cmp, t_cmp2, trQ_bl, blQ_bl, a_nil', a_cons, s_nil, s_cons, s_set, s_setLc, s_par, s_expr, s_ret, s_retN, s_if, s_for, s_never, s_pass, s_brk, s_cont, g_v', g_tup, g_sub, g_att, gs_nil, gs_cons, gs_tup, i_L, i_T, i_S, i_R1, i_ES, i_E, i_Z, p_nil, p_pair, o_nil, o_k, x_K, x_w, x_fn, x_gv, x_tabs, x_mth, x_prp, x_fld, x_isi, x_kwo, isi_int, isi_str, isi_bl, isi_non, ii1, ii2, ii3, ii4, ii5, ii6, ii7, r_add, r_sub, r_mul, r_div, r_mod, r_pow, r_shl, r_shr, r_and, r_or, r_xor, r_neg, r_inv, r_lt, r_le, r_gt, r_ge, r_eqI, r_neI, r_eqS, r_neS, r_inS, r_niS, List.getElem?_cons_zero, List.getElem?_cons_succ, List.set_cons_zero, List.set_cons_succ, List.map_cons, List.map_nil, List.length_cons, List.length_nil, Nat.reduceAdd, Nat.reduceSub, List.replicate_succ, List.replicate_zero, List.cons_append, List.nil_append, List.append_nil, Bool.not_true, Bool.not_false, if_true, if_false, ite_true, ite_false, Bool.false_eq_true, Bool.true_eq_false, reduceIte]
      exact tl _ _ e6 e7 x3
    · rw [show ns.isEmpty = false by simpa using hns]
      try simp only [for_nil, for_v, for_t, lc_nil, lc_v, lc_t, lc_turn0, lc_turn1, wipe_nil, wipe_cons, true_and, and_true, upd_same, upd_upd, Option.some.injEq, HO.lst.injEq, HO.tup.injEq, HO.dK.injEq, exists_eq_left', List.singleton_append, Int.cast_ofNat_Int, and1, e_k, e_v, e_g, e_bop, e_uop, e_not, e_and, e_or, e_ite, e_cmp, e_cmp2, e_lst, e_tup, e_dic, e_call, e_mk, e_bi, e_isi, e_meth, e_bm, e_icall, e_ostr, e_att, e_ix, e_sl, e_lc, t_v, t_isi, t_call, t_meth, t_bop, t_bi, t_att, t_not, t_and, t_or, t_cmp, t_cmp2, trQ_bl, blQ_bl, a_nil', a_cons, s_nil, s_cons, s_set, s_setLc, s_par, s_expr, s_ret, s_retN, s_if, s_for, s_never, s_pass, s_brk, s_cont, g_v', g_tup, g_sub, g_att, gs_nil, gs_cons, gs_tup, i_L, i_T, i_S, i_R1, i_ES, i_E, i_Z, p_nil, p_pair, o_nil, o_k, x_K, x_w, x_fn, x_gv, x_tabs, x_mth, x_prp, x_fld, x_isi, x_kwo, isi_int, isi_str, isi_bl, isi_non, ii1, ii2, ii3, ii4, ii5, ii6, ii7, r_add, r_sub, r_mul, r_div, r_mod, r_pow, r_shl, r_shr, r_and, r_or, r_xor, r_neg, r_inv, r_lt, r_le, r_gt, r_ge, r_eqI, r_neI, r_eqS, r_neS, r_inS, r_niS, List.getElem?_cons_zero, List.getElem?_cons_succ, List.set_cons_zero, List.set_cons_succ, List.map_cons, List.map_nil, List.length_cons, List.length_nil, Nat.reduceAdd, Nat.reduceSub, List.replicate_succ, List.replicate_zero, List.cons_append, List.nil_append, List.append_nil, Bool.not_true, Bool.not_false, if_true, if_false, ite_true, ite_false, Bool.false_eq_true, Bool.true_eq_false, reduceIte]
      refine ixL e6 rfl ?_
      simp only [rB_int, e_k, e_v, e_g, e_bop, e_uop, e_not, e_and, e_or, e_ite, e_cmp, e_cmp2, e_lst, e_tup, e_dic, e_call, e_mk, e_bi, e_isi, e_meth, e_bm, e_icall, e_ostr, e_att, e_ix, e_sl, e_lc, t_v, t_isi, t_call, t_meth, t_bop, t_bi, t_att, t_not, t_and, t_or, t_cmp, t_cmp2, trQ_bl, blQ_bl, a_nil', a_cons, s_nil, s_cons, s_set, s_setLc, s_par, s_expr, s_ret, s_retN, s_if, s_for, s_never, s_pass, s_brk, s_cont, g_v', g_tup, g_sub, g_att, gs_nil, gs_cons, gs_tup, i_L, i_T, i_S, i_R1, i_ES, i_E, i_Z, p_nil, p_pair, o_nil, o_k, x_K, x_w, x_fn, x_gv, x_tabs, x_mth, x_prp, x_fld, x_isi, x_kwo, isi_int, isi_str, isi_bl, isi_non, ii1, ii2, ii3, ii4, ii5, ii6, ii7, r_add, r_sub, r_mul, r_div, r_mod, r_pow, r_shl, r_shr, r_and, r_or, r_xor, r_neg, r_inv, r_lt, r_le, r_gt, r_ge, r_eqI, r_neI, r_eqS, r_neS, r_inS, r_niS, List.getElem?_cons_zero, List.getElem?_cons_succ, List.set_cons_zero, List.set_cons_succ, List.map_cons, List.map_nil, List.length_cons, List.length_nil, Nat.reduceAdd, Nat.reduceSub, List.replicate_succ, List.replicate_zero, List.cons_append, List.nil_append, List.append_nil, Bool.not_true, Bool.not_false, if_true, if_false, ite_true, ite_false, Bool.false_eq_true, Bool.true_eq_false, reduceIte]
      refine ixL e6 rfl (lenL e7 ?_)
      simp only [e_k, e_v, e_g, e_bop, e_uop, e_not, e_and, e_or, e_ite, e_cmp, e_cmp2, e_lst, e_tup, e_dic, e_call, e_mk, e_bi, e_isi, e_meth, e_bm, e_icall, e_ostr, e_att, e_ix, e_sl, e_lc, t_v, t_isi, t_call, t_meth, t_bop, t_bi, t_att, t_not, t_and, t_or, t_cmp, t_cmp2, trQ_bl, blQ_bl, a_nil', a_cons, s_nil, s_cons, s_set, s_setLc, s_par, s_expr, s_ret, s_retN, s_if, s_for, s_never, s_pass, s_brk, s_cont, g_v', g_tup, g_sub, g_att, gs_nil, gs_cons, gs_tup, i_L, i_T, i_S, i_R1, i_ES, i_E, i_Z, p_nil, p_pair, o_nil, o_k, x_K, x_w, x_fn, x_gv, x_tabs, x_mth, x_prp, x_fld, x_isi, x_kwo, isi_int, isi_str, isi_bl, isi_non, ii1, ii2, ii3, ii4, ii5, ii6, ii7, r_add, r_sub, r_mul, r_div, r_mod, r_pow, r_shl, r_shr, r_and, r_or, r_xor, r_neg, r_inv, r_lt, r_le, r_gt, r_ge, r_eqI, r_neI, r_eqS, r_neS, r_inS, r_niS, List.getElem?_cons_zero, List.getElem?_cons_succ, List.set_cons_zero, List.set_cons_succ, List.map_cons, List.map_nil, List.length_cons, List.length_nil, Nat.reduceAdd, Nat.reduceSub, List.replicate_succ, List.replicate_zero, List.cons_append, List.nil_append, List.append_nil, Bool.not_true, Bool.not_false, if_true, if_false, ite_true, ite_false, Bool.false_eq_true, Bool.true_eq_false, reduceIte]
      obtain ⟨x, hx, ex⟩ := atI_mod (ns.map V.int) t (by simpa using hns)
      obtain ⟨c, _, rfl⟩ := List.mem_map.mp hx
      have hlen : 0 < ns.length := List.length_pos_iff.mpr hns
      refine ⟨by rw [List.length_map]; omega, ixL e7 ex ?_⟩
      exact tl _ _ e6 e7 x3
end U

namespace U
open PySem PySem.Spec PyProof.Rows L2
variable {K : PySem.W.Frag} {w : World} {n : Nat} {H : Hp} {Q : VK} {E : XK} {p : Addr}
theorem Pen.some {N : Int} (h : Pen H p N) : ∃ o, H p = some o := by
  obtain ⟨q, t, l, ns, h1, _⟩ := h
  exact ⟨_, h1⟩
theorem Pen.ne {N : Int} {q : Addr} (h : Pen H p N) (hq : H q = none) : q ≠ p := fun e => by
  obtain ⟨o, ho⟩ := h.some
  rw [← e, hq] at ho
  cases ho
theorem atI_lt {α : Type} (xs : List α) (v : Int) (h : 0 ≤ v ∧ v < xs.length) : ∃ x ∈ xs, atI xs v = some x := by
  have h3 : v.toNat < xs.length := by omega
  refine ⟨xs[v.toNat], List.getElem_mem h3, ?_⟩
  unfold atI ixN
  rw [if_pos h.1, if_pos h.2]
  exact List.getElem?_eq_getElem h3
theorem c_pick {N : Int} {s : Addr} {xs : List V} (hP : Pen H p N) (hN : N < 65536) (hs : H s = some (.lst xs)) (hp : s ≠ p) (hx : 0 < xs.length ∧ xs.length < 1000) (hn : 2 ≤ n)
    (h : ∀ v H', v ∈ xs → Pen H' p (N + 1) → ExtP p H H' → Q v H') : run hd.pg K w n s__law_pick [.ref p, .ref s] H Q E := by
  refine run_at f__law_pick (by omega) rfl ?_
  simp only [d__law_pick, b__law_pick, L2.start, e_k, e_v, e_g, e_bop, e_uop, e_not, e_and, e_or, e_ite, e_cmp, e_cmp2, e_lst, e_tup, e_dic, e_call, e_mk, e_bi, e_isi, e_meth, e_bm, e_icall, e_ostr, e_att, e_ix, e_sl, e_lc, t_v, t_isi, t_call, t_meth, t_bop, t_bi, t_att, t_not, t_and, t_or, t_cmp, t_cmp2, trQ_bl, blQ_bl, a_nil', a_cons, s_nil, s_cons, s_set, s_setLc, s_par, s_expr, s_ret, s_retN, s_if, s_for, s_never, s_pass, s_brk, s_cont, g_v', g_tup, g_sub, g_att, gs_nil, gs_cons, gs_tup, i_L, i_T, i_S, i_R1, i_ES, i_E, i_Z, p_nil, p_pair, o_nil, o_k, x_K, x_w, x_fn, x_gv, x_tabs, x_mth, x_prp, x_fld, x_isi, x_kwo, isi_int, isi_str, isi_bl, isi_non, ii1, ii2, ii3, ii4, ii5, ii6, ii7, r_add, r_sub, r_mul, r_div, r_mod, r_pow, r_shl, r_shr, r_and, r_or, r_xor, r_neg, r_inv, r_lt, r_le, r_gt, r_ge, r_eqI, r_neI, r_eqS, r_neS, r_inS, r_niS, List.getElem?_cons_zero, List.getElem?_cons_succ, List.set_cons_zero, List.set_cons_succ, List.map_cons, List.map_nil, List.length_cons, List.length_nil, Nat.reduceAdd, Nat.reduceSub, List.replicate_succ, List.replicate_zero, List.cons_append, List.nil_append, List.append_nil, Bool.not_true, Bool.not_false, if_true, if_false, ite_true, ite_false, Bool.false_eq_true, Bool.true_eq_false, reduceIte]
  refine lenL hs ?_
  refine c_draw hP hN (by omega) (by omega) fun v H' hv hP' x => ?_
  obtain ⟨y, hy, ey⟩ := atI_lt xs v hv
  exact ixL (x s _ hp hs) ey (h y H' hy hP' x)
/-- a pick of a list that is written down -/
theorem c_pickL {N : Int} {xs : List V} (hP : Pen H p N) (hN : N < 65536) (hx : 0 < xs.length ∧ xs.length < 1000) (hn : 2 ≤ n)
    (h : ∀ v H', v ∈ xs → Pen H' p (N + 1) → ExtP p H H' → Q v H') : ∀ s, H s = none → run hd.pg K w n s__law_pick [.ref p, .ref s] (upd H s (.lst xs)) Q E := by
  intro s hs
  have x0 : Ext H (upd H s (.lst xs)) := Ext.new hs
  exact c_pick (hP.ext x0) hN upd_same (hP.ne hs) hx hn fun v H' hv hp x => h v H' hv hp (x0.toP.trans x)
def strV (l : List (List Nat)) : List V := l.map fun a => .str (S a)
theorem c_clause {N : Int} (hP : Pen H p N) (hN : N < 60000) (hn : 3 ≤ n)
    (h : ∀ t H' a b c, a ∈ whoL → b ∈ signL → c ∈ whatL → H' t = some (.tup [.str (S a), .str (S b), .str (S c)]) → t ≠ p → Pen H' p (N + 3) → ExtP p H H' → Q (.ref t) H') : run hd.pg K w n s__law_clause [.ref p] H Q E := by
  refine run_at f__law_clause (by omega) rfl ?_
  simp only [d__law_clause, b__law_clause, L2.start, e_k, e_v, e_g, e_bop, e_uop, e_not, e_and, e_or, e_ite, e_cmp, e_cmp2, e_lst, e_tup, e_dic, e_call, e_mk, e_bi, e_isi, e_meth, e_bm, e_icall, e_ostr, e_att, e_ix, e_sl, e_lc, t_v, t_isi, t_call, t_meth, t_bop, t_bi, t_att, t_not, t_and, t_or, t_cmp, t_cmp2, trQ_bl, blQ_bl, a_nil', a_cons, s_nil, s_cons, s_set, s_setLc, s_par, s_expr, s_ret, s_retN, s_if, s_for, s_never, s_pass, s_brk, s_cont, g_v', g_tup, g_sub, g_att, gs_nil, gs_cons, gs_tup, i_L, i_T, i_S, i_R1, i_ES, i_E, i_Z, p_nil, p_pair, o_nil, o_k, x_K, x_w, x_fn, x_gv, x_tabs, x_mth, x_prp, x_fld, x_isi, x_kwo, isi_int, isi_str, isi_bl, isi_non, ii1, ii2, ii3, ii4, ii5, ii6, ii7, r_add, r_sub, r_mul, r_div, r_mod, r_pow, r_shl, r_shr, r_and, r_or, r_xor, r_neg, r_inv, r_lt, r_le, r_gt, r_ge, r_eqI, r_neI, r_eqS, r_neS, r_inS, r_niS, List.getElem?_cons_zero, List.getElem?_cons_succ, List.set_cons_zero, List.set_cons_succ, List.map_cons, List.map_nil, List.length_cons, List.length_nil, Nat.reduceAdd, Nat.reduceSub, List.replicate_succ, List.replicate_zero, List.cons_append, List.nil_append, List.append_nil, Bool.not_true, Bool.not_false, if_true, if_false, ite_true, ite_false, Bool.false_eq_true, Bool.true_eq_false, reduceIte]
  refine ⟨by decide, c_pickL hP (by omega) (by decide) (by omega) fun v1 H1 hv1 p1 x1 => ?_⟩
  try simp only [for_nil, for_v, for_t, lc_nil, lc_v, lc_t, lc_turn0, lc_turn1, wipe_nil, wipe_cons, true_and, and_true, upd_same, upd_upd, Option.some.injEq, HO.lst.injEq, HO.tup.injEq, HO.dK.injEq, exists_eq_left', List.singleton_append, Int.cast_ofNat_Int, and1, e_k, e_v, e_g, e_bop, e_uop, e_not, e_and, e_or, e_ite, e_cmp, e_cmp2, e_lst, e_tup, e_dic, e_call, e_mk, e_bi, e_isi, e_meth, e_bm, e_icall, e_ostr, e_att, e_ix, e_sl, e_lc, t_v, t_isi, t_call, t_meth, t_bop, t_bi, t_att, t_not, t_and, t_or, t_cmp, t_cmp2, trQ_bl, blQ_bl, a_nil', a_cons, s_nil, s_cons, s_set, s_setLc, s_par, s_expr, s_ret, s_retN, s_if, s_for, s_never, s_pass, s_brk, s_cont, g_v', g_tup, g_sub, g_att, gs_nil, gs_cons, gs_tup, i_L, i_T, i_S, i_R1, i_ES, i_E, i_Z, p_nil, p_pair, o_nil, o_k, x_K, x_w, x_fn, x_gv, x_tabs, x_mth, x_prp, x_fld, x_isi, x_kwo, isi_int, isi_str, isi_bl, isi_non, ii1, ii2, ii3, ii4, ii5, ii6, ii7, r_add, r_sub, r_mul, r_div, r_mod, r_pow, r_shl, r_shr, r_and, r_or, r_xor, r_neg, r_inv, r_lt, r_le, r_gt, r_ge, r_eqI, r_neI, r_eqS, r_neS, r_inS, r_niS, List.getElem?_cons_zero, List.getElem?_cons_succ, List.set_cons_zero, List.set_cons_succ, List.map_cons, List.map_nil, List.length_cons, List.length_nil, Nat.reduceAdd, Nat.reduceSub, List.replicate_succ, List.replicate_zero, List.cons_append, List.nil_append, List.append_nil, Bool.not_true, Bool.not_false, if_true, if_false, ite_true, ite_false, Bool.false_eq_true, Bool.true_eq_false, reduceIte]
  refine ⟨by decide, c_pickL p1 (by omega) (by decide) (by omega) fun v2 H2 hv2 p2 x2 => ?_⟩
  try simp only [for_nil, for_v, for_t, lc_nil, lc_v, lc_t, lc_turn0, lc_turn1, wipe_nil, wipe_cons, true_and, and_true, upd_same, upd_upd, Option.some.injEq, HO.lst.injEq, HO.tup.injEq, HO.dK.injEq, exists_eq_left', List.singleton_append, Int.cast_ofNat_Int, and1, e_k, e_v, e_g, e_bop, e_uop, e_not, e_and, e_or, e_ite, e_cmp, e_cmp2, e_lst, e_tup, e_dic, e_call, e_mk, e_bi, e_isi, e_meth, e_bm, e_icall, e_ostr, e_att, e_ix, e_sl, e_lc, t_v, t_isi, t_call, t_meth, t_bop, t_bi, t_att, t_not, t_and, t_or, t_cmp, t_cmp2, trQ_bl, blQ_bl, a_nil', a_cons, s_nil, s_cons, s_set, s_setLc, s_par, s_expr, s_ret, s_retN, s_if, s_for, s_never, s_pass, s_brk, s_cont, g_v', g_tup, g_sub, g_att, gs_nil, gs_cons, gs_tup, i_L, i_T, i_S, i_R1, i_ES, i_E, i_Z, p_nil, p_pair, o_nil, o_k, x_K, x_w, x_fn, x_gv, x_tabs, x_mth, x_prp, x_fld, x_isi, x_kwo, isi_int, isi_str, isi_bl, isi_non, ii1, ii2, ii3, ii4, ii5, ii6, ii7, r_add, r_sub, r_mul, r_div, r_mod, r_pow, r_shl, r_shr, r_and, r_or, r_xor, r_neg, r_inv, r_lt, r_le, r_gt, r_ge, r_eqI, r_neI, r_eqS, r_neS, r_inS, r_niS, List.getElem?_cons_zero, List.getElem?_cons_succ, List.set_cons_zero, List.set_cons_succ, List.map_cons, List.map_nil, List.length_cons, List.length_nil, Nat.reduceAdd, Nat.reduceSub, List.replicate_succ, List.replicate_zero, List.cons_append, List.nil_append, List.append_nil, Bool.not_true, Bool.not_false, if_true, if_false, ite_true, ite_false, Bool.false_eq_true, Bool.true_eq_false, reduceIte]
  refine ⟨by decide, c_pickL p2 (by omega) (by decide) (by omega) fun v3 H3 hv3 p3 x3 => ?_⟩
  try simp only [for_nil, for_v, for_t, lc_nil, lc_v, lc_t, lc_turn0, lc_turn1, wipe_nil, wipe_cons, true_and, and_true, upd_same, upd_upd, Option.some.injEq, HO.lst.injEq, HO.tup.injEq, HO.dK.injEq, exists_eq_left', List.singleton_append, Int.cast_ofNat_Int, and1, e_k, e_v, e_g, e_bop, e_uop, e_not, e_and, e_or, e_ite, e_cmp, e_cmp2, e_lst, e_tup, e_dic, e_call, e_mk, e_bi, e_isi, e_meth, e_bm, e_icall, e_ostr, e_att, e_ix, e_sl, e_lc, t_v, t_isi, t_call, t_meth, t_bop, t_bi, t_att, t_not, t_and, t_or, t_cmp, t_cmp2, trQ_bl, blQ_bl, a_nil', a_cons, s_nil, s_cons, s_set, s_setLc, s_par, s_expr, s_ret, s_retN, s_if, s_for, s_never, s_pass, s_brk, s_cont, g_v', g_tup, g_sub, g_att, gs_nil, gs_cons, gs_tup, i_L, i_T, i_S, i_R1, i_ES, i_E, i_Z, p_nil, p_pair, o_nil, o_k, x_K, x_w, x_fn, x_gv, x_tabs, x_mth, x_prp, x_fld, x_isi, x_kwo, isi_int, isi_str, isi_bl, isi_non, ii1, ii2, ii3, ii4, ii5, ii6, ii7, r_add, r_sub, r_mul, r_div, r_mod, r_pow, r_shl, r_shr, r_and, r_or, r_xor, r_neg, r_inv, r_lt, r_le, r_gt, r_ge, r_eqI, r_neI, r_eqS, r_neS, r_inS, r_niS, List.getElem?_cons_zero, List.getElem?_cons_succ, List.set_cons_zero, List.set_cons_succ, List.map_cons, List.map_nil, List.length_cons, List.length_nil, Nat.reduceAdd, Nat.reduceSub, List.replicate_succ, List.replicate_zero, List.cons_append, List.nil_append, List.append_nil, Bool.not_true, Bool.not_false, if_true, if_false, ite_true, ite_false, Bool.false_eq_true, Bool.true_eq_false, reduceIte]
  refine ⟨by decide, fun t ht => ?_⟩
  obtain ⟨a, ha, rfl⟩ : ∃ a ∈ whoL, v1 = .str (S a) := by
    obtain ⟨a, ha, e⟩ := List.mem_map.mp (show v1 ∈ strV whoL from hv1)
    exact ⟨a, ha, e.symm⟩
  obtain ⟨c, hc, rfl⟩ : ∃ a ∈ whatL, v2 = .str (S a) := by
    obtain ⟨a, ha, e⟩ := List.mem_map.mp (show v2 ∈ strV whatL from hv2)
    exact ⟨a, ha, e.symm⟩
  obtain ⟨b, hb, rfl⟩ : ∃ a ∈ signL, v3 = .str (S a) := by
    obtain ⟨a, ha, e⟩ := List.mem_map.mp (show v3 ∈ strV signL from hv3)
    exact ⟨a, ha, e.symm⟩
  have x4 := Ext.new (o := .tup [.str (S a), .str (S b), .str (S c)]) ht
  exact h t _ a b c ha hb hc upd_same (p3.ne ht) ((p3.ext x4).ge (by omega)) (x1.trans (x2.trans (x3.trans x4.toP)))
theorem c_mode {N : Int} (hP : Pen H p N) (hN : N < 60000) (hn : 3 ≤ n)
    (h : ∀ v H', 0 ≤ v ∧ v ≤ 511 → Pen H' p (N + 4) → ExtP p H H' → Q (.int v) H') : run hd.pg K w n s__law_mode [.ref p] H Q E := by
  refine run_at f__law_mode (by omega) rfl ?_
  simp only [d__law_mode, b__law_mode, L2.start, e_k, e_v, e_g, e_bop, e_uop, e_not, e_and, e_or, e_ite, e_cmp, e_cmp2, e_lst, e_tup, e_dic, e_call, e_mk, e_bi, e_isi, e_meth, e_bm, e_icall, e_ostr, e_att, e_ix, e_sl, e_lc, t_v, t_isi, t_call, t_meth, t_bop, t_bi, t_att, t_not, t_and, t_or, t_cmp, t_cmp2, trQ_bl, blQ_bl, a_nil', a_cons, s_nil, s_cons, s_set, s_setLc, s_par, s_expr, s_ret, s_retN, s_if, s_for, s_never, s_pass, s_brk, s_cont, g_v', g_tup, g_sub, g_att, gs_nil, gs_cons, gs_tup, i_L, i_T, i_S, i_R1, i_ES, i_E, i_Z, p_nil, p_pair, o_nil, o_k, x_K, x_w, x_fn, x_gv, x_tabs, x_mth, x_prp, x_fld, x_isi, x_kwo, isi_int, isi_str, isi_bl, isi_non, ii1, ii2, ii3, ii4, ii5, ii6, ii7, r_add, r_sub, r_mul, r_div, r_mod, r_pow, r_shl, r_shr, r_and, r_or, r_xor, r_neg, r_inv, r_lt, r_le, r_gt, r_ge, r_eqI, r_neI, r_eqS, r_neS, r_inS, r_niS, List.getElem?_cons_zero, List.getElem?_cons_succ, List.set_cons_zero, List.set_cons_succ, List.map_cons, List.map_nil, List.length_cons, List.length_nil, Nat.reduceAdd, Nat.reduceSub, List.replicate_succ, List.replicate_zero, List.cons_append, List.nil_append, List.append_nil, Bool.not_true, Bool.not_false, if_true, if_false, ite_true, ite_false, Bool.false_eq_true, Bool.true_eq_false, reduceIte]
  refine ⟨by decide, fun s hs => ?_⟩
  have x0 := Ext.new (o := .lst [.int 0, .int 511, .int 420, .int 493, .int 448, .int 7, .int 56, .int 64, .int 8, .int 1, .int 256, .int 438]) hs
  refine c_pick (hP.ext x0) (by omega) upd_same (hP.ne hs) (by decide) (by omega) fun v1 H1 hv1 p1 x1 => ?_
  try simp only [for_nil, for_v, for_t, lc_nil, lc_v, lc_t, lc_turn0, lc_turn1, wipe_nil, wipe_cons, true_and, and_true, upd_same, upd_upd, Option.some.injEq, HO.lst.injEq, HO.tup.injEq, HO.dK.injEq, exists_eq_left', List.singleton_append, Int.cast_ofNat_Int, and1, e_k, e_v, e_g, e_bop, e_uop, e_not, e_and, e_or, e_ite, e_cmp, e_cmp2, e_lst, e_tup, e_dic, e_call, e_mk, e_bi, e_isi, e_meth, e_bm, e_icall, e_ostr, e_att, e_ix, e_sl, e_lc, t_v, t_isi, t_call, t_meth, t_bop, t_bi, t_att, t_not, t_and, t_or, t_cmp, t_cmp2, trQ_bl, blQ_bl, a_nil', a_cons, s_nil, s_cons, s_set, s_setLc, s_par, s_expr, s_ret, s_retN, s_if, s_for, s_never, s_pass, s_brk, s_cont, g_v', g_tup, g_sub, g_att, gs_nil, gs_cons, gs_tup, i_L, i_T, i_S, i_R1, i_ES, i_E, i_Z, p_nil, p_pair, o_nil, o_k, x_K, x_w, x_fn, x_gv, x_tabs, x_mth, x_prp, x_fld, x_isi, x_kwo, isi_int, isi_str, isi_bl, isi_non, ii1, ii2, ii3, ii4, ii5, ii6, ii7, r_add, r_sub, r_mul, r_div, r_mod, r_pow, r_shl, r_shr, r_and, r_or, r_xor, r_neg, r_inv, r_lt, r_le, r_gt, r_ge, r_eqI, r_neI, r_eqS, r_neS, r_inS, r_niS, List.getElem?_cons_zero, List.getElem?_cons_succ, List.set_cons_zero, List.set_cons_succ, List.map_cons, List.map_nil, List.length_cons, List.length_nil, Nat.reduceAdd, Nat.reduceSub, List.replicate_succ, List.replicate_zero, List.cons_append, List.nil_append, List.append_nil, Bool.not_true, Bool.not_false, if_true, if_false, ite_true, ite_false, Bool.false_eq_true, Bool.true_eq_false, reduceIte]
  refine c_draw p1 (by omega) (by decide) (by omega) fun v2 H2 hv2 p2 x2 => ?_
  try simp only [for_nil, for_v, for_t, lc_nil, lc_v, lc_t, lc_turn0, lc_turn1, wipe_nil, wipe_cons, true_and, and_true, upd_same, upd_upd, Option.some.injEq, HO.lst.injEq, HO.tup.injEq, HO.dK.injEq, exists_eq_left', List.singleton_append, Int.cast_ofNat_Int, and1, e_k, e_v, e_g, e_bop, e_uop, e_not, e_and, e_or, e_ite, e_cmp, e_cmp2, e_lst, e_tup, e_dic, e_call, e_mk, e_bi, e_isi, e_meth, e_bm, e_icall, e_ostr, e_att, e_ix, e_sl, e_lc, t_v, t_isi, t_call, t_meth, t_bop, t_bi, t_att, t_not, t_and, t_or, t_cmp, t_cmp2, trQ_bl, blQ_bl, a_nil', a_cons, s_nil, s_cons, s_set, s_setLc, s_par, s_expr, s_ret, s_retN, s_if, s_for, s_never, s_pass, s_brk, s_cont, g_v', g_tup, g_sub, g_att, gs_nil, gs_cons, gs_tup, i_L, i_T, i_S, i_R1, i_ES, i_E, i_Z, p_nil, p_pair, o_nil, o_k, x_K, x_w, x_fn, x_gv, x_tabs, x_mth, x_prp, x_fld, x_isi, x_kwo, isi_int, isi_str, isi_bl, isi_non, ii1, ii2, ii3, ii4, ii5, ii6, ii7, r_add, r_sub, r_mul, r_div, r_mod, r_pow, r_shl, r_shr, r_and, r_or, r_xor, r_neg, r_inv, r_lt, r_le, r_gt, r_ge, r_eqI, r_neI, r_eqS, r_neS, r_inS, r_niS, List.getElem?_cons_zero, List.getElem?_cons_succ, List.set_cons_zero, List.set_cons_succ, List.map_cons, List.map_nil, List.length_cons, List.length_nil, Nat.reduceAdd, Nat.reduceSub, List.replicate_succ, List.replicate_zero, List.cons_append, List.nil_append, List.append_nil, Bool.not_true, Bool.not_false, if_true, if_false, ite_true, ite_false, Bool.false_eq_true, Bool.true_eq_false, reduceIte]
  refine c_draw p2 (by omega) (by decide) (by omega) fun v3 H3 hv3 p3 x3 => ?_
  try simp only [for_nil, for_v, for_t, lc_nil, lc_v, lc_t, lc_turn0, lc_turn1, wipe_nil, wipe_cons, true_and, and_true, upd_same, upd_upd, Option.some.injEq, HO.lst.injEq, HO.tup.injEq, HO.dK.injEq, exists_eq_left', List.singleton_append, Int.cast_ofNat_Int, and1, e_k, e_v, e_g, e_bop, e_uop, e_not, e_and, e_or, e_ite, e_cmp, e_cmp2, e_lst, e_tup, e_dic, e_call, e_mk, e_bi, e_isi, e_meth, e_bm, e_icall, e_ostr, e_att, e_ix, e_sl, e_lc, t_v, t_isi, t_call, t_meth, t_bop, t_bi, t_att, t_not, t_and, t_or, t_cmp, t_cmp2, trQ_bl, blQ_bl, a_nil', a_cons, s_nil, s_cons, s_set, s_setLc, s_par, s_expr, s_ret, s_retN, s_if, s_for, s_never, s_pass, s_brk, s_cont, g_v', g_tup, g_sub, g_att, gs_nil, gs_cons, gs_tup, i_L, i_T, i_S, i_R1, i_ES, i_E, i_Z, p_nil, p_pair, o_nil, o_k, x_K, x_w, x_fn, x_gv, x_tabs, x_mth, x_prp, x_fld, x_isi, x_kwo, isi_int, isi_str, isi_bl, isi_non, ii1, ii2, ii3, ii4, ii5, ii6, ii7, r_add, r_sub, r_mul, r_div, r_mod, r_pow, r_shl, r_shr, r_and, r_or, r_xor, r_neg, r_inv, r_lt, r_le, r_gt, r_ge, r_eqI, r_neI, r_eqS, r_neS, r_inS, r_niS, List.getElem?_cons_zero, List.getElem?_cons_succ, List.set_cons_zero, List.set_cons_succ, List.map_cons, List.map_nil, List.length_cons, List.length_nil, Nat.reduceAdd, Nat.reduceSub, List.replicate_succ, List.replicate_zero, List.cons_append, List.nil_append, List.append_nil, Bool.not_true, Bool.not_false, if_true, if_false, ite_true, ite_false, Bool.false_eq_true, Bool.true_eq_false, reduceIte]
  refine ⟨by decide, c_pickL p3 (by omega) (by decide : 0 < 3 ∧ 3 < 1000) (by omega) fun v4 H4 hv4 p4 x4 => ?_⟩
  obtain ⟨v, rfl, hv⟩ : ∃ v : Int, v4 = .int v ∧ 0 ≤ v ∧ v ≤ 511 := by
    simp only [List.mem_cons, List.not_mem_nil, or_false] at hv4
    rcases hv4 with rfl | rfl | rfl
    · simp only [List.mem_cons, List.not_mem_nil, or_false] at hv1
      rcases hv1 with rfl | rfl | rfl | rfl | rfl | rfl | rfl | rfl | rfl | rfl | rfl | rfl
      all_goals exact ⟨_, rfl, by omega, by omega⟩
    · exact ⟨_, rfl, by omega, by omega⟩
    · exact ⟨_, rfl, by omega, by omega⟩
  exact h v H4 hv (p4.ge (by omega)) (x0.toP.trans (x1.trans (x2.trans (x3.trans x4))))
end U

namespace U
open PySem PySem.Spec PyProof.Rows L2
variable {K : PySem.W.Frag} {w : World} {n : Nat} {H : Hp} {Q : VK} {E : XK} {p : Addr}
abbrev D3 (u g o : Int) : HO := .dK [(.inr (S [117]), .int u), (.inr (S [103]), .int g), (.inr (S [111]), .int o)]
def digU (m : Int) : Int := m / 2 ^ Int.toNat 6
def digG (m : Int) : Int := Builtin.bitAnd (m / 2 ^ Int.toNat 3) 7
def digO (m : Int) : Int := Builtin.bitAnd m 7
def digC (c : Nat) (m : Int) : Int := if c = 117 then digU m else if c = 103 then digG m else digO m
def gainI (b : List Nat) (d x : Int) : Int := if b = [43] then Builtin.bitOr d x else if b = [45] then Builtin.bitAnd d (7 - x) else x
def put3 (c : Nat) (v : Int) (s : Int × Int × Int) : Int × Int × Int := if c = 117 then (v, s.2.1, s.2.2) else if c = 103 then (s.1, v, s.2.2) else (s.1, s.2.1, v)
def fin3 (b : List Nat) (m x : Int) (l : List Nat) (s : Int × Int × Int) : Int × Int × Int := l.foldl (fun s c => put3 c (gainI b (digC c m) x) s) s
def bI (b : Bool) : Int := if b then 1 else 0
def meantI (c : List Nat) (f : Bool) (m : Int) : Int := if c = [117] then digU m else if c = [103] then digG m else if c = [111] then digO m else
  if (inS (S [88]) (S c) && (f || decide (0 < Builtin.bitAnd m 73))) = true then Builtin.bitOr (4 * bI (inS (S [114]) (S c)) + 2 * bI (inS (S [119]) (S c)) + bI (inS (S [120]) (S c))) 1 else 4 * bI (inS (S [114]) (S c)) + 2 * bI (inS (S [119]) (S c)) + bI (inS (S [120]) (S c))
def sum3 (s : Int × Int × Int) : Int := 64 * s.1 + 8 * s.2.1 + s.2.2
def doneI (a b c : List Nat) (f : Bool) (m : Int) : Int := sum3 (fin3 b m (meantI c f m) a (digU m, digG m, digO m))
theorem ixD {kvs : List (Key × V)} {z : Str} {v : V} {T : List KTab} {Q : VK} (h : H p = some (.dK kvs)) (hv : valV kvs (.inr z) = some v) (q : Q v H) : rIxU K w T (.ref p) (.str z) H Q := x_ixD h hv q
/-- {a: x, b: y, c: z} of texts and ints -/
theorem disp3 {σ : St} {k1 k2 k3 : Str} {C : Ctx} {W : WX} {x y z : Int} {e1 e2 e3 : I} (h12 : k1 ≠ k2) (h13 : k1 ≠ k3) (h23 : k2 ≠ k3)
    (g1 : ∀ H' Q, Ext H H' → Q (.int x) H' → (rd C e1 W).e σ H' Q) (g2 : ∀ H' Q, Ext H H' → Q (.int y) H' → (rd C e2 W).e σ H' Q) (g3 : ∀ H' Q, Ext H H' → Q (.int z) H' → (rd C e3 W).e σ H' Q)
    (h : ∀ q H', H q = none → Ext H H' → H' = upd H q (.dK [(.inr k1, .int x), (.inr k2, .int y), (.inr k3, .int z)]) → Q (.ref q) H') :
    (rd C (.dic (.pair (.k (.str k1)) e1 (.pair (.k (.str k2)) e2 (.pair (.k (.str k3)) e3 .nil)))) W).e σ H Q := by
  intro q hq
  have x1 : Ext H (upd H q (.dK [])) := Ext.new hq
  refine g1 _ _ x1 (g2 _ _ x1 (g3 _ _ x1 ⟨upd_same, [(.inr k1, .int x), (.inr k2, .int y), (.inr k3, .int z)], rfl, (by decide : 3 ≤ 15), ?_⟩))
  rw [upd_upd]
  have e : mergeK [] [(.inr k1, .int x), (.inr k2, .int y), (.inr k3, .int z)] = ([(.inr k1, .int x), (.inr k2, .int y), (.inr k3, .int z)] : List (Key × V)) := by
    simp [mergeK, putK, h12, h13, h23]
  rw [e]
  exact h q _ hq (Ext.new hq) rfl
theorem putK3 {u g o v : Int} {c : Nat} (hc : c = 117 ∨ c = 103 ∨ c = 111) : HO.dK (putK [(.inr (S [117]), .int u), (.inr (S [103]), .int g), (.inr (S [111]), .int o)] (.inr (S [c])) (.int v)) = D3 (put3 c v (u, g, o)).1 (put3 c v (u, g, o)).2.1 (put3 c v (u, g, o)).2.2 := by
  rcases hc with rfl | rfl | rfl <;> rfl
theorem val3 {u g o : Int} {m : Int} {c : Nat} (hc : c = 117 ∨ c = 103 ∨ c = 111) : valV ([(.inr (S [117]), .int (digU m)), (.inr (S [103]), .int (digG m)), (.inr (S [111]), .int (digO m))] : List (Key × V)) (.inr (S [c])) = some (.int (digC c m)) := by
  rcases hc with rfl | rfl | rfl <;> rfl
theorem valG {b : List Nat} {d x : Int} (hb : b ∈ signL) : valV ([(.inr (S [43]), .int (Builtin.bitOr d x)), (.inr (S [45]), .int (Builtin.bitAnd d (7 - x))), (.inr (S [61]), .int x)] : List (Key × V)) (.inr (S b)) = some (.int (gainI b d x)) := by
  simp only [signL, List.mem_cons, List.not_mem_nil, or_false] at hb
  rcases hb with rfl | rfl | rfl <;> rfl
theorem done_loop {m x : Int} {f : Bool} {b c a : List Nat} {t d L : Addr} {fn : Str → Sp} {W : WX} {D : Ends} (hb : b ∈ signL) (hL : d ≠ L) : ∀ (r : List Nat) (s : Int × Int × Int) (H : Hp) (v9 v10 : Option V), (∀ k ∈ r, k = 117 ∨ k = 103 ∨ k = 111) →
    H L = some (D3 s.1 s.2.1 s.2.2) → H d = some (D3 (digU m) (digG m) (digO m)) →
    (∀ H' v9 v10, ExtP L H H' → H' L = some (D3 (fin3 b m x r s).1 (fin3 b m x r s).2.1 (fin3 b m x r s).2.2) → D.nx [some (.ref t), some (.int m), some (.str (S (formL f))), some (.str (S a)), some (.str (S b)), some (.str (S c)), some (.ref d), some (.int x), some (.ref L), v9, v10] H') →
    forGo (fun _ => True) (rd (hd.pg.ctx K w fn) (.v 9) W).g (rd (hd.pg.ctx K w fn) (.v 9) W).gs (rd (hd.pg.ctx K w fn) (.cons (.set (.v 10) (.dic (.pair (.k (V.str (S [43]))) (.bop .BitOr (.ix (.v 6) (.v 9)) (.v 7)) (.pair (.k (V.str (S [45]))) (.bop .BitAnd (.ix (.v 6) (.v 9)) (.bop .Sub (.k (V.int 7)) (.v 7))) (.pair (.k (V.str (S [61]))) (.v 7) .nil))))) (.cons (.set (.subG (.v 8) (.v 9)) (.ix (.v 10) (.v 4))) .nil)) W).s
      D (r.map fun k => .v (.str (S [k]))) [some (.ref t), some (.int m), some (.str (S (formL f))), some (.str (S a)), some (.str (S b)), some (.str (S c)), some (.ref d), some (.int x), some (.ref L), v9, v10] H
  | [], s, H, v9, v10, _, e1, e2, h => ⟨trivial, h H v9 v10 (fun _ _ _ e => e) e1⟩
  | k :: r, s, H, v9, v10, hr, e1, e2, h => by
    have hk := hr k (List.mem_cons_self ..)
    rw [List.map_cons, for_v]
    refine ⟨trivial, ?_⟩
    rw [g_v', s_cons, s_set]
    refine disp3 (x := Builtin.bitOr (digC k m) x) (y := Builtin.bitAnd (digC k m) (7 - x)) (z := x) (by decide) (by decide) (by decide) ?_ ?_ ?_ fun q H' hq x1 eH => ?_
    · intro H' Q x1 q
      try simp only [for_nil, for_v, for_t, lc_nil, lc_v, lc_t, lc_turn0, lc_turn1, wipe_nil, wipe_cons, true_and, and_true, upd_same, upd_upd, Option.some.injEq, HO.lst.injEq, HO.tup.injEq, HO.dK.injEq, exists_eq_left', List.singleton_append, Int.cast_ofNat_Int, and1, e_k, e_v, e_g, e_bop, e_uop, e_not, e_and, e_or, e_ite, e_cmp, e_cmp2, e_lst, e_tup, e_dic, e_call, e_mk, e_bi, e_isi, e_meth, e_bm, e_icall, e_ostr, e_att, e_ix, e_sl, e_lc, t_v, t_isi, t_call, t_meth, t_bop, t_bi, t_att, t_not, t_and, t_or, t_cmp, t_cmp2, trQ_bl, blQ_bl, a_nil', a_cons, s_nil, s_cons, s_set, s_setLc, s_par, s_expr, s_ret, s_retN, s_if, s_for, s_never, s_pass, s_brk, s_cont, g_v', g_tup, g_sub, g_att, gs_nil, gs_cons, gs_tup, i_L, i_T, i_S, i_R1, i_ES, i_E, i_Z, p_nil, p_pair, o_nil, o_k, x_K, x_w, x_fn, x_gv, x_tabs, x_mth, x_prp, x_fld, x_isi, x_kwo, isi_int, isi_str, isi_bl, isi_non, ii1, ii2, ii3, ii4, ii5, ii6, ii7, r_add, r_sub, r_mul, r_div, r_mod, r_pow, r_shl, r_shr, r_and, r_or, r_xor, r_neg, r_inv, r_lt, r_le, r_gt, r_ge, r_eqI, r_neI, r_eqS, r_neS, r_inS, r_niS, List.getElem?_cons_zero, List.getElem?_cons_succ, List.set_cons_zero, List.set_cons_succ, List.map_cons, List.map_nil, List.length_cons, List.length_nil, Nat.reduceAdd, Nat.reduceSub, List.replicate_succ, List.replicate_zero, List.cons_append, List.nil_append, List.append_nil, Bool.not_true, Bool.not_false, if_true, if_false, ite_true, ite_false, Bool.false_eq_true, Bool.true_eq_false, reduceIte]
      exact ixD (x1.get e2) (val3 (u := 0) (g := 0) (o := 0) hk) q
    · intro H' Q x1 q
      try simp only [for_nil, for_v, for_t, lc_nil, lc_v, lc_t, lc_turn0, lc_turn1, wipe_nil, wipe_cons, true_and, and_true, upd_same, upd_upd, Option.some.injEq, HO.lst.injEq, HO.tup.injEq, HO.dK.injEq, exists_eq_left', List.singleton_append, Int.cast_ofNat_Int, and1, e_k, e_v, e_g, e_bop, e_uop, e_not, e_and, e_or, e_ite, e_cmp, e_cmp2, e_lst, e_tup, e_dic, e_call, e_mk, e_bi, e_isi, e_meth, e_bm, e_icall, e_ostr, e_att, e_ix, e_sl, e_lc, t_v, t_isi, t_call, t_meth, t_bop, t_bi, t_att, t_not, t_and, t_or, t_cmp, t_cmp2, trQ_bl, blQ_bl, a_nil', a_cons, s_nil, s_cons, s_set, s_setLc, s_par, s_expr, s_ret, s_retN, s_if, s_for, s_never, s_pass, s_brk, s_cont, g_v', g_tup, g_sub, g_att, gs_nil, gs_cons, gs_tup, i_L, i_T, i_S, i_R1, i_ES, i_E, i_Z, p_nil, p_pair, o_nil, o_k, x_K, x_w, x_fn, x_gv, x_tabs, x_mth, x_prp, x_fld, x_isi, x_kwo, isi_int, isi_str, isi_bl, isi_non, ii1, ii2, ii3, ii4, ii5, ii6, ii7, r_add, r_sub, r_mul, r_div, r_mod, r_pow, r_shl, r_shr, r_and, r_or, r_xor, r_neg, r_inv, r_lt, r_le, r_gt, r_ge, r_eqI, r_neI, r_eqS, r_neS, r_inS, r_niS, List.getElem?_cons_zero, List.getElem?_cons_succ, List.set_cons_zero, List.set_cons_succ, List.map_cons, List.map_nil, List.length_cons, List.length_nil, Nat.reduceAdd, Nat.reduceSub, List.replicate_succ, List.replicate_zero, List.cons_append, List.nil_append, List.append_nil, Bool.not_true, Bool.not_false, if_true, if_false, ite_true, ite_false, Bool.false_eq_true, Bool.true_eq_false, reduceIte]
      exact ixD (x1.get e2) (val3 (u := 0) (g := 0) (o := 0) hk) q
    · intro H' Q x1 q
      try simp only [for_nil, for_v, for_t, lc_nil, lc_v, lc_t, lc_turn0, lc_turn1, wipe_nil, wipe_cons, true_and, and_true, upd_same, upd_upd, Option.some.injEq, HO.lst.injEq, HO.tup.injEq, HO.dK.injEq, exists_eq_left', List.singleton_append, Int.cast_ofNat_Int, and1, e_k, e_v, e_g, e_bop, e_uop, e_not, e_and, e_or, e_ite, e_cmp, e_cmp2, e_lst, e_tup, e_dic, e_call, e_mk, e_bi, e_isi, e_meth, e_bm, e_icall, e_ostr, e_att, e_ix, e_sl, e_lc, t_v, t_isi, t_call, t_meth, t_bop, t_bi, t_att, t_not, t_and, t_or, t_cmp, t_cmp2, trQ_bl, blQ_bl, a_nil', a_cons, s_nil, s_cons, s_set, s_setLc, s_par, s_expr, s_ret, s_retN, s_if, s_for, s_never, s_pass, s_brk, s_cont, g_v', g_tup, g_sub, g_att, gs_nil, gs_cons, gs_tup, i_L, i_T, i_S, i_R1, i_ES, i_E, i_Z, p_nil, p_pair, o_nil, o_k, x_K, x_w, x_fn, x_gv, x_tabs, x_mth, x_prp, x_fld, x_isi, x_kwo, isi_int, isi_str, isi_bl, isi_non, ii1, ii2, ii3, ii4, ii5, ii6, ii7, r_add, r_sub, r_mul, r_div, r_mod, r_pow, r_shl, r_shr, r_and, r_or, r_xor, r_neg, r_inv, r_lt, r_le, r_gt, r_ge, r_eqI, r_neI, r_eqS, r_neS, r_inS, r_niS, List.getElem?_cons_zero, List.getElem?_cons_succ, List.set_cons_zero, List.set_cons_succ, List.map_cons, List.map_nil, List.length_cons, List.length_nil, Nat.reduceAdd, Nat.reduceSub, List.replicate_succ, List.replicate_zero, List.cons_append, List.nil_append, List.append_nil, Bool.not_true, Bool.not_false, if_true, if_false, ite_true, ite_false, Bool.false_eq_true, Bool.true_eq_false, reduceIte]
      exact q
    · try simp only [for_nil, for_v, for_t, lc_nil, lc_v, lc_t, lc_turn0, lc_turn1, wipe_nil, wipe_cons, true_and, and_true, upd_same, upd_upd, Option.some.injEq, HO.lst.injEq, HO.tup.injEq, HO.dK.injEq, exists_eq_left', List.singleton_append, Int.cast_ofNat_Int, and1, e_k, e_v, e_g, e_bop, e_uop, e_not, e_and, e_or, e_ite, e_cmp, e_cmp2, e_lst, e_tup, e_dic, e_call, e_mk, e_bi, e_isi, e_meth, e_bm, e_icall, e_ostr, e_att, e_ix, e_sl, e_lc, t_v, t_isi, t_call, t_meth, t_bop, t_bi, t_att, t_not, t_and, t_or, t_cmp, t_cmp2, trQ_bl, blQ_bl, a_nil', a_cons, s_nil, s_cons, s_set, s_setLc, s_par, s_expr, s_ret, s_retN, s_if, s_for, s_never, s_pass, s_brk, s_cont, g_v', g_tup, g_sub, g_att, gs_nil, gs_cons, gs_tup, i_L, i_T, i_S, i_R1, i_ES, i_E, i_Z, p_nil, p_pair, o_nil, o_k, x_K, x_w, x_fn, x_gv, x_tabs, x_mth, x_prp, x_fld, x_isi, x_kwo, isi_int, isi_str, isi_bl, isi_non, ii1, ii2, ii3, ii4, ii5, ii6, ii7, r_add, r_sub, r_mul, r_div, r_mod, r_pow, r_shl, r_shr, r_and, r_or, r_xor, r_neg, r_inv, r_lt, r_le, r_gt, r_ge, r_eqI, r_neI, r_eqS, r_neS, r_inS, r_niS, List.getElem?_cons_zero, List.getElem?_cons_succ, List.set_cons_zero, List.set_cons_succ, List.map_cons, List.map_nil, List.length_cons, List.length_nil, Nat.reduceAdd, Nat.reduceSub, List.replicate_succ, List.replicate_zero, List.cons_append, List.nil_append, List.append_nil, Bool.not_true, Bool.not_false, if_true, if_false, ite_true, ite_false, Bool.false_eq_true, Bool.true_eq_false, reduceIte]
      have e3 : H' q = some (.dK [(.inr (S [43]), .int (Builtin.bitOr (digC k m) x)), (.inr (S [45]), .int (Builtin.bitAnd (digC k m) (7 - x))), (.inr (S [61]), .int x)]) := by rw [eH, upd_same]
      refine ixD e3 (valG hb) ?_
      refine ⟨_, x1.get e1, (by decide : 3 < sizeLine), ?_⟩
      try simp only [for_nil, for_v, for_t, lc_nil, lc_v, lc_t, lc_turn0, lc_turn1, wipe_nil, wipe_cons, true_and, and_true, upd_same, upd_upd, Option.some.injEq, HO.lst.injEq, HO.tup.injEq, HO.dK.injEq, exists_eq_left', List.singleton_append, Int.cast_ofNat_Int, and1, e_k, e_v, e_g, e_bop, e_uop, e_not, e_and, e_or, e_ite, e_cmp, e_cmp2, e_lst, e_tup, e_dic, e_call, e_mk, e_bi, e_isi, e_meth, e_bm, e_icall, e_ostr, e_att, e_ix, e_sl, e_lc, t_v, t_isi, t_call, t_meth, t_bop, t_bi, t_att, t_not, t_and, t_or, t_cmp, t_cmp2, trQ_bl, blQ_bl, a_nil', a_cons, s_nil, s_cons, s_set, s_setLc, s_par, s_expr, s_ret, s_retN, s_if, s_for, s_never, s_pass, s_brk, s_cont, g_v', g_tup, g_sub, g_att, gs_nil, gs_cons, gs_tup, i_L, i_T, i_S, i_R1, i_ES, i_E, i_Z, p_nil, p_pair, o_nil, o_k, x_K, x_w, x_fn, x_gv, x_tabs, x_mth, x_prp, x_fld, x_isi, x_kwo, isi_int, isi_str, isi_bl, isi_non, ii1, ii2, ii3, ii4, ii5, ii6, ii7, r_add, r_sub, r_mul, r_div, r_mod, r_pow, r_shl, r_shr, r_and, r_or, r_xor, r_neg, r_inv, r_lt, r_le, r_gt, r_ge, r_eqI, r_neI, r_eqS, r_neS, r_inS, r_niS, List.getElem?_cons_zero, List.getElem?_cons_succ, List.set_cons_zero, List.set_cons_succ, List.map_cons, List.map_nil, List.length_cons, List.length_nil, Nat.reduceAdd, Nat.reduceSub, List.replicate_succ, List.replicate_zero, List.cons_append, List.nil_append, List.append_nil, Bool.not_true, Bool.not_false, if_true, if_false, ite_true, ite_false, Bool.false_eq_true, Bool.true_eq_false, reduceIte]
      rw [putK3 hk]
      refine done_loop hb hL r (put3 k (gainI b (digC k m) x) s) _ _ _ (fun j hj => hr j (List.mem_cons_of_mem _ hj)) ?_ ?_ fun H2 w9 w10 x2 e4 => ?_
      · rw [upd_same]
      · rw [upd_ne hL]
        exact x1.get e2
      · refine h H2 w9 w10 (fun y o ny ey => x2 y o ny ?_) e4
        rw [upd_ne ny]
        exact x1.get ey
theorem done_tail {m x : Int} {f : Bool} {b c a : List Nat} {t d : Addr} {fn : Str → Sp} {W : WX} {D : Ends} (ha : a ∈ whoL) (hb : b ∈ signL) (ed : H d = some (D3 (digU m) (digG m) (digO m)))
    (h : ∀ H', Ext H H' → D.rt (.int (sum3 (fin3 b m x a (digU m, digG m, digO m)))) H') :
    (rd (hd.pg.ctx K w fn) (tailI 4 b__law_clause_done) W).s D [some (.ref t), some (.int m), some (.str (S (formL f))), some (.str (S a)), some (.str (S b)), some (.str (S c)), some (.ref d), some (.int x), none, none, none] H := by
  simp only [tailI, b__law_clause_done, s_cons, s_set, e_bi, a_cons, a_nil', e_v, List.getElem?_cons_zero, List.getElem?_cons_succ]
  refine ⟨_, .inl ed, fun L hL => ?_⟩
  have hdL : d ≠ L := ne_of_none ed hL
  have x0 := Ext.new (o := D3 (digU m) (digG m) (digO m)) hL
  simp only [g_v', s_cons, s_for, i_S, e_v, cps_S, List.getElem?_cons_zero, List.getElem?_cons_succ, List.set_cons_zero, List.set_cons_succ]
  refine done_loop hb hdL a (digU m, digG m, digO m) _ _ _ (who2 a ha) upd_same (x0.get ed) fun H1 v9 v10 x1 e1 => ?_
  simp only [e_k, e_v, e_g, e_bop, e_uop, e_not, e_and, e_or, e_ite, e_cmp, e_cmp2, e_lst, e_tup, e_dic, e_call, e_mk, e_bi, e_isi, e_meth, e_bm, e_icall, e_ostr, e_att, e_ix, e_sl, e_lc, t_v, t_isi, t_call, t_meth, t_bop, t_bi, t_att, t_not, t_and, t_or, t_cmp, t_cmp2, trQ_bl, blQ_bl, a_nil', a_cons, s_nil, s_cons, s_set, s_setLc, s_par, s_expr, s_ret, s_retN, s_if, s_for, s_never, s_pass, s_brk, s_cont, g_v', g_tup, g_sub, g_att, gs_nil, gs_cons, gs_tup, i_L, i_T, i_S, i_R1, i_ES, i_E, i_Z, p_nil, p_pair, o_nil, o_k, x_K, x_w, x_fn, x_gv, x_tabs, x_mth, x_prp, x_fld, x_isi, x_kwo, isi_int, isi_str, isi_bl, isi_non, ii1, ii2, ii3, ii4, ii5, ii6, ii7, r_add, r_sub, r_mul, r_div, r_mod, r_pow, r_shl, r_shr, r_and, r_or, r_xor, r_neg, r_inv, r_lt, r_le, r_gt, r_ge, r_eqI, r_neI, r_eqS, r_neS, r_inS, r_niS, List.getElem?_cons_zero, List.getElem?_cons_succ, List.set_cons_zero, List.set_cons_succ, List.map_cons, List.map_nil, List.length_cons, List.length_nil, Nat.reduceAdd, Nat.reduceSub, List.replicate_succ, List.replicate_zero, List.cons_append, List.nil_append, List.append_nil, Bool.not_true, Bool.not_false, if_true, if_false, ite_true, ite_false, Bool.false_eq_true, Bool.true_eq_false, reduceIte]
  refine ixD e1 rfl ?_
  simp only [e_k, e_v, e_g, e_bop, e_uop, e_not, e_and, e_or, e_ite, e_cmp, e_cmp2, e_lst, e_tup, e_dic, e_call, e_mk, e_bi, e_isi, e_meth, e_bm, e_icall, e_ostr, e_att, e_ix, e_sl, e_lc, t_v, t_isi, t_call, t_meth, t_bop, t_bi, t_att, t_not, t_and, t_or, t_cmp, t_cmp2, trQ_bl, blQ_bl, a_nil', a_cons, s_nil, s_cons, s_set, s_setLc, s_par, s_expr, s_ret, s_retN, s_if, s_for, s_never, s_pass, s_brk, s_cont, g_v', g_tup, g_sub, g_att, gs_nil, gs_cons, gs_tup, i_L, i_T, i_S, i_R1, i_ES, i_E, i_Z, p_nil, p_pair, o_nil, o_k, x_K, x_w, x_fn, x_gv, x_tabs, x_mth, x_prp, x_fld, x_isi, x_kwo, isi_int, isi_str, isi_bl, isi_non, ii1, ii2, ii3, ii4, ii5, ii6, ii7, r_add, r_sub, r_mul, r_div, r_mod, r_pow, r_shl, r_shr, r_and, r_or, r_xor, r_neg, r_inv, r_lt, r_le, r_gt, r_ge, r_eqI, r_neI, r_eqS, r_neS, r_inS, r_niS, List.getElem?_cons_zero, List.getElem?_cons_succ, List.set_cons_zero, List.set_cons_succ, List.map_cons, List.map_nil, List.length_cons, List.length_nil, Nat.reduceAdd, Nat.reduceSub, List.replicate_succ, List.replicate_zero, List.cons_append, List.nil_append, List.append_nil, Bool.not_true, Bool.not_false, if_true, if_false, ite_true, ite_false, Bool.false_eq_true, Bool.true_eq_false, reduceIte]
  refine ⟨cmul_l (by decide), ?_⟩
  refine ixD e1 rfl ?_
  simp only [e_k, e_v, e_g, e_bop, e_uop, e_not, e_and, e_or, e_ite, e_cmp, e_cmp2, e_lst, e_tup, e_dic, e_call, e_mk, e_bi, e_isi, e_meth, e_bm, e_icall, e_ostr, e_att, e_ix, e_sl, e_lc, t_v, t_isi, t_call, t_meth, t_bop, t_bi, t_att, t_not, t_and, t_or, t_cmp, t_cmp2, trQ_bl, blQ_bl, a_nil', a_cons, s_nil, s_cons, s_set, s_setLc, s_par, s_expr, s_ret, s_retN, s_if, s_for, s_never, s_pass, s_brk, s_cont, g_v', g_tup, g_sub, g_att, gs_nil, gs_cons, gs_tup, i_L, i_T, i_S, i_R1, i_ES, i_E, i_Z, p_nil, p_pair, o_nil, o_k, x_K, x_w, x_fn, x_gv, x_tabs, x_mth, x_prp, x_fld, x_isi, x_kwo, isi_int, isi_str, isi_bl, isi_non, ii1, ii2, ii3, ii4, ii5, ii6, ii7, r_add, r_sub, r_mul, r_div, r_mod, r_pow, r_shl, r_shr, r_and, r_or, r_xor, r_neg, r_inv, r_lt, r_le, r_gt, r_ge, r_eqI, r_neI, r_eqS, r_neS, r_inS, r_niS, List.getElem?_cons_zero, List.getElem?_cons_succ, List.set_cons_zero, List.set_cons_succ, List.map_cons, List.map_nil, List.length_cons, List.length_nil, Nat.reduceAdd, Nat.reduceSub, List.replicate_succ, List.replicate_zero, List.cons_append, List.nil_append, List.append_nil, Bool.not_true, Bool.not_false, if_true, if_false, ite_true, ite_false, Bool.false_eq_true, Bool.true_eq_false, reduceIte]
  refine ⟨cmul_l (by decide), ?_⟩
  refine ixD e1 rfl ?_
  simp only [e_k, e_v, e_g, e_bop, e_uop, e_not, e_and, e_or, e_ite, e_cmp, e_cmp2, e_lst, e_tup, e_dic, e_call, e_mk, e_bi, e_isi, e_meth, e_bm, e_icall, e_ostr, e_att, e_ix, e_sl, e_lc, t_v, t_isi, t_call, t_meth, t_bop, t_bi, t_att, t_not, t_and, t_or, t_cmp, t_cmp2, trQ_bl, blQ_bl, a_nil', a_cons, s_nil, s_cons, s_set, s_setLc, s_par, s_expr, s_ret, s_retN, s_if, s_for, s_never, s_pass, s_brk, s_cont, g_v', g_tup, g_sub, g_att, gs_nil, gs_cons, gs_tup, i_L, i_T, i_S, i_R1, i_ES, i_E, i_Z, p_nil, p_pair, o_nil, o_k, x_K, x_w, x_fn, x_gv, x_tabs, x_mth, x_prp, x_fld, x_isi, x_kwo, isi_int, isi_str, isi_bl, isi_non, ii1, ii2, ii3, ii4, ii5, ii6, ii7, r_add, r_sub, r_mul, r_div, r_mod, r_pow, r_shl, r_shr, r_and, r_or, r_xor, r_neg, r_inv, r_lt, r_le, r_gt, r_ge, r_eqI, r_neI, r_eqS, r_neS, r_inS, r_niS, List.getElem?_cons_zero, List.getElem?_cons_succ, List.set_cons_zero, List.set_cons_succ, List.map_cons, List.map_nil, List.length_cons, List.length_nil, Nat.reduceAdd, Nat.reduceSub, List.replicate_succ, List.replicate_zero, List.cons_append, List.nil_append, List.append_nil, Bool.not_true, Bool.not_false, if_true, if_false, ite_true, ite_false, Bool.false_eq_true, Bool.true_eq_false, reduceIte]
  refine h H1 fun y o ey => x1 y o (ne_of_none ey hL) (x0.get ey)
theorem r_getD {kvs : List (Key × V)} {z : Str} {v : V} (h : H p = some (.dK kvs)) (q : Q ((valV kvs (.inr z)).getD v) H) : tyV K M.get.T (.ref p) H ∧ rM K .get (.ref p) [.str z, v] H Q :=
  ⟨.inr (.inr (.inl ⟨rfl, .inl ⟨kvs, h⟩⟩)), p, .str z, v, _, rfl, rfl, .inl ⟨kvs, .inr z, .inl h, rfl, rfl⟩, q⟩
def val0 (c : List Nat) (m : Int) : Option Int := if c = [117] then some (digU m) else if c = [103] then some (digG m) else if c = [111] then some (digO m) else none
theorem val0_eq {c : List Nat} {m : Int} (hc : c ∈ whatL) : valV ([(.inr (S [117]), .int (digU m)), (.inr (S [103]), .int (digG m)), (.inr (S [111]), .int (digO m))] : List (Key × V)) (.inr (S c)) = (val0 c m).map V.int := by
  simp only [whatL, List.mem_cons, List.not_mem_nil, or_false] at hc
  rcases hc with rfl | rfl | rfl | rfl | rfl | rfl | rfl | rfl | rfl | rfl | rfl | rfl | rfl | rfl | rfl <;> rfl
theorem c_clause_done {a b c : List Nat} {f : Bool} {m : Int} {t : Addr} (ha : a ∈ whoL) (hb : b ∈ signL) (hc : c ∈ whatL) (ht : H t = some (.tup [.str (S a), .str (S b), .str (S c)])) (hn : 1 ≤ n) (h : ∀ H', Ext H H' → Q (.int (doneI a b c f m)) H') :
    run hd.pg K w n s__law_clause_done [.ref t, .int m, .str (S (formL f))] H Q E := by
  refine run_at f__law_clause_done hn rfl ?_
  show (rd _ b__law_clause_done _).s _ _ _
  rw [s_split 4 (by rfl)]
  have tl : ∀ (H1 : Hp) (d : Addr), Ext H H1 → H1 d = some (D3 (digU m) (digG m) (digO m)) →
      (rd (hd.pg.ctx K w (run hd.pg K w (n - 1))) (tailI 4 b__law_clause_done) fun cls dd _ H' => E cls dd H').s { nx := fun _ H' => Q .non H', rt := Q } [some (.ref t), some (.int m), some (.str (S (formL f))), some (.str (S a)), some (.str (S b)), some (.str (S c)), some (.ref d), some (.int (meantI c f m)), none, none, none] H1 :=
    fun H1 d x1 ed => done_tail ha hb ed fun H' x2 => h H' (x1.trans x2)
  generalize (rd (hd.pg.ctx K w (run hd.pg K w (n - 1))) (tailI 4 b__law_clause_done) fun cls dd _ H' => E cls dd H').s { nx := fun _ H' => Q .non H', rt := Q } = nx at tl ⊢
  simp only [headI, b__law_clause_done]
  rw [s_cons, s_set]
  refine ⟨_, .inl (.inl ht), rfl, ?_⟩
  simp only [d__law_clause_done, L2.start, gs_cons, gs_nil, g_v', List.getElem?_cons_zero, List.getElem?_cons_succ, List.set_cons_zero, List.set_cons_succ, List.map_cons, List.map_nil, List.length_cons, List.length_nil, Nat.reduceAdd, Nat.reduceSub, List.replicate_succ, List.replicate_zero, List.cons_append, List.nil_append]
  refine ⟨trivial, ?_⟩
  rw [s_cons, s_set]
  refine disp3 (x := digU m) (y := digG m) (z := digO m) (by decide) (by decide) (by decide) ?_ ?_ ?_ fun d H1 hd x1 eH => ?_
  · intro H' Q x1 q
    try simp only [for_nil, for_v, for_t, lc_nil, lc_v, lc_t, lc_turn0, lc_turn1, wipe_nil, wipe_cons, true_and, and_true, upd_same, upd_upd, Option.some.injEq, HO.lst.injEq, HO.tup.injEq, HO.dK.injEq, exists_eq_left', List.singleton_append, Int.cast_ofNat_Int, and1, e_k, e_v, e_g, e_bop, e_uop, e_not, e_and, e_or, e_ite, e_cmp, e_cmp2, e_lst, e_tup, e_dic, e_call, e_mk, e_bi, e_isi, e_meth, e_bm, e_icall, e_ostr, e_att, e_ix, e_sl, e_lc, t_v, t_isi, t_call, t_meth, t_bop, t_bi, t_att, t_not, t_and, t_or, t_cmp, t_cmp2, trQ_bl, blQ_bl, a_nil', a_cons, s_nil, s_cons, s_set, s_setLc, s_par, s_expr, s_ret, s_retN, s_if, s_for, s_never, s_pass, s_brk, s_cont, g_v', g_tup, g_sub, g_att, gs_nil, gs_cons, gs_tup, i_L, i_T, i_S, i_R1, i_ES, i_E, i_Z, p_nil, p_pair, o_nil, o_k, x_K, x_w, x_fn, x_gv, x_tabs, x_mth, x_prp, x_fld, x_isi, x_kwo, isi_int, isi_str, isi_bl, isi_non, ii1, ii2, ii3, ii4, ii5, ii6, ii7, r_add, r_sub, r_mul, r_div, r_mod, r_pow, r_shl, r_shr, r_and, r_or, r_xor, r_neg, r_inv, r_lt, r_le, r_gt, r_ge, r_eqI, r_neI, r_eqS, r_neS, r_inS, r_niS, List.getElem?_cons_zero, List.getElem?_cons_succ, List.set_cons_zero, List.set_cons_succ, List.map_cons, List.map_nil, List.length_cons, List.length_nil, Nat.reduceAdd, Nat.reduceSub, List.replicate_succ, List.replicate_zero, List.cons_append, List.nil_append, List.append_nil, Bool.not_true, Bool.not_false, if_true, if_false, ite_true, ite_false, Bool.false_eq_true, Bool.true_eq_false, reduceIte]
    exact ⟨by decide, q⟩
  · intro H' Q x1 q
    try simp only [for_nil, for_v, for_t, lc_nil, lc_v, lc_t, lc_turn0, lc_turn1, wipe_nil, wipe_cons, true_and, and_true, upd_same, upd_upd, Option.some.injEq, HO.lst.injEq, HO.tup.injEq, HO.dK.injEq, exists_eq_left', List.singleton_append, Int.cast_ofNat_Int, and1, e_k, e_v, e_g, e_bop, e_uop, e_not, e_and, e_or, e_ite, e_cmp, e_cmp2, e_lst, e_tup, e_dic, e_call, e_mk, e_bi, e_isi, e_meth, e_bm, e_icall, e_ostr, e_att, e_ix, e_sl, e_lc, t_v, t_isi, t_call, t_meth, t_bop, t_bi, t_att, t_not, t_and, t_or, t_cmp, t_cmp2, trQ_bl, blQ_bl, a_nil', a_cons, s_nil, s_cons, s_set, s_setLc, s_par, s_expr, s_ret, s_retN, s_if, s_for, s_never, s_pass, s_brk, s_cont, g_v', g_tup, g_sub, g_att, gs_nil, gs_cons, gs_tup, i_L, i_T, i_S, i_R1, i_ES, i_E, i_Z, p_nil, p_pair, o_nil, o_k, x_K, x_w, x_fn, x_gv, x_tabs, x_mth, x_prp, x_fld, x_isi, x_kwo, isi_int, isi_str, isi_bl, isi_non, ii1, ii2, ii3, ii4, ii5, ii6, ii7, r_add, r_sub, r_mul, r_div, r_mod, r_pow, r_shl, r_shr, r_and, r_or, r_xor, r_neg, r_inv, r_lt, r_le, r_gt, r_ge, r_eqI, r_neI, r_eqS, r_neS, r_inS, r_niS, List.getElem?_cons_zero, List.getElem?_cons_succ, List.set_cons_zero, List.set_cons_succ, List.map_cons, List.map_nil, List.length_cons, List.length_nil, Nat.reduceAdd, Nat.reduceSub, List.replicate_succ, List.replicate_zero, List.cons_append, List.nil_append, List.append_nil, Bool.not_true, Bool.not_false, if_true, if_false, ite_true, ite_false, Bool.false_eq_true, Bool.true_eq_false, reduceIte]
    exact ⟨by decide, q⟩
  · intro H' Q x1 q
    try simp only [for_nil, for_v, for_t, lc_nil, lc_v, lc_t, lc_turn0, lc_turn1, wipe_nil, wipe_cons, true_and, and_true, upd_same, upd_upd, Option.some.injEq, HO.lst.injEq, HO.tup.injEq, HO.dK.injEq, exists_eq_left', List.singleton_append, Int.cast_ofNat_Int, and1, e_k, e_v, e_g, e_bop, e_uop, e_not, e_and, e_or, e_ite, e_cmp, e_cmp2, e_lst, e_tup, e_dic, e_call, e_mk, e_bi, e_isi, e_meth, e_bm, e_icall, e_ostr, e_att, e_ix, e_sl, e_lc, t_v, t_isi, t_call, t_meth, t_bop, t_bi, t_att, t_not, t_and, t_or, t_cmp, t_cmp2, trQ_bl, blQ_bl, a_nil', a_cons, s_nil, s_cons, s_set, s_setLc, s_par, s_expr, s_ret, s_retN, s_if, s_for, s_never, s_pass, s_brk, s_cont, g_v', g_tup, g_sub, g_att, gs_nil, gs_cons, gs_tup, i_L, i_T, i_S, i_R1, i_ES, i_E, i_Z, p_nil, p_pair, o_nil, o_k, x_K, x_w, x_fn, x_gv, x_tabs, x_mth, x_prp, x_fld, x_isi, x_kwo, isi_int, isi_str, isi_bl, isi_non, ii1, ii2, ii3, ii4, ii5, ii6, ii7, r_add, r_sub, r_mul, r_div, r_mod, r_pow, r_shl, r_shr, r_and, r_or, r_xor, r_neg, r_inv, r_lt, r_le, r_gt, r_ge, r_eqI, r_neI, r_eqS, r_neS, r_inS, r_niS, List.getElem?_cons_zero, List.getElem?_cons_succ, List.set_cons_zero, List.set_cons_succ, List.map_cons, List.map_nil, List.length_cons, List.length_nil, Nat.reduceAdd, Nat.reduceSub, List.replicate_succ, List.replicate_zero, List.cons_append, List.nil_append, List.append_nil, Bool.not_true, Bool.not_false, if_true, if_false, ite_true, ite_false, Bool.false_eq_true, Bool.true_eq_false, reduceIte]
    exact q
  have ed : H1 d = some (D3 (digU m) (digG m) (digO m)) := by rw [eH, upd_same]
  have hv := val0_eq (m := m) hc
  simp only [g_v', List.set_cons_zero, List.set_cons_succ]
  rw [s_cons, s_set, e_bm]
  simp only [e_v, a_cons, a_nil', e_k, List.getElem?_cons_zero, List.getElem?_cons_succ, List.set_cons_zero, List.set_cons_succ]
  refine r_getD ed ?_
  rw [hv]
  unfold meantI at tl
  have hv0 : ∀ v, val0 c m = some v → meantI c f m = v := by
    intro v hv
    unfold val0 at hv
    unfold meantI
    split at hv
    · rename_i e; rw [if_pos e]; exact Option.some.inj hv
    · rename_i e
      rw [if_neg e]
      split at hv
      · rename_i e; rw [if_pos e]; exact Option.some.inj hv
      · rename_i e
        rw [if_neg e]
        split at hv
        · rename_i e; rw [if_pos e]; exact Option.some.inj hv
        · cases hv
  have hv1 : val0 c m = none → meantI c f m = if (inS (S [88]) (S c) && (f || decide (0 < Builtin.bitAnd m 73))) = true then Builtin.bitOr (4 * bI (inS (S [114]) (S c)) + 2 * bI (inS (S [119]) (S c)) + bI (inS (S [120]) (S c))) 1 else 4 * bI (inS (S [114]) (S c)) + 2 * bI (inS (S [119]) (S c)) + bI (inS (S [120]) (S c)) := by
    intro hv
    unfold val0 at hv
    unfold meantI
    split at hv
    · cases hv
    · rename_i e
      rw [if_neg e]
      split at hv
      · cases hv
      · rename_i e
        rw [if_neg e]
        split at hv
        · cases hv
        · rename_i e
          rw [if_neg e]
  cases e : val0 c m with
  | some v =>
    rw [e] at hv
    simp only [Option.map_some, Option.getD_some, g_v', List.set_cons_zero, List.set_cons_succ, s_cons, s_if, t_cmp, e_v, List.getElem?_cons_zero, List.getElem?_cons_succ]
    refine r_niD ed ?_
    rw [hv]
    simp only [Option.map_some, Option.isSome_some, e_k, e_v, e_g, e_bop, e_uop, e_not, e_and, e_or, e_ite, e_cmp, e_cmp2, e_lst, e_tup, e_dic, e_call, e_mk, e_bi, e_isi, e_meth, e_bm, e_icall, e_ostr, e_att, e_ix, e_sl, e_lc, t_v, t_isi, t_call, t_meth, t_bop, t_bi, t_att, t_not, t_and, t_or, t_cmp, t_cmp2, trQ_bl, blQ_bl, a_nil', a_cons, s_nil, s_cons, s_set, s_setLc, s_par, s_expr, s_ret, s_retN, s_if, s_for, s_never, s_pass, s_brk, s_cont, g_v', g_tup, g_sub, g_att, gs_nil, gs_cons, gs_tup, i_L, i_T, i_S, i_R1, i_ES, i_E, i_Z, p_nil, p_pair, o_nil, o_k, x_K, x_w, x_fn, x_gv, x_tabs, x_mth, x_prp, x_fld, x_isi, x_kwo, isi_int, isi_str, isi_bl, isi_non, ii1, ii2, ii3, ii4, ii5, ii6, ii7, r_add, r_sub, r_mul, r_div, r_mod, r_pow, r_shl, r_shr, r_and, r_or, r_xor, r_neg, r_inv, r_lt, r_le, r_gt, r_ge, r_eqI, r_neI, r_eqS, r_neS, r_inS, r_niS, List.getElem?_cons_zero, List.getElem?_cons_succ, List.set_cons_zero, List.set_cons_succ, List.map_cons, List.map_nil, List.length_cons, List.length_nil, Nat.reduceAdd, Nat.reduceSub, List.replicate_succ, List.replicate_zero, List.cons_append, List.nil_append, List.append_nil, Bool.not_true, Bool.not_false, if_true, if_false, ite_true, ite_false, Bool.false_eq_true, Bool.true_eq_false, reduceIte]
    have := hv0 v e
    unfold meantI at this
    rw [this] at tl
    exact tl H1 d x1 ed
  | none =>
    rw [e] at hv
    have hm := hv1 e
    unfold meantI at hm
    rw [hm] at tl
    simp only [Option.map_none, Option.getD_none, g_v', List.set_cons_zero, List.set_cons_succ, s_cons, s_if, t_cmp, e_v, List.getElem?_cons_zero, List.getElem?_cons_succ]
    refine r_niD ed ?_
    rw [hv]
    simp only [Option.map_none, Option.isSome_none, rB_intb, Bool.false_xor, e_k, e_v, e_g, e_bop, e_uop, e_not, e_and, e_or, e_ite, e_cmp, e_cmp2, e_lst, e_tup, e_dic, e_call, e_mk, e_bi, e_isi, e_meth, e_bm, e_icall, e_ostr, e_att, e_ix, e_sl, e_lc, t_v, t_isi, t_call, t_meth, t_bop, t_bi, t_att, t_not, t_and, t_or, t_cmp, t_cmp2, trQ_bl, blQ_bl, a_nil', a_cons, s_nil, s_cons, s_set, s_setLc, s_par, s_expr, s_ret, s_retN, s_if, s_for, s_never, s_pass, s_brk, s_cont, g_v', g_tup, g_sub, g_att, gs_nil, gs_cons, gs_tup, i_L, i_T, i_S, i_R1, i_ES, i_E, i_Z, p_nil, p_pair, o_nil, o_k, x_K, x_w, x_fn, x_gv, x_tabs, x_mth, x_prp, x_fld, x_isi, x_kwo, isi_int, isi_str, isi_bl, isi_non, ii1, ii2, ii3, ii4, ii5, ii6, ii7, r_add, r_sub, r_mul, r_div, r_mod, r_pow, r_shl, r_shr, r_and, r_or, r_xor, r_neg, r_inv, r_lt, r_le, r_gt, r_ge, r_eqI, r_neI, r_eqS, r_neS, r_inS, r_niS, List.getElem?_cons_zero, List.getElem?_cons_succ, List.set_cons_zero, List.set_cons_succ, List.map_cons, List.map_nil, List.length_cons, List.length_nil, Nat.reduceAdd, Nat.reduceSub, List.replicate_succ, List.replicate_zero, List.cons_append, List.nil_append, List.append_nil, Bool.not_true, Bool.not_false, if_true, if_false, ite_true, ite_false, Bool.false_eq_true, Bool.true_eq_false, reduceIte]
    refine ⟨cmul_l (by decide), cmul_l (by decide), ?_⟩
    simp only [bI] at tl
    cases e1 : inS (S [88]) (S c) with
    | false =>
      simp only [e1, Bool.false_and, e_k, e_v, e_g, e_bop, e_uop, e_not, e_and, e_or, e_ite, e_cmp, e_cmp2, e_lst, e_tup, e_dic, e_call, e_mk, e_bi, e_isi, e_meth, e_bm, e_icall, e_ostr, e_att, e_ix, e_sl, e_lc, t_v, t_isi, t_call, t_meth, t_bop, t_bi, t_att, t_not, t_and, t_or, t_cmp, t_cmp2, trQ_bl, blQ_bl, a_nil', a_cons, s_nil, s_cons, s_set, s_setLc, s_par, s_expr, s_ret, s_retN, s_if, s_for, s_never, s_pass, s_brk, s_cont, g_v', g_tup, g_sub, g_att, gs_nil, gs_cons, gs_tup, i_L, i_T, i_S, i_R1, i_ES, i_E, i_Z, p_nil, p_pair, o_nil, o_k, x_K, x_w, x_fn, x_gv, x_tabs, x_mth, x_prp, x_fld, x_isi, x_kwo, isi_int, isi_str, isi_bl, isi_non, ii1, ii2, ii3, ii4, ii5, ii6, ii7, r_add, r_sub, r_mul, r_div, r_mod, r_pow, r_shl, r_shr, r_and, r_or, r_xor, r_neg, r_inv, r_lt, r_le, r_gt, r_ge, r_eqI, r_neI, r_eqS, r_neS, r_inS, r_niS, List.getElem?_cons_zero, List.getElem?_cons_succ, List.set_cons_zero, List.set_cons_succ, List.map_cons, List.map_nil, List.length_cons, List.length_nil, Nat.reduceAdd, Nat.reduceSub, List.replicate_succ, List.replicate_zero, List.cons_append, List.nil_append, List.append_nil, Bool.not_true, Bool.not_false, if_true, if_false, ite_true, ite_false, Bool.false_eq_true, Bool.true_eq_false, reduceIte] at tl ⊢
      exact tl H1 d x1 ed
    | true =>
      cases f with
      | true =>
        rw [show (S (formL true) == S [102, 111, 108, 100, 101, 114]) = true from rfl]
        simp only [e1, Bool.true_and, Bool.true_or, e_k, e_v, e_g, e_bop, e_uop, e_not, e_and, e_or, e_ite, e_cmp, e_cmp2, e_lst, e_tup, e_dic, e_call, e_mk, e_bi, e_isi, e_meth, e_bm, e_icall, e_ostr, e_att, e_ix, e_sl, e_lc, t_v, t_isi, t_call, t_meth, t_bop, t_bi, t_att, t_not, t_and, t_or, t_cmp, t_cmp2, trQ_bl, blQ_bl, a_nil', a_cons, s_nil, s_cons, s_set, s_setLc, s_par, s_expr, s_ret, s_retN, s_if, s_for, s_never, s_pass, s_brk, s_cont, g_v', g_tup, g_sub, g_att, gs_nil, gs_cons, gs_tup, i_L, i_T, i_S, i_R1, i_ES, i_E, i_Z, p_nil, p_pair, o_nil, o_k, x_K, x_w, x_fn, x_gv, x_tabs, x_mth, x_prp, x_fld, x_isi, x_kwo, isi_int, isi_str, isi_bl, isi_non, ii1, ii2, ii3, ii4, ii5, ii6, ii7, r_add, r_sub, r_mul, r_div, r_mod, r_pow, r_shl, r_shr, r_and, r_or, r_xor, r_neg, r_inv, r_lt, r_le, r_gt, r_ge, r_eqI, r_neI, r_eqS, r_neS, r_inS, r_niS, List.getElem?_cons_zero, List.getElem?_cons_succ, List.set_cons_zero, List.set_cons_succ, List.map_cons, List.map_nil, List.length_cons, List.length_nil, Nat.reduceAdd, Nat.reduceSub, List.replicate_succ, List.replicate_zero, List.cons_append, List.nil_append, List.append_nil, Bool.not_true, Bool.not_false, if_true, if_false, ite_true, ite_false, Bool.false_eq_true, Bool.true_eq_false, reduceIte] at tl ⊢
        exact tl H1 d x1 ed
      | false =>
        rw [show (S (formL false) == S [102, 111, 108, 100, 101, 114]) = false from rfl]
        simp only [e1, Bool.true_and, Bool.false_or, e_k, e_v, e_g, e_bop, e_uop, e_not, e_and, e_or, e_ite, e_cmp, e_cmp2, e_lst, e_tup, e_dic, e_call, e_mk, e_bi, e_isi, e_meth, e_bm, e_icall, e_ostr, e_att, e_ix, e_sl, e_lc, t_v, t_isi, t_call, t_meth, t_bop, t_bi, t_att, t_not, t_and, t_or, t_cmp, t_cmp2, trQ_bl, blQ_bl, a_nil', a_cons, s_nil, s_cons, s_set, s_setLc, s_par, s_expr, s_ret, s_retN, s_if, s_for, s_never, s_pass, s_brk, s_cont, g_v', g_tup, g_sub, g_att, gs_nil, gs_cons, gs_tup, i_L, i_T, i_S, i_R1, i_ES, i_E, i_Z, p_nil, p_pair, o_nil, o_k, x_K, x_w, x_fn, x_gv, x_tabs, x_mth, x_prp, x_fld, x_isi, x_kwo, isi_int, isi_str, isi_bl, isi_non, ii1, ii2, ii3, ii4, ii5, ii6, ii7, r_add, r_sub, r_mul, r_div, r_mod, r_pow, r_shl, r_shr, r_and, r_or, r_xor, r_neg, r_inv, r_lt, r_le, r_gt, r_ge, r_eqI, r_neI, r_eqS, r_neS, r_inS, r_niS, List.getElem?_cons_zero, List.getElem?_cons_succ, List.set_cons_zero, List.set_cons_succ, List.map_cons, List.map_nil, List.length_cons, List.length_nil, Nat.reduceAdd, Nat.reduceSub, List.replicate_succ, List.replicate_zero, List.cons_append, List.nil_append, List.append_nil, Bool.not_true, Bool.not_false, if_true, if_false, ite_true, ite_false, Bool.false_eq_true, Bool.true_eq_false, reduceIte] at tl ⊢
        cases e2 : decide (0 < Builtin.bitAnd m 73) with
        | true =>
          rw [e2] at tl
          simp only [e_k, e_v, e_g, e_bop, e_uop, e_not, e_and, e_or, e_ite, e_cmp, e_cmp2, e_lst, e_tup, e_dic, e_call, e_mk, e_bi, e_isi, e_meth, e_bm, e_icall, e_ostr, e_att, e_ix, e_sl, e_lc, t_v, t_isi, t_call, t_meth, t_bop, t_bi, t_att, t_not, t_and, t_or, t_cmp, t_cmp2, trQ_bl, blQ_bl, a_nil', a_cons, s_nil, s_cons, s_set, s_setLc, s_par, s_expr, s_ret, s_retN, s_if, s_for, s_never, s_pass, s_brk, s_cont, g_v', g_tup, g_sub, g_att, gs_nil, gs_cons, gs_tup, i_L, i_T, i_S, i_R1, i_ES, i_E, i_Z, p_nil, p_pair, o_nil, o_k, x_K, x_w, x_fn, x_gv, x_tabs, x_mth, x_prp, x_fld, x_isi, x_kwo, isi_int, isi_str, isi_bl, isi_non, ii1, ii2, ii3, ii4, ii5, ii6, ii7, r_add, r_sub, r_mul, r_div, r_mod, r_pow, r_shl, r_shr, r_and, r_or, r_xor, r_neg, r_inv, r_lt, r_le, r_gt, r_ge, r_eqI, r_neI, r_eqS, r_neS, r_inS, r_niS, List.getElem?_cons_zero, List.getElem?_cons_succ, List.set_cons_zero, List.set_cons_succ, List.map_cons, List.map_nil, List.length_cons, List.length_nil, Nat.reduceAdd, Nat.reduceSub, List.replicate_succ, List.replicate_zero, List.cons_append, List.nil_append, List.append_nil, Bool.not_true, Bool.not_false, if_true, if_false, ite_true, ite_false, Bool.false_eq_true, Bool.true_eq_false, reduceIte] at tl ⊢
          exact tl H1 d x1 ed
        | false =>
          rw [e2] at tl
          simp only [e_k, e_v, e_g, e_bop, e_uop, e_not, e_and, e_or, e_ite, e_cmp, e_cmp2, e_lst, e_tup, e_dic, e_call, e_mk, e_bi, e_isi, e_meth, e_bm, e_icall, e_ostr, e_att, e_ix, e_sl, e_lc, t_v, t_isi, t_call, t_meth, t_bop, t_bi, t_att, t_not, t_and, t_or, t_cmp, t_cmp2, trQ_bl, blQ_bl, a_nil', a_cons, s_nil, s_cons, s_set, s_setLc, s_par, s_expr, s_ret, s_retN, s_if, s_for, s_never, s_pass, s_brk, s_cont, g_v', g_tup, g_sub, g_att, gs_nil, gs_cons, gs_tup, i_L, i_T, i_S, i_R1, i_ES, i_E, i_Z, p_nil, p_pair, o_nil, o_k, x_K, x_w, x_fn, x_gv, x_tabs, x_mth, x_prp, x_fld, x_isi, x_kwo, isi_int, isi_str, isi_bl, isi_non, ii1, ii2, ii3, ii4, ii5, ii6, ii7, r_add, r_sub, r_mul, r_div, r_mod, r_pow, r_shl, r_shr, r_and, r_or, r_xor, r_neg, r_inv, r_lt, r_le, r_gt, r_ge, r_eqI, r_neI, r_eqS, r_neS, r_inS, r_niS, List.getElem?_cons_zero, List.getElem?_cons_succ, List.set_cons_zero, List.set_cons_succ, List.map_cons, List.map_nil, List.length_cons, List.length_nil, Nat.reduceAdd, Nat.reduceSub, List.replicate_succ, List.replicate_zero, List.cons_append, List.nil_append, List.append_nil, Bool.not_true, Bool.not_false, if_true, if_false, ite_true, ite_false, Bool.false_eq_true, Bool.true_eq_false, reduceIte] at tl ⊢
          exact tl H1 d x1 ed
end U

namespace U
open PySem PySem.Spec PyProof.Rows L2
def C3 (r w x : Int) : Int := pbI 2 r + pbI 1 w + pbI 0 x
def mvB (a b : List Nat) (t : Bool) (p : Int) : Int :=
  if b = [61] then (if t = true then Builtin.bitOr p (bitsOf a) else Builtin.bitAnd p (Builtin.bitNot (bitsOf a)))
  else if t = true then (if b = [43] then Builtin.bitOr p (bitsOf a) else Builtin.bitAnd p (Builtin.bitNot (bitsOf a))) else p
theorem nA : ∀ m : Nat, m < 512 → (m : Int) = C3 (patI m 2) (patI m 1) (patI m 0) := by decide +kernel
theorem nB : ∀ r : Nat, r < 8 → ∀ w : Nat, w < 8 → ∀ x : Nat, x < 8 → patI (C3 r w x) 2 = r ∧ patI (C3 r w x) 1 = w ∧ patI (C3 r w x) 0 = x := by decide +kernel
theorem nC : ∀ r : Nat, r < 8 → ∀ w : Nat, w < 8 → ∀ x : Nat, x < 8 → ∀ y : Nat, y < 8 → wpI (C3 r w x) 2 y = C3 y w x ∧ wpI (C3 r w x) 1 y = C3 r y x ∧ wpI (C3 r w x) 0 y = C3 r w y := by decide +kernel
theorem nat8 {i : Int} (h : 0 ≤ i ∧ i ≤ 7) : ∃ k : Nat, k < 8 ∧ i = k := ⟨i.toNat, by omega, by omega⟩
/-- a bit of a pattern -/
def bt (p : Int) (j : Nat) : Int := p / 2 ^ j % 2
theorem nF : ∀ r : Nat, r < 8 → ∀ w : Nat, w < 8 → ∀ x : Nat, x < 8 → C3 r w x = 64 * (4 * bt r 2 + 2 * bt w 2 + bt x 2) + 8 * (4 * bt r 1 + 2 * bt w 1 + bt x 1) + (4 * bt r 0 + 2 * bt w 0 + bt x 0) := by decide +kernel
theorem nG : ∀ r : Nat, r < 8 → ∀ w : Nat, w < 8 → ∀ x : Nat, x < 8 → digU (C3 r w x) = 4 * bt r 2 + 2 * bt w 2 + bt x 2 ∧ digG (C3 r w x) = 4 * bt r 1 + 2 * bt w 1 + bt x 1 ∧ digO (C3 r w x) = 4 * bt r 0 + 2 * bt w 0 + bt x 0 := by decide +kernel
def opB (b : List Nat) (t : Bool) (d : Int) : Int := if b = [43] then (if t = true then 1 else d) else if b = [45] then (if t = true then 0 else d) else bI t
theorem nM : ∀ a ∈ whoL, ∀ b ∈ signL, ∀ t : Bool, ∀ p : Nat, p < 8 → bt (mvB a b t p) 2 = (if 117 ∈ a then opB b t (bt p 2) else bt p 2) ∧ bt (mvB a b t p) 1 = (if 103 ∈ a then opB b t (bt p 1) else bt p 1) ∧ bt (mvB a b t p) 0 = (if 111 ∈ a then opB b t (bt p 0) else bt p 0) := by decide +kernel
theorem nN : ∀ b ∈ signL, ∀ t1 t2 t3 : Bool, ∀ d1 : Nat, d1 < 2 → ∀ d2 : Nat, d2 < 2 → ∀ d3 : Nat, d3 < 2 → gainI b (4 * d1 + 2 * d2 + d3) (4 * bI t1 + 2 * bI t2 + bI t3) = 4 * opB b t1 d1 + 2 * opB b t2 d2 + opB b t3 d3 := by decide +kernel
theorem bt_nat (p : Int) (j : Nat) : ∃ d : Nat, d < 2 ∧ bt p j = d := by
  unfold bt
  exact ⟨(p / 2 ^ j % 2).toNat, by omega, by omega⟩
theorem nN' {b : List Nat} (hb : b ∈ signL) (t1 t2 t3 : Bool) (p q s : Int) (j : Nat) : gainI b (4 * bt p j + 2 * bt q j + bt s j) (4 * bI t1 + 2 * bI t2 + bI t3) = 4 * opB b t1 (bt p j) + 2 * opB b t2 (bt q j) + opB b t3 (bt s j) := by
  obtain ⟨d1, h1, e1⟩ := bt_nat p j
  obtain ⟨d2, h2, e2⟩ := bt_nat q j
  obtain ⟨d3, h3, e3⟩ := bt_nat s j
  rw [e1, e2, e3]
  exact nN b hb t1 t2 t3 d1 h1 d2 h2 d3 h3
theorem fin_sum {b : List Nat} {m X : Int} : ∀ a ∈ whoL, sum3 (fin3 b m X a (digU m, digG m, digO m)) = 64 * (if 117 ∈ a then gainI b (digU m) X else digU m) + 8 * (if 103 ∈ a then gainI b (digG m) X else digG m) + (if 111 ∈ a then gainI b (digO m) X else digO m) := by
  intro a ha
  simp only [whoL, List.mem_cons, List.not_mem_nil, or_false] at ha
  rcases ha with rfl | rfl | rfl | rfl | rfl | rfl | rfl <;> rfl
theorem nE2 {a b : List Nat} (ha : a ∈ whoL) (hb : b ∈ signL) {r w x : Nat} (hr : r < 8) (hw : w < 8) (hx : x < 8) (tr tw tx : Bool) (h1 : ∃ k : Nat, k < 8 ∧ mvB a b tr r = k) (h2 : ∃ k : Nat, k < 8 ∧ mvB a b tw w = k) (h3 : ∃ k : Nat, k < 8 ∧ mvB a b tx x = k) :
    sum3 (fin3 b (C3 r w x) (4 * bI tr + 2 * bI tw + bI tx) a (digU (C3 r w x), digG (C3 r w x), digO (C3 r w x))) = C3 (mvB a b tr r) (mvB a b tw w) (mvB a b tx x) := by
  obtain ⟨g1, g2, g3⟩ := nG r hr w hw x hx
  obtain ⟨m1, m2, m3⟩ := nM a ha b hb tr r hr
  obtain ⟨m4, m5, m6⟩ := nM a ha b hb tw w hw
  obtain ⟨m7, m8, m9⟩ := nM a ha b hb tx x hx
  obtain ⟨k1, hk1, e1⟩ := h1
  obtain ⟨k2, hk2, e2⟩ := h2
  obtain ⟨k3, hk3, e3⟩ := h3
  rw [fin_sum a ha, g1, g2, g3, nN' hb, nN' hb, nN' hb]
  rw [e1] at m1 m2 m3
  rw [e2] at m4 m5 m6
  rw [e3] at m7 m8 m9
  rw [e1, e2, e3, nF k1 hk1 k2 hk2 k3 hk3, m1, m2, m3, m4, m5, m6, m7, m8, m9]
  split <;> split <;> split <;> rfl
def whatO : List (List Nat) := [[114], [119], [120], [88], [114, 88], [114, 119, 120], [114, 119, 88], [119, 120], [114, 120], [], [120, 88], [114, 119, 120, 88]]
def tkZ (c : List Nat) (l : Nat) (f z : Bool) : Bool := inS (S [l]) (S c) || ((S [l] == S [120]) && (inS (S [88]) (S c) && (f || z)))
def mnZ (c : List Nat) (f z : Bool) : Int := if (inS (S [88]) (S c) && (f || z)) = true then Builtin.bitOr (4 * bI (inS (S [114]) (S c)) + 2 * bI (inS (S [119]) (S c)) + bI (inS (S [120]) (S c))) 1 else 4 * bI (inS (S [114]) (S c)) + 2 * bI (inS (S [119]) (S c)) + bI (inS (S [120]) (S c))
theorem nZ : ∀ c ∈ whatO, ∀ f z z1 z2 : Bool, mnZ c f z = 4 * bI (tkZ c 114 f z1) + 2 * bI (tkZ c 119 f z2) + bI (tkZ c 120 f z) := by decide +kernel
theorem n73 : ∀ m : Nat, m < 512 → decide (0 < Builtin.bitAnd m 73) = decide (0 < patI m 0) := by decide +kernel
theorem nK : ∀ p : Nat, p < 8 → bI (decide (0 < Builtin.bitAnd p 4)) = bt p 2 ∧ bI (decide (0 < Builtin.bitAnd p 2)) = bt p 1 ∧ bI (decide (0 < Builtin.bitAnd p 1)) = bt p 0 := by decide +kernel
theorem what3 : ∀ c ∈ whatL, c = [117] ∨ c = [103] ∨ c = [111] ∨ (c ∈ whatO ∧ bitK c = none ∧ c ≠ [117] ∧ c ≠ [103] ∧ c ≠ [111]) := by decide +kernel
theorem nE1 {c : List Nat} (hc : c ∈ whatL) {f : Bool} {m r w x : Nat} (hm : m < 512) (hr : r < 8) (hw : w < 8) (hx : x < 8) (em : (m : Int) = C3 r w x) (ex : patI m 0 = x) :
    meantI c f m = 4 * bI (takesB c 114 r f) + 2 * bI (takesB c 119 w f) + bI (takesB c 120 x f) := by
  obtain ⟨g1, g2, g3⟩ := nG r hr w hw x hx
  rw [← em] at g1 g2 g3
  rcases what3 c hc with rfl | rfl | rfl | ⟨h1, h2, h3, h4, h5⟩
  · show digU m = 4 * bI (decide (0 < Builtin.bitAnd r 4)) + 2 * bI (decide (0 < Builtin.bitAnd w 4)) + bI (decide (0 < Builtin.bitAnd x 4))
    rw [(nK r hr).1, (nK w hw).1, (nK x hx).1, g1]
  · show digG m = 4 * bI (decide (0 < Builtin.bitAnd r 2)) + 2 * bI (decide (0 < Builtin.bitAnd w 2)) + bI (decide (0 < Builtin.bitAnd x 2))
    rw [(nK r hr).2.1, (nK w hw).2.1, (nK x hx).2.1, g2]
  · show digO m = 4 * bI (decide (0 < Builtin.bitAnd r 1)) + 2 * bI (decide (0 < Builtin.bitAnd w 1)) + bI (decide (0 < Builtin.bitAnd x 1))
    rw [(nK r hr).2.2, (nK w hw).2.2, (nK x hx).2.2, g3]
  · unfold takesB meantI
    rw [h2, if_neg h3, if_neg h4, if_neg h5, n73 m hm, ex]
    exact nZ c h1 f _ _ _
theorem call_done {a b c : List Nat} {f : Bool} {m : Int} (ha : a ∈ whoL) (hb : b ∈ signL) (hc : c ∈ whatL) (hm : 0 ≤ m ∧ m ≤ 511) : callI a b c f m = doneI a b c f m := by
  obtain ⟨k, hk, rfl⟩ : ∃ k : Nat, k < 512 ∧ m = k := ⟨m.toNat, by omega, by omega⟩
  obtain ⟨r, hr, er⟩ := nat8 (pat_range k 2)
  obtain ⟨w, hw, ew⟩ := nat8 (pat_range k 1)
  obtain ⟨x, hx, ex⟩ := nat8 (pat_range k 0)
  have e3 : (k : Int) = C3 r w x := by rw [← er, ← ew, ← ex]; exact nA k hk
  have e1 := nE1 (f := f) hc hk hr hw hx e3 ex
  obtain ⟨y1, hy1, ey1⟩ := nat8 (moved_range (b := b) (c := c) (l := 114) (p := r) (f := f) ha (by omega))
  obtain ⟨y2, hy2, ey2⟩ := nat8 (moved_range (b := b) (c := c) (l := 119) (p := w) (f := f) ha (by omega))
  obtain ⟨y3, hy3, ey3⟩ := nat8 (moved_range (b := b) (c := c) (l := 120) (p := x) (f := f) ha (by omega))
  have m1 : mvB a b (takesB c 114 r f) r = y1 := ey1
  have m2 : mvB a b (takesB c 119 w f) w = y2 := ey2
  have m3 : mvB a b (takesB c 120 x f) x = y3 := ey3
  have e2 := nE2 ha hb hr hw hx (takesB c 114 r f) (takesB c 119 w f) (takesB c 120 x f) ⟨y1, hy1, m1⟩ ⟨y2, hy2, m2⟩ ⟨y3, hy3, m3⟩
  rw [← e1, ← e3] at e2
  unfold doneI
  rw [e2, m1, m2, m3]
  unfold callI stepI
  rw [e3, (nB r hr w hw x hx).1, ey1, (nC r hr w hw x hx y1 hy1).1, (nB y1 hy1 w hw x hx).2.1, ey2, (nC y1 hy1 w hw x hx y2 hy2).2.1, (nB y1 hy1 y2 hy2 x hx).2.2, ey3, (nC y1 hy1 y2 hy2 x hx y3 hy3).2.2]
theorem call1 : callI [117] [61] [114, 119, 88] false 417 = 481 := by decide +kernel
theorem call2 : callI [117] [61] [114, 119, 88] false 416 = 416 := by decide +kernel
theorem call3 : callI [117] [61] [114, 119, 88] false 64 = 448 := by decide +kernel
theorem call4 : callI [117, 103, 111] [45] [] true 493 = 493 := by decide +kernel
end U

namespace U
open PySem PySem.Spec PyProof.Rows L2
variable {K : PySem.W.Frag} {w : World} {n : Nat} {H : Hp} {Q : VK} {E : XK} {p : Addr}
theorem gv7 : hd.pg.gv K s_SIGNS_modes = some (.str (S [114, 119, 120, 114, 119, 120, 114, 119, 120])) := rfl
/-- the sign at a place -/
def sgn (b : Int) (i : Nat) (c : Nat) : List Nat := if Builtin.bitAnd (b / 2 ^ (8 - (i : Int)).toNat) 1 != 0 then [c] else [45]
def strM (b : Int) : List Str := (([114, 119, 120, 114, 119, 120, 114, 119, 120] : List Nat).zipIdx.map fun q => S (sgn b q.2 q.1))
theorem c_Mode_str {m : Addr} {b : Int} (hm : IsM K H m b) (hn : 1 ≤ n) (hl : ((strM b).map (·.length)).sum + 9 * 0 ≤ 16777216) (h : ∀ H', Ext H H' → Q (.str (Txt.join (S []) (strM b))) H') : run hd.pg K w n s_Mode___str__ [.ref m] H Q E := by
  obtain ⟨dx, hm⟩ := hm
  refine run_at f_Mode___str__ hn rfl ?_
  simp only [d_Mode___str__, b_Mode___str__, L2.start, gv7, cps_S, e_k, e_v, e_g, e_bop, e_uop, e_not, e_and, e_or, e_ite, e_cmp, e_cmp2, e_lst, e_tup, e_dic, e_call, e_mk, e_bi, e_isi, e_meth, e_bm, e_icall, e_ostr, e_att, e_ix, e_sl, e_lc, t_v, t_isi, t_call, t_meth, t_bop, t_bi, t_att, t_not, t_and, t_or, t_cmp, t_cmp2, trQ_bl, blQ_bl, a_nil', a_cons, s_nil, s_cons, s_set, s_setLc, s_par, s_expr, s_ret, s_retN, s_if, s_for, s_never, s_pass, s_brk, s_cont, g_v', g_tup, g_sub, g_att, gs_nil, gs_cons, gs_tup, i_L, i_T, i_S, i_R1, i_ES, i_E, i_Z, p_nil, p_pair, o_nil, o_k, x_K, x_w, x_fn, x_gv, x_tabs, x_mth, x_prp, x_fld, x_isi, x_kwo, isi_int, isi_str, isi_bl, isi_non, ii1, ii2, ii3, ii4, ii5, ii6, ii7, r_add, r_sub, r_mul, r_div, r_mod, r_pow, r_shl, r_shr, r_and, r_or, r_xor, r_neg, r_inv, r_lt, r_le, r_gt, r_ge, r_eqI, r_neI, r_eqS, r_neS, r_inS, r_niS, List.getElem?_cons_zero, List.getElem?_cons_succ, List.set_cons_zero, List.set_cons_succ, List.map_cons, List.map_nil, List.length_cons, List.length_nil, Nat.reduceAdd, Nat.reduceSub, List.replicate_succ, List.replicate_zero, List.cons_append, List.nil_append, List.append_nil, Bool.not_true, Bool.not_false, if_true, if_false, ite_true, ite_false, Bool.false_eq_true, Bool.true_eq_false, reduceIte]
  refine ⟨rfl, fun D hD => ?_⟩
  refine lcs_inv (H := H) (f := fun | .t [.int i, .str ⟨⟨[c]⟩⟩] => some (.str (S (sgn b i.toNat c))) | _ => none) (fun _ _ => trivial) _ [] _ (Ext.new hD) upd_same ?_ (by decide) ?_
  · intro x hx H' acc nx x1 e1 hl hq
    obtain ⟨⟨c, i⟩, hc, rfl⟩ := List.mem_map.mp hx
    intro T hT
    have hne : D ≠ T := ne_of_none e1 hT
    have hi : i < 9 := by
      have := List.mem_zipIdx hc
      simp at this
      omega
    have x2 : Ext H (upd H' T (.tup [.int (i : Nat), .str (S [c])])) := x1.upd_of hT
    simp only [for_nil, for_v, for_t, lc_nil, lc_v, lc_t, lc_turn0, lc_turn1, wipe_nil, wipe_cons, true_and, and_true, upd_same, upd_upd, Option.some.injEq, HO.lst.injEq, HO.tup.injEq, HO.dK.injEq, exists_eq_left', List.singleton_append, Int.cast_ofNat_Int, e_k, e_v, e_g, e_bop, e_uop, e_not, e_and, e_or, e_ite, e_cmp, e_cmp2, e_lst, e_tup, e_dic, e_call, e_mk, e_bi, e_isi, e_meth, e_bm, e_icall, e_ostr, e_att, e_ix, e_sl, e_lc, t_v, t_isi, t_call, t_meth, t_bop, t_bi, t_att, t_not, t_and, t_or, t_cmp, t_cmp2, trQ_bl, blQ_bl, a_nil', a_cons, s_nil, s_cons, s_set, s_setLc, s_par, s_expr, s_ret, s_retN, s_if, s_for, s_never, s_pass, s_brk, s_cont, g_v', g_tup, g_sub, g_att, gs_nil, gs_cons, gs_tup, i_L, i_T, i_S, i_R1, i_ES, i_E, i_Z, p_nil, p_pair, o_nil, o_k, x_K, x_w, x_fn, x_gv, x_tabs, x_mth, x_prp, x_fld, x_isi, x_kwo, isi_int, isi_str, isi_bl, isi_non, ii1, ii2, ii3, ii4, ii5, ii6, ii7, r_add, r_sub, r_mul, r_div, r_mod, r_pow, r_shl, r_shr, r_and, r_or, r_xor, r_neg, r_inv, r_lt, r_le, r_gt, r_ge, r_eqI, r_neI, r_eqS, r_neS, r_inS, r_niS, List.getElem?_cons_zero, List.getElem?_cons_succ, List.set_cons_zero, List.set_cons_succ, List.map_cons, List.map_nil, List.length_cons, List.length_nil, Nat.reduceAdd, Nat.reduceSub, List.replicate_succ, List.replicate_zero, List.cons_append, List.nil_append, List.append_nil, Bool.not_true, Bool.not_false, if_true, if_false, ite_true, ite_false, Bool.false_eq_true, Bool.true_eq_false, reduceIte]
    refine ⟨rfl, x_fldv (x2.get hm) rfl rfl ?_⟩
    simp only [e_k, e_v, e_g, e_bop, e_uop, e_not, e_and, e_or, e_ite, e_cmp, e_cmp2, e_lst, e_tup, e_dic, e_call, e_mk, e_bi, e_isi, e_meth, e_bm, e_icall, e_ostr, e_att, e_ix, e_sl, e_lc, t_v, t_isi, t_call, t_meth, t_bop, t_bi, t_att, t_not, t_and, t_or, t_cmp, t_cmp2, trQ_bl, blQ_bl, a_nil', a_cons, s_nil, s_cons, s_set, s_setLc, s_par, s_expr, s_ret, s_retN, s_if, s_for, s_never, s_pass, s_brk, s_cont, g_v', g_tup, g_sub, g_att, gs_nil, gs_cons, gs_tup, i_L, i_T, i_S, i_R1, i_ES, i_E, i_Z, p_nil, p_pair, o_nil, o_k, x_K, x_w, x_fn, x_gv, x_tabs, x_mth, x_prp, x_fld, x_isi, x_kwo, isi_int, isi_str, isi_bl, isi_non, ii1, ii2, ii3, ii4, ii5, ii6, ii7, r_add, r_sub, r_mul, r_div, r_mod, r_pow, r_shl, r_shr, r_and, r_or, r_xor, r_neg, r_inv, r_lt, r_le, r_gt, r_ge, r_eqI, r_neI, r_eqS, r_neS, r_inS, r_niS, List.getElem?_cons_zero, List.getElem?_cons_succ, List.set_cons_zero, List.set_cons_succ, List.map_cons, List.map_nil, List.length_cons, List.length_nil, Nat.reduceAdd, Nat.reduceSub, List.replicate_succ, List.replicate_zero, List.cons_append, List.nil_append, List.append_nil, Bool.not_true, Bool.not_false, if_true, if_false, ite_true, ite_false, Bool.false_eq_true, Bool.true_eq_false, reduceIte]
    refine ⟨by omega, trQ_int ?_⟩
    have fin : ∀ c', sgn b i c = c' → ∃ acc, upd H' T (.tup [.int (i : Nat), .str (S [c])]) D = some (.lst acc) ∧ acc.length < sizeLine ∧ nx (upd (upd H' T (.tup [.int (i : Nat), .str (S [c])])) D (.lst (acc ++ [.str (S c')]))) := by
      intro c' ec
      refine ⟨acc, by rw [upd_ne hne]; exact e1, hl, hq _ (x2.put hD) ?_⟩
      rw [upd_same, ← ec]
      rfl
    unfold sgn at fin
    cases e : (Builtin.bitAnd (b / 2 ^ (8 - (i : Int)).toNat) 1 != 0) with
    | true =>
      rw [e] at fin
      try simp only [for_nil, for_v, for_t, lc_nil, lc_v, lc_t, lc_turn0, lc_turn1, wipe_nil, wipe_cons, true_and, and_true, upd_same, upd_upd, Option.some.injEq, HO.lst.injEq, HO.tup.injEq, HO.dK.injEq, exists_eq_left', List.singleton_append, Int.cast_ofNat_Int, and1, e_k, e_v, e_g, e_bop, e_uop, e_not, e_and, e_or, e_ite, e_cmp, e_cmp2, e_lst, e_tup, e_dic, e_call, e_mk, e_bi, e_isi, e_meth, e_bm, e_icall, e_ostr, e_att, e_ix, e_sl, e_lc, t_v, t_isi, t_call, t_meth, t_bop, t_bi, t_att, t_not, t_and, t_or, t_cmp, t_cmp2, trQ_bl, blQ_bl, a_nil', a_cons, s_nil, s_cons, s_set, s_setLc, s_par, s_expr, s_ret, s_retN, s_if, s_for, s_never, s_pass, s_brk, s_cont, g_v', g_tup, g_sub, g_att, gs_nil, gs_cons, gs_tup, i_L, i_T, i_S, i_R1, i_ES, i_E, i_Z, p_nil, p_pair, o_nil, o_k, x_K, x_w, x_fn, x_gv, x_tabs, x_mth, x_prp, x_fld, x_isi, x_kwo, isi_int, isi_str, isi_bl, isi_non, ii1, ii2, ii3, ii4, ii5, ii6, ii7, r_add, r_sub, r_mul, r_div, r_mod, r_pow, r_shl, r_shr, r_and, r_or, r_xor, r_neg, r_inv, r_lt, r_le, r_gt, r_ge, r_eqI, r_neI, r_eqS, r_neS, r_inS, r_niS, List.getElem?_cons_zero, List.getElem?_cons_succ, List.set_cons_zero, List.set_cons_succ, List.map_cons, List.map_nil, List.length_cons, List.length_nil, Nat.reduceAdd, Nat.reduceSub, List.replicate_succ, List.replicate_zero, List.cons_append, List.nil_append, List.append_nil, Bool.not_true, Bool.not_false, if_true, if_false, ite_true, ite_false, Bool.false_eq_true, Bool.true_eq_false, reduceIte]
      exact fin _ rfl
    | false =>
      rw [e] at fin
      try simp only [for_nil, for_v, for_t, lc_nil, lc_v, lc_t, lc_turn0, lc_turn1, wipe_nil, wipe_cons, true_and, and_true, upd_same, upd_upd, Option.some.injEq, HO.lst.injEq, HO.tup.injEq, HO.dK.injEq, exists_eq_left', List.singleton_append, Int.cast_ofNat_Int, and1, e_k, e_v, e_g, e_bop, e_uop, e_not, e_and, e_or, e_ite, e_cmp, e_cmp2, e_lst, e_tup, e_dic, e_call, e_mk, e_bi, e_isi, e_meth, e_bm, e_icall, e_ostr, e_att, e_ix, e_sl, e_lc, t_v, t_isi, t_call, t_meth, t_bop, t_bi, t_att, t_not, t_and, t_or, t_cmp, t_cmp2, trQ_bl, blQ_bl, a_nil', a_cons, s_nil, s_cons, s_set, s_setLc, s_par, s_expr, s_ret, s_retN, s_if, s_for, s_never, s_pass, s_brk, s_cont, g_v', g_tup, g_sub, g_att, gs_nil, gs_cons, gs_tup, i_L, i_T, i_S, i_R1, i_ES, i_E, i_Z, p_nil, p_pair, o_nil, o_k, x_K, x_w, x_fn, x_gv, x_tabs, x_mth, x_prp, x_fld, x_isi, x_kwo, isi_int, isi_str, isi_bl, isi_non, ii1, ii2, ii3, ii4, ii5, ii6, ii7, r_add, r_sub, r_mul, r_div, r_mod, r_pow, r_shl, r_shr, r_and, r_or, r_xor, r_neg, r_inv, r_lt, r_le, r_gt, r_ge, r_eqI, r_neI, r_eqS, r_neS, r_inS, r_niS, List.getElem?_cons_zero, List.getElem?_cons_succ, List.set_cons_zero, List.set_cons_succ, List.map_cons, List.map_nil, List.length_cons, List.length_nil, Nat.reduceAdd, Nat.reduceSub, List.replicate_succ, List.replicate_zero, List.cons_append, List.nil_append, List.append_nil, Bool.not_true, Bool.not_false, if_true, if_false, ite_true, ite_false, Bool.false_eq_true, Bool.true_eq_false, reduceIte]
      exact fin _ rfl
  · intro H1 x1 e1
    try simp only [for_nil, for_v, for_t, lc_nil, lc_v, lc_t, lc_turn0, lc_turn1, wipe_nil, wipe_cons, true_and, and_true, upd_same, upd_upd, Option.some.injEq, HO.lst.injEq, HO.tup.injEq, HO.dK.injEq, exists_eq_left', List.singleton_append, Int.cast_ofNat_Int, and1, e_k, e_v, e_g, e_bop, e_uop, e_not, e_and, e_or, e_ite, e_cmp, e_cmp2, e_lst, e_tup, e_dic, e_call, e_mk, e_bi, e_isi, e_meth, e_bm, e_icall, e_ostr, e_att, e_ix, e_sl, e_lc, t_v, t_isi, t_call, t_meth, t_bop, t_bi, t_att, t_not, t_and, t_or, t_cmp, t_cmp2, trQ_bl, blQ_bl, a_nil', a_cons, s_nil, s_cons, s_set, s_setLc, s_par, s_expr, s_ret, s_retN, s_if, s_for, s_never, s_pass, s_brk, s_cont, g_v', g_tup, g_sub, g_att, gs_nil, gs_cons, gs_tup, i_L, i_T, i_S, i_R1, i_ES, i_E, i_Z, p_nil, p_pair, o_nil, o_k, x_K, x_w, x_fn, x_gv, x_tabs, x_mth, x_prp, x_fld, x_isi, x_kwo, isi_int, isi_str, isi_bl, isi_non, ii1, ii2, ii3, ii4, ii5, ii6, ii7, r_add, r_sub, r_mul, r_div, r_mod, r_pow, r_shl, r_shr, r_and, r_or, r_xor, r_neg, r_inv, r_lt, r_le, r_gt, r_ge, r_eqI, r_neI, r_eqS, r_neS, r_inS, r_niS, List.getElem?_cons_zero, List.getElem?_cons_succ, List.set_cons_zero, List.set_cons_succ, List.map_cons, List.map_nil, List.length_cons, List.length_nil, Nat.reduceAdd, Nat.reduceSub, List.replicate_succ, List.replicate_zero, List.cons_append, List.nil_append, List.append_nil, Bool.not_true, Bool.not_false, if_true, if_false, ite_true, ite_false, Bool.false_eq_true, Bool.true_eq_false, reduceIte]
    refine ⟨S [], D, strM b, rfl, rfl, .inl (.inl (.inl ?_)), ?_, h H1 x1⟩
    · rw [e1]
      rfl
    · exact hl
end U

namespace U
open PySem PySem.Spec PyProof.Rows L2
variable {K : PySem.W.Frag} {w : World} {n : Nat} {H : Hp} {Q : VK} {E : XK} {p : Addr}
def forB : I → I
  | .for_ _ _ b => b
  | i => i
def stI : Nat → I → I
  | 0, .cons a _ => a
  | k + 1, .cons _ b => stI k b
  | _, i => i
theorem mthC : hd.pg.mth s_Clause "__call__" = some s_Clause___call__ := by decide +kernel
theorem mthS : hd.pg.mth s_Mode "__str__" = some s_Mode___str__ := by decide +kernel
theorem IsC.at {c : Addr} {x y z : List Nat} (h : IsC K H c x y z) : ∃ dx fs, H c = some (.ins (He.ga K s_Clause) dx fs) := by
  obtain ⟨dx, t, h1, _⟩ := h
  exact ⟨dx, _, h1⟩
/-- a call of a clause -/
theorem ic_pos {c : Addr} {x y z : List Nat} {f : Bool} {m : Int} {u : V} {W : WX} {σ : St} {o a1 a2 : I} (ha : x ∈ whoL) (hb : y ∈ signL) (hc : z ∈ whatL) (hm : 0 ≤ m ∧ m ≤ 511) (hn : 4 ≤ n) (hC : IsC K H c x y z) (hu : u = .int m ∨ ∃ q, u = .ref q ∧ IsM K H q m)
    (ho : ∀ Q H', Q (.ref c) H' → (rd (hd.pg.ctx K w (run hd.pg K w n)) o W).e σ H' Q) (h1 : ∀ Q H', Q u H' → (rd (hd.pg.ctx K w (run hd.pg K w n)) a1 W).e σ H' Q) (h2 : ∀ Q H', Q (.str (S (formL f))) H' → (rd (hd.pg.ctx K w (run hd.pg K w n)) a2 W).e σ H' Q)
    (h : ∀ q H', Ext H H' → IsM K H' q (callI x y z f m) → Q (.ref q) H') : (rd (hd.pg.ctx K w (run hd.pg K w n)) (.icall o (.cons a1 (.cons a2 .nil)) [] .nil) W).e σ H Q := by
  obtain ⟨dx, fs, e⟩ := hC.at
  rw [e_icall]
  refine ho _ _ ⟨s_Clause, ⟨dx, fs, e⟩, ?_⟩
  rw [a_cons]
  refine h1 _ _ ?_
  rw [a_cons]
  refine h2 _ _ ⟨dx, fs, _, e, mthC, ?_⟩
  exact c_call0 ha hb hc hC hm hn hu h
theorem ic_kw {c : Addr} {x y z : List Nat} {f : Bool} {m : Int} {u : V} {W : WX} {σ : St} {o a1 a2 : I} (ha : x ∈ whoL) (hb : y ∈ signL) (hc : z ∈ whatL) (hm : 0 ≤ m ∧ m ≤ 511) (hn : 4 ≤ n) (hC : IsC K H c x y z) (hu : u = .int m ∨ ∃ q, u = .ref q ∧ IsM K H q m)
    (ho : ∀ Q H', Q (.ref c) H' → (rd (hd.pg.ctx K w (run hd.pg K w n)) o W).e σ H' Q) (h1 : ∀ Q H', Q u H' → (rd (hd.pg.ctx K w (run hd.pg K w n)) a1 W).e σ H' Q) (h2 : ∀ Q H', Q (.str (S (formL f))) H' → (rd (hd.pg.ctx K w (run hd.pg K w n)) a2 W).e σ H' Q)
    (h : ∀ q H', Ext H H' → IsM K H' q (callI x y z f m) → Q (.ref q) H') : (rd (hd.pg.ctx K w (run hd.pg K w n)) (.icall o .nil [s_form, s_mode] (.cons a2 (.cons a1 .nil))) W).e σ H Q := by
  obtain ⟨dx, fs, e⟩ := hC.at
  rw [e_icall]
  refine ho _ _ ⟨s_Clause, ⟨dx, fs, e⟩, ?_⟩
  rw [a_nil', a_cons]
  refine h2 _ _ ?_
  rw [a_cons]
  refine h1 _ _ ⟨dx, fs, _, e, mthC, rfl, [0, 2, 1], _, rfl, rfl, ?_⟩
  exact c_call0 ha hb hc hC hm hn hu h
theorem form_ok {x y z : List Nat} {f : Bool} {m : Int} {t c q a p : Addr} {v2 v8 v9 v10 v11 v12 : Option V} {D : Ends} {W : WX} (ha : x ∈ whoL) (hb : y ∈ signL) (hc : z ∈ whatL) (hm : 0 ≤ m ∧ m ≤ 511) (hn : 4 ≤ n) (ht : H t = some (.tup [.str (S x), .str (S y), .str (S z)])) (hC : IsC K H c x y z) (hM : IsM K H q m)
    (hcd : callI x y z f m = doneI x y z f m)
    (h : ∀ H' v8 v9, Ext H H' → D.nx [some (.ref a), some (.ref p), v2, some (.ref t), some (.int m), some (.ref c), some (.ref q), some (.str (S (formL f))), v8, v9, v10, v11, v12] H') :
    (rd (hd.pg.ctx K w (run hd.pg K w n)) (forB (stI 2 (forB (stI 1 b_law)))) W).s D [some (.ref a), some (.ref p), v2, some (.ref t), some (.int m), some (.ref c), some (.ref q), some (.str (S (formL f))), v8, v9, v10, v11, v12] H := by
  simp only [forB, stI, b_law]
  rw [s_cons, s_set, e_call]
  simp only [a_cons, a_nil', e_v, List.getElem?_cons_zero, List.getElem?_cons_succ, x_fn]
  refine c_clause_done ha hb hc ht (by omega) fun H1 x1 => ?_
  simp only [g_v', List.set_cons_zero, List.set_cons_succ]
  rw [s_cons, s_set, e_lst]
  rw [a_cons]
  refine ic_pos (f := f) (u := .ref q) ha hb hc hm hn (hC.ext x1) (.inr ⟨q, rfl, hM.ext x1⟩) (fun _ _ h => h) (fun _ _ h => h) (fun _ _ h => h) fun q1 H2 x2 m1 => ?_
  rw [a_cons]
  have x12 := x1.trans x2
  refine ic_pos (f := f) (u := .int m) ha hb hc hm hn (hC.ext x12) (.inl rfl) (fun _ _ h => h) (fun _ _ h => h) (fun _ _ h => h) fun q2 H3 x3 m2 => ?_
  rw [a_cons]
  have x13 := x12.trans x3
  refine ic_kw (f := f) (u := .ref q) ha hb hc hm hn (hC.ext x13) (.inr ⟨q, rfl, hM.ext x13⟩) (fun _ _ h => h) (fun _ _ h => h) (fun _ _ h => h) fun q3 H4 x4 m3 => ?_
  rw [a_nil']
  refine ⟨(by decide : 3 ≤ sizeLine), fun l hl => ?_⟩
  have x5 := Ext.new (o := .lst [.ref q1, .ref q2, .ref q3]) hl
  have ms : ∀ v ∈ [V.ref q1, V.ref q2, V.ref q3], ∃ r, v = .ref r ∧ IsM K (upd H4 l (.lst [.ref q1, .ref q2, .ref q3])) r (doneI x y z f m) := by
    intro v hv
    rw [← hcd]
    simp only [List.mem_cons, List.not_mem_nil, or_false] at hv
    rcases hv with rfl | rfl | rfl
    · exact ⟨_, rfl, m1.ext (x3.trans (x4.trans x5))⟩
    · exact ⟨_, rfl, m2.ext (x4.trans x5)⟩
    · exact ⟨_, rfl, m3.ext x5⟩
  have el : upd H4 l (.lst [.ref q1, .ref q2, .ref q3]) l = some (.lst [.ref q1, .ref q2, .ref q3]) := upd_same
  obtain ⟨H5, eH5⟩ : ∃ H5, H5 = upd H4 l (.lst [.ref q1, .ref q2, .ref q3]) := ⟨_, rfl⟩
  rw [← eH5] at x5 ms el ⊢
  have x15 := x13.trans (x4.trans x5)
  simp only [g_v', List.set_cons_zero, List.set_cons_succ]
  rw [s_cons, s_if, t_cmp, e_lc, i_L]
  simp only [e_v, List.getElem?_cons_zero, List.getElem?_cons_succ]
  refine ⟨_, .inl (.inl el), fun Dl hD => ?_⟩
  refine lcs_inv (H := H5) (f := fun _ => none) (fun H' x => .inl (.inl (x.get el))) _ [] _ (Ext.new hD) upd_same ?_ (by decide : 0 + 3 ≤ sizeLine) ?_
  · intro i hi H' acc nx x6 e6 hl6 hq
    obtain ⟨v, hv, rfl⟩ := List.mem_map.mp hi
    obtain ⟨r, rfl, mr⟩ := ms v hv
    have mr' := mr.ext x6
    obtain ⟨dx, er⟩ := mr'
    show (rd _ _ _).g _ _ _ _
    simp only [for_nil, for_v, for_t, lc_nil, lc_v, lc_t, lc_turn0, lc_turn1, wipe_nil, wipe_cons, true_and, and_true, upd_same, upd_upd, Option.some.injEq, HO.lst.injEq, HO.tup.injEq, HO.dK.injEq, exists_eq_left', List.singleton_append, Int.cast_ofNat_Int, e_k, e_v, e_g, e_bop, e_uop, e_not, e_and, e_or, e_ite, e_cmp, e_cmp2, e_lst, e_tup, e_dic, e_call, e_mk, e_bi, e_isi, e_meth, e_bm, e_icall, e_ostr, e_att, e_ix, e_sl, e_lc, t_v, t_isi, t_call, t_meth, t_bop, t_bi, t_att, t_not, t_and, t_or, t_cmp, t_cmp2, trQ_bl, blQ_bl, a_nil', a_cons, s_nil, s_cons, s_set, s_setLc, s_par, s_expr, s_ret, s_retN, s_if, s_for, s_never, s_pass, s_brk, s_cont, g_v', g_tup, g_sub, g_att, gs_nil, gs_cons, gs_tup, i_L, i_T, i_S, i_R1, i_ES, i_E, i_Z, p_nil, p_pair, o_nil, o_k, x_K, x_w, x_fn, x_gv, x_tabs, x_mth, x_prp, x_fld, x_isi, x_kwo, isi_int, isi_str, isi_bl, isi_non, ii1, ii2, ii3, ii4, ii5, ii6, ii7, r_add, r_sub, r_mul, r_div, r_mod, r_pow, r_shl, r_shr, r_and, r_or, r_xor, r_neg, r_inv, r_lt, r_le, r_gt, r_ge, r_eqI, r_neI, r_eqS, r_neS, r_inS, r_niS, List.getElem?_cons_zero, List.getElem?_cons_succ, List.set_cons_zero, List.set_cons_succ, List.map_cons, List.map_nil, List.length_cons, List.length_nil, Nat.reduceAdd, Nat.reduceSub, List.replicate_succ, List.replicate_zero, List.cons_append, List.nil_append, List.append_nil, Bool.not_true, Bool.not_false, if_true, if_false, ite_true, ite_false, Bool.false_eq_true, Bool.true_eq_false, reduceIte]
    refine isi_own er rfl ?_
    simp only [e_k, e_v, e_g, e_bop, e_uop, e_not, e_and, e_or, e_ite, e_cmp, e_cmp2, e_lst, e_tup, e_dic, e_call, e_mk, e_bi, e_isi, e_meth, e_bm, e_icall, e_ostr, e_att, e_ix, e_sl, e_lc, t_v, t_isi, t_call, t_meth, t_bop, t_bi, t_att, t_not, t_and, t_or, t_cmp, t_cmp2, trQ_bl, blQ_bl, a_nil', a_cons, s_nil, s_cons, s_set, s_setLc, s_par, s_expr, s_ret, s_retN, s_if, s_for, s_never, s_pass, s_brk, s_cont, g_v', g_tup, g_sub, g_att, gs_nil, gs_cons, gs_tup, i_L, i_T, i_S, i_R1, i_ES, i_E, i_Z, p_nil, p_pair, o_nil, o_k, x_K, x_w, x_fn, x_gv, x_tabs, x_mth, x_prp, x_fld, x_isi, x_kwo, isi_int, isi_str, isi_bl, isi_non, ii1, ii2, ii3, ii4, ii5, ii6, ii7, r_add, r_sub, r_mul, r_div, r_mod, r_pow, r_shl, r_shr, r_and, r_or, r_xor, r_neg, r_inv, r_lt, r_le, r_gt, r_ge, r_eqI, r_neI, r_eqS, r_neS, r_inS, r_niS, List.getElem?_cons_zero, List.getElem?_cons_succ, List.set_cons_zero, List.set_cons_succ, List.map_cons, List.map_nil, List.length_cons, List.length_nil, Nat.reduceAdd, Nat.reduceSub, List.replicate_succ, List.replicate_zero, List.cons_append, List.nil_append, List.append_nil, Bool.not_true, Bool.not_false, if_true, if_false, ite_true, ite_false, Bool.false_eq_true, Bool.true_eq_false, reduceIte]
    refine x_prpv er rfl (c_Mode_number (by omega) er ?_)
    simp only [beq_self_eq_true, e_k, e_v, e_g, e_bop, e_uop, e_not, e_and, e_or, e_ite, e_cmp, e_cmp2, e_lst, e_tup, e_dic, e_call, e_mk, e_bi, e_isi, e_meth, e_bm, e_icall, e_ostr, e_att, e_ix, e_sl, e_lc, t_v, t_isi, t_call, t_meth, t_bop, t_bi, t_att, t_not, t_and, t_or, t_cmp, t_cmp2, trQ_bl, blQ_bl, a_nil', a_cons, s_nil, s_cons, s_set, s_setLc, s_par, s_expr, s_ret, s_retN, s_if, s_for, s_never, s_pass, s_brk, s_cont, g_v', g_tup, g_sub, g_att, gs_nil, gs_cons, gs_tup, i_L, i_T, i_S, i_R1, i_ES, i_E, i_Z, p_nil, p_pair, o_nil, o_k, x_K, x_w, x_fn, x_gv, x_tabs, x_mth, x_prp, x_fld, x_isi, x_kwo, isi_int, isi_str, isi_bl, isi_non, ii1, ii2, ii3, ii4, ii5, ii6, ii7, r_add, r_sub, r_mul, r_div, r_mod, r_pow, r_shl, r_shr, r_and, r_or, r_xor, r_neg, r_inv, r_lt, r_le, r_gt, r_ge, r_eqI, r_neI, r_eqS, r_neS, r_inS, r_niS, List.getElem?_cons_zero, List.getElem?_cons_succ, List.set_cons_zero, List.set_cons_succ, List.map_cons, List.map_nil, List.length_cons, List.length_nil, Nat.reduceAdd, Nat.reduceSub, List.replicate_succ, List.replicate_zero, List.cons_append, List.nil_append, List.append_nil, Bool.not_true, Bool.not_false, if_true, if_false, ite_true, ite_false, Bool.false_eq_true, Bool.true_eq_false, reduceIte]
    refine hq _ x6 ?_
    rw [e6]
    simp
  · intro H6 x6 e6
    rw [e_lst, a_nil']
    refine ⟨(by decide : 0 ≤ sizeLine), fun l2 hl2 => ?_⟩
    have x7 := Ext.new (o := .lst []) hl2
    have e7 : H6 Dl = some (.lst []) := by
      rw [e6]
      simp
    refine r_neD (d := .list []) (e := .list []) rfl (.lst (.inl (.inl (x7.get e7))) .nil) (.lst (.inl (.inl upd_same)) .nil) rfl rfl ?_
    rw [show PyData.eqv (.list []) (.list []) = true from rfl]
    simp only [e_k, e_v, e_g, e_bop, e_uop, e_not, e_and, e_or, e_ite, e_cmp, e_cmp2, e_lst, e_tup, e_dic, e_call, e_mk, e_bi, e_isi, e_meth, e_bm, e_icall, e_ostr, e_att, e_ix, e_sl, e_lc, t_v, t_isi, t_call, t_meth, t_bop, t_bi, t_att, t_not, t_and, t_or, t_cmp, t_cmp2, trQ_bl, blQ_bl, a_nil', a_cons, s_nil, s_cons, s_set, s_setLc, s_par, s_expr, s_ret, s_retN, s_if, s_for, s_never, s_pass, s_brk, s_cont, g_v', g_tup, g_sub, g_att, gs_nil, gs_cons, gs_tup, i_L, i_T, i_S, i_R1, i_ES, i_E, i_Z, p_nil, p_pair, o_nil, o_k, x_K, x_w, x_fn, x_gv, x_tabs, x_mth, x_prp, x_fld, x_isi, x_kwo, isi_int, isi_str, isi_bl, isi_non, ii1, ii2, ii3, ii4, ii5, ii6, ii7, r_add, r_sub, r_mul, r_div, r_mod, r_pow, r_shl, r_shr, r_and, r_or, r_xor, r_neg, r_inv, r_lt, r_le, r_gt, r_ge, r_eqI, r_neI, r_eqS, r_neS, r_inS, r_niS, List.getElem?_cons_zero, List.getElem?_cons_succ, List.set_cons_zero, List.set_cons_succ, List.map_cons, List.map_nil, List.length_cons, List.length_nil, Nat.reduceAdd, Nat.reduceSub, List.replicate_succ, List.replicate_zero, List.cons_append, List.nil_append, List.append_nil, Bool.not_true, Bool.not_false, if_true, if_false, ite_true, ite_false, Bool.false_eq_true, Bool.true_eq_false, reduceIte]
    exact h _ _ _ (x15.trans (x6.trans x7))
end U

namespace U
open PySem PySem.Spec PyProof.Rows L2
variable {K : PySem.W.Frag} {w : World} {n : Nat} {H : Hp} {Q : VK} {E : XK} {p : Addr}
theorem dp3 {a b c : Str} : DpAll K H [.str a, .str b, .str c] [.str a, .str b, .str c] := .cons (.str _) (.cons (.str _) (.cons (.str _) .nil))
theorem eqv3 {a b c : Str} : PyData.eqv (.tuple [.str a, .str b, .str c]) (.tuple [.str a, .str b, .str c]) = true := by simp [PyData.eqv, PyData.eqvAll]
theorem sok : (∀ a ∈ whoL, PyData.strOk (S a) = true) ∧ (∀ a ∈ signL, PyData.strOk (S a) = true) ∧ ∀ a ∈ whatL, PyData.strOk (S a) = true := by decide +kernel
theorem shp3 {a b c : List Nat} (ha : a ∈ whoL) (hb : b ∈ signL) (hc : c ∈ whatL) : SeqAt.shaped (.tuple [.str (S a), .str (S b), .str (S c)]) = true := by
  simp [SeqAt.shaped, PyData.canLay0, PyData.canLayAll0, PyData.depth, PyData.depthAll, sok.1 a ha, sok.2.1 b hb, sok.2.2 c hc]
theorem turn_ok {N : Int} {a p : Addr} {v2 v3 v4 v5 v6 v7 v8 v9 v10 v11 v12 : Option V} {D : Ends} {W : WX} (hP : Pen H p N) (hN : N < 50000) (hn : 5 ≤ n)
    (h : ∀ H' v3 v4 v5 v6 v7 v8 v9, Pen H' p (N + 7) → D.nx [some (.ref a), some (.ref p), v2, v3, v4, v5, v6, v7, v8, v9, v10, v11, v12] H') :
    (rd (hd.pg.ctx K w (run hd.pg K w n)) (forB (stI 1 b_law)) W).s D [some (.ref a), some (.ref p), v2, v3, v4, v5, v6, v7, v8, v9, v10, v11, v12] H := by
  simp only [forB, stI, b_law]
  rw [s_cons, s_par, a_cons, e_call]
  simp only [a_cons, a_nil', e_call, e_v, List.getElem?_cons_zero, List.getElem?_cons_succ, x_fn]
  refine c_clause hP (by omega) (by omega) fun t H1 x y z hx hy hz ht htp p1 x1 => ?_
  refine c_mode p1 (by omega) (by omega) fun m H2 hm p2 x2 => ?_
  have ht2 := x2 t _ htp ht
  refine ⟨_, _, rfl, ?_⟩
  simp only [List.set_cons_zero, List.set_cons_succ]
  rw [s_cons, s_par, a_cons, e_mk]
  simp only [a_cons, a_nil', e_ix, e_k, e_v, e_mk, List.getElem?_cons_zero, List.getElem?_cons_succ, x_fn, x_mth, x_K, x_w, x_tabs]
  refine x_ixT ht2 rfl ?_
  refine x_ixT ht2 rfl ?_
  refine x_ixT ht2 rfl ?_
  refine mk_Clause hx hy hz (by omega) fun c H3 x3 hc => ?_
  refine mk_Mode (by omega) hm fun q H4 x4 hq => ?_
  refine ⟨_, _, rfl, ?_⟩
  simp only [List.set_cons_zero, List.set_cons_succ]
  have ht4 := (x3.trans x4).get ht2
  have hc4 := hc.ext x4
  have p4 := p2.ext (x3.trans x4)
  rw [s_cons, s_for, i_T, e_tup]
  simp only [a_cons, a_nil', e_k]
  refine ⟨(by decide : 2 ≤ sizeLine), fun T hT => ?_⟩
  have x5 := Ext.new (o := .tup [.str (S [102, 105, 108, 101]), .str (S [102, 111, 108, 100, 101, 114])]) hT
  have eT : upd H4 T (.tup [.str (S [102, 105, 108, 101]), .str (S [102, 111, 108, 100, 101, 114])]) T = some (.tup [.str (S [102, 105, 108, 101]), .str (S [102, 111, 108, 100, 101, 114])]) := upd_same
  obtain ⟨H5, eH5⟩ : ∃ H5, H5 = upd H4 T (.tup [.str (S [102, 105, 108, 101]), .str (S [102, 111, 108, 100, 101, 114])]) := ⟨_, rfl⟩
  rw [← eH5] at x5 eT ⊢
  refine ⟨_, .inl (.inl eT), ?_⟩
  rw [List.map_cons, List.map_cons, List.map_nil, for_v]
  refine ⟨.inl (.inl eT), ?_⟩
  simp only [g_v', List.set_cons_zero, List.set_cons_succ]
  refine form_ok (f := false) hx hy hz hm (by omega) (x5.get ht4) (hc4.ext x5) (hq.ext x5) (call_done hx hy hz hm) fun H6 w8 w9 x6 => ?_
  dsimp only
  rw [for_v]
  refine ⟨.inl (.inl (x6.get eT)), ?_⟩
  simp only [g_v', List.set_cons_zero, List.set_cons_succ]
  have x56 := x5.trans x6
  refine form_ok (f := true) hx hy hz hm (by omega) (x56.get ht4) (hc4.ext x56) (hq.ext x56) (call_done hx hy hz hm) fun H7 w8 w9 x7 => ?_
  dsimp only
  rw [for_nil]
  refine ⟨.inl (.inl ((x6.trans x7).get eT)), ?_⟩
  have x57 := x56.trans x7
  have hq7 := hq.ext x57
  obtain ⟨dx, eq⟩ := hq7
  have hc7 := hc4.ext x57
  simp only [e_k, e_v, e_g, e_bop, e_uop, e_not, e_and, e_or, e_ite, e_cmp, e_cmp2, e_lst, e_tup, e_dic, e_call, e_mk, e_bi, e_isi, e_meth, e_bm, e_icall, e_ostr, e_att, e_ix, e_sl, e_lc, t_v, t_isi, t_call, t_meth, t_bop, t_bi, t_att, t_not, t_and, t_or, t_cmp, t_cmp2, trQ_bl, blQ_bl, a_nil', a_cons, s_nil, s_cons, s_set, s_setLc, s_par, s_expr, s_ret, s_retN, s_if, s_for, s_never, s_pass, s_brk, s_cont, g_v', g_tup, g_sub, g_att, gs_nil, gs_cons, gs_tup, i_L, i_T, i_S, i_R1, i_ES, i_E, i_Z, p_nil, p_pair, o_nil, o_k, x_K, x_w, x_fn, x_gv, x_tabs, x_mth, x_prp, x_fld, x_isi, x_kwo, isi_int, isi_str, isi_bl, isi_non, ii1, ii2, ii3, ii4, ii5, ii6, ii7, r_add, r_sub, r_mul, r_div, r_mod, r_pow, r_shl, r_shr, r_and, r_or, r_xor, r_neg, r_inv, r_lt, r_le, r_gt, r_ge, r_eqI, r_neI, r_eqS, r_neS, r_inS, r_niS, List.getElem?_cons_zero, List.getElem?_cons_succ, List.set_cons_zero, List.set_cons_succ, List.map_cons, List.map_nil, List.length_cons, List.length_nil, Nat.reduceAdd, Nat.reduceSub, List.replicate_succ, List.replicate_zero, List.cons_append, List.nil_append, List.append_nil, Bool.not_true, Bool.not_false, if_true, if_false, ite_true, ite_false, Bool.false_eq_true, Bool.true_eq_false, reduceIte]
  refine x_prpv eq rfl (c_Mode_number (by omega) eq ?_)
  simp only [beq_self_eq_true, e_k, e_v, e_g, e_bop, e_uop, e_not, e_and, e_or, e_ite, e_cmp, e_cmp2, e_lst, e_tup, e_dic, e_call, e_mk, e_bi, e_isi, e_meth, e_bm, e_icall, e_ostr, e_att, e_ix, e_sl, e_lc, t_v, t_isi, t_call, t_meth, t_bop, t_bi, t_att, t_not, t_and, t_or, t_cmp, t_cmp2, trQ_bl, blQ_bl, a_nil', a_cons, s_nil, s_cons, s_set, s_setLc, s_par, s_expr, s_ret, s_retN, s_if, s_for, s_never, s_pass, s_brk, s_cont, g_v', g_tup, g_sub, g_att, gs_nil, gs_cons, gs_tup, i_L, i_T, i_S, i_R1, i_ES, i_E, i_Z, p_nil, p_pair, o_nil, o_k, x_K, x_w, x_fn, x_gv, x_tabs, x_mth, x_prp, x_fld, x_isi, x_kwo, isi_int, isi_str, isi_bl, isi_non, ii1, ii2, ii3, ii4, ii5, ii6, ii7, r_add, r_sub, r_mul, r_div, r_mod, r_pow, r_shl, r_shr, r_and, r_or, r_xor, r_neg, r_inv, r_lt, r_le, r_gt, r_ge, r_eqI, r_neI, r_eqS, r_neS, r_inS, r_niS, List.getElem?_cons_zero, List.getElem?_cons_succ, List.set_cons_zero, List.set_cons_succ, List.map_cons, List.map_nil, List.length_cons, List.length_nil, Nat.reduceAdd, Nat.reduceSub, List.replicate_succ, List.replicate_zero, List.cons_append, List.nil_append, List.append_nil, Bool.not_true, Bool.not_false, if_true, if_false, ite_true, ite_false, Bool.false_eq_true, Bool.true_eq_false, reduceIte]
  refine p_who hc7 (c_who hc7 (by omega) ?_)
  refine p_sign hc7 (c_sign hc7 (by omega) ?_)
  refine p_what hc7 (c_what hc7 (by omega) ?_)
  refine ⟨(by decide : 3 ≤ sizeLine), fun T2 hT2 => ?_⟩
  have x8 := Ext.new (o := .tup [.str (S x), .str (S y), .str (S z)]) hT2
  refine r_neD rfl (.tup (.inl (.inl upd_same)) dp3) (.tup (.inl (.inl ((x57.trans x8).get ht4))) dp3) (shp3 hx hy hz) (shp3 hx hy hz) ?_
  rw [eqv3]
  simp only [e_k, e_v, e_g, e_bop, e_uop, e_not, e_and, e_or, e_ite, e_cmp, e_cmp2, e_lst, e_tup, e_dic, e_call, e_mk, e_bi, e_isi, e_meth, e_bm, e_icall, e_ostr, e_att, e_ix, e_sl, e_lc, t_v, t_isi, t_call, t_meth, t_bop, t_bi, t_att, t_not, t_and, t_or, t_cmp, t_cmp2, trQ_bl, blQ_bl, a_nil', a_cons, s_nil, s_cons, s_set, s_setLc, s_par, s_expr, s_ret, s_retN, s_if, s_for, s_never, s_pass, s_brk, s_cont, g_v', g_tup, g_sub, g_att, gs_nil, gs_cons, gs_tup, i_L, i_T, i_S, i_R1, i_ES, i_E, i_Z, p_nil, p_pair, o_nil, o_k, x_K, x_w, x_fn, x_gv, x_tabs, x_mth, x_prp, x_fld, x_isi, x_kwo, isi_int, isi_str, isi_bl, isi_non, ii1, ii2, ii3, ii4, ii5, ii6, ii7, r_add, r_sub, r_mul, r_div, r_mod, r_pow, r_shl, r_shr, r_and, r_or, r_xor, r_neg, r_inv, r_lt, r_le, r_gt, r_ge, r_eqI, r_neI, r_eqS, r_neS, r_inS, r_niS, List.getElem?_cons_zero, List.getElem?_cons_succ, List.set_cons_zero, List.set_cons_succ, List.map_cons, List.map_nil, List.length_cons, List.length_nil, Nat.reduceAdd, Nat.reduceSub, List.replicate_succ, List.replicate_zero, List.cons_append, List.nil_append, List.append_nil, Bool.not_true, Bool.not_false, if_true, if_false, ite_true, ite_false, Bool.false_eq_true, Bool.true_eq_false, reduceIte]
  exact h _ _ _ _ _ _ _ _ ((p4.ext (x57.trans x8)).ge (by omega))
end U

namespace U
open PySem PySem.Spec PyProof.Rows L2
variable {K : PySem.W.Frag} {w : World} {n : Nat} {H : Hp} {Q : VK} {E : XK} {p : Addr}
theorem ic_gen {x y z : List Nat} {f : Bool} {m : Int} {W : WX} {σ : St} {o a1 a2 : I} (ha : x ∈ whoL) (hb : y ∈ signL) (hc : z ∈ whatL) (hm : 0 ≤ m ∧ m ≤ 511) (hn : 4 ≤ n)
    (ho : ∀ Q : VK, (∀ c H', Ext H H' → IsC K H' c x y z → Q (.ref c) H') → (rd (hd.pg.ctx K w (run hd.pg K w n)) o W).e σ H Q)
    (h1 : ∀ (Q : VK) H1, Ext H H1 → (∀ u H', Ext H1 H' → (u = .int m ∨ ∃ q, u = .ref q ∧ IsM K H' q m) → Q u H') → (rd (hd.pg.ctx K w (run hd.pg K w n)) a1 W).e σ H1 Q)
    (h2 : ∀ (Q : VK) H', Q (.str (S (formL f))) H' → (rd (hd.pg.ctx K w (run hd.pg K w n)) a2 W).e σ H' Q)
    (h : ∀ q H', Ext H H' → IsM K H' q (callI x y z f m) → Q (.ref q) H') : (rd (hd.pg.ctx K w (run hd.pg K w n)) (.icall o (.cons a1 (.cons a2 .nil)) [] .nil) W).e σ H Q := by
  rw [e_icall]
  refine ho _ fun c H1 x1 hC => ?_
  obtain ⟨dx, fs, e⟩ := hC.at
  refine ⟨s_Clause, ⟨dx, fs, e⟩, ?_⟩
  rw [a_cons]
  refine h1 _ H1 x1 fun u H2 x2 hu => ?_
  rw [a_cons]
  refine h2 _ _ ⟨dx, fs, _, x2.get e, mthC, ?_⟩
  exact c_call0 ha hb hc (hC.ext x2) hm hn hu fun q H3 x3 hq => h q H3 (x1.trans (x2.trans x3)) hq
theorem mkM {m : Int} {W : WX} {σ : St} (hn : 2 ≤ n) (hm : 0 ≤ m ∧ m ≤ 511) (Q : VK) (h : ∀ u H', Ext H H' → (u = .int m ∨ ∃ q, u = .ref q ∧ IsM K H' q m) → Q u H') : (rd (hd.pg.ctx K w (run hd.pg K w n)) (.mk s_Mode (.cons (.k (.int m)) .nil)) W).e σ H Q := by
  rw [e_mk, a_cons, e_k, a_nil']
  exact mk_Mode hn hm fun q H' x hq => h _ H' x (.inr ⟨q, rfl, hq⟩)
theorem ostr_of {m : Int} {z : Str} {W : WX} {σ : St} {a : I} (hn : 1 ≤ n) (hl : ((strM m).map (·.length)).sum + 9 * 0 ≤ 16777216) (hz : Txt.join (S []) (strM m) = z)
    (ha : ∀ Q : VK, (∀ q H', Ext H H' → IsM K H' q m → Q (.ref q) H') → (rd (hd.pg.ctx K w (run hd.pg K w n)) a W).e σ H Q) (h : ∀ H', Ext H H' → Q (.str z) H') : (rd (hd.pg.ctx K w (run hd.pg K w n)) (.ostr a) W).e σ H Q := by
  rw [e_ostr]
  refine ha _ fun q H' x hq => ?_
  have hq' := hq
  obtain ⟨dx, e⟩ := hq
  refine ⟨s_Mode, dx, _, _, e, mthS, c_Mode_str hq' hn hl fun H2 x2 => ?_⟩
  rw [hz]
  exact h H2 (x.trans x2)
/-- the last three statements -/
theorem law_tail {W : WX} {D : Ends} {v1 v2 v3 v4 v5 v6 v7 v8 v9 v10 v11 v12 : Option V} {v0 : Option V} (hn : 5 ≤ n) (h : ∀ H', D.rt (.bl true) H') :
    (rd (hd.pg.ctx K w (run hd.pg K w n)) (tailI 2 b_law) W).s D [v0, v1, v2, v3, v4, v5, v6, v7, v8, v9, v10, v11, v12] H := by
  simp only [tailI, b_law]
  rw [s_cons, s_set, e_mk]
  simp only [a_cons, a_nil', e_k]
  refine mk_Clause (n := n) (by decide) (by decide) (by decide) (by omega) fun c H1 x1 hc => ?_
  simp only [g_v', List.set_cons_zero, List.set_cons_succ]
  rw [s_cons, s_set, e_lst, a_cons]
  refine ostr_of (m := 481) (z := S [114, 119, 120, 114, 45, 45, 45, 45, 120]) (by omega) (by decide +kernel) (by decide +kernel) (fun Q h => ?_) fun H3 x3 => ?_
  · refine ic_gen (f := false) (m := 417) (x := [117]) (y := [61]) (z := [114, 119, 88]) (by decide) (by decide) (by decide) (by decide) (by omega) (fun _ h => h _ _ Ext.refl hc) (fun Q H' _ h => mkM (by omega) (by decide) Q h) (fun _ _ h => h) fun q H x m => ?_
    rw [call1] at m
    exact h q H x m
  have hc3 := hc.ext x3
  rw [a_cons]
  refine ostr_of (m := 416) (z := S [114, 119, 45, 114, 45, 45, 45, 45, 45]) (by omega) (by decide +kernel) (by decide +kernel) (fun Q h => ?_) fun H5 x5 => ?_
  · refine ic_gen (f := false) (m := 416) (x := [117]) (y := [61]) (z := [114, 119, 88]) (by decide) (by decide) (by decide) (by decide) (by omega) (fun _ h => h _ _ Ext.refl hc3) (fun Q H' _ h => mkM (by omega) (by decide) Q h) (fun _ _ h => h) fun q H x m => ?_
    rw [call2] at m
    exact h q H x m
  have hc5 := hc3.ext x5
  rw [a_cons]
  refine ostr_of (m := 448) (z := S [114, 119, 120, 45, 45, 45, 45, 45, 45]) (by omega) (by decide +kernel) (by decide +kernel) (fun Q h => ?_) fun H7 x7 => ?_
  · refine ic_gen (f := false) (m := 64) (x := [117]) (y := [61]) (z := [114, 119, 88]) (by decide) (by decide) (by decide) (by decide) (by omega) (fun _ h => h _ _ Ext.refl hc5) (fun Q H' _ h => mkM (by omega) (by decide) Q h) (fun _ _ h => h) fun q H x m => ?_
    rw [call3] at m
    exact h q H x m
  rw [a_nil']
  refine ⟨(by decide : 3 ≤ sizeLine), fun l hl => ?_⟩
  simp only [g_v', List.set_cons_zero, List.set_cons_succ]
  rw [s_cons, s_ret, e_and, e_cmp]
  simp only [e_v, e_lst, a_cons, a_nil', e_k, List.getElem?_cons_zero, List.getElem?_cons_succ, x_K, x_w, x_tabs]
  refine ⟨(by decide : 3 ≤ sizeLine), fun l2 hl2 => ?_⟩
  have x8 := Ext.new (o := .lst [.str (S [114, 119, 120, 114, 45, 45, 45, 45, 120]), .str (S [114, 119, 45, 114, 45, 45, 45, 45, 45]), .str (S [114, 119, 120, 45, 45, 45, 45, 45, 45])]) hl2
  refine r_eqD rfl (.lst (.inl (.inl (x8.get upd_same))) dp3) (.lst (.inl (.inl upd_same)) dp3) (by decide +kernel) (by decide +kernel) ?_
  rw [show PyData.eqv _ _ = true from by decide +kernel]
  simp only [if_true]
  rw [e_cmp, e_att]
  refine ic_gen (f := true) (m := 493) (x := [117, 103, 111]) (y := [45]) (z := []) (by decide) (by decide) (by decide) (by decide) (by omega) (fun Q h => ?_) (fun Q H' _ h => h _ _ Ext.refl (.inl rfl)) (fun _ _ h => h) fun q4 H8 x8 m4 => ?_
  · rw [e_mk]
    simp only [a_cons, a_nil', e_k]
    exact mk_Clause (n := n) (by decide) (by decide) (by decide) (by omega) fun c H1 x1 hc => h c H1 x1 hc
  · rw [call4] at m4
    obtain ⟨dx, e4⟩ := m4
    refine x_prpv e4 rfl (c_Mode_number (by omega) e4 ?_)
    simp only [beq_self_eq_true, e_k, e_v, e_g, e_bop, e_uop, e_not, e_and, e_or, e_ite, e_cmp, e_cmp2, e_lst, e_tup, e_dic, e_call, e_mk, e_bi, e_isi, e_meth, e_bm, e_icall, e_ostr, e_att, e_ix, e_sl, e_lc, t_v, t_isi, t_call, t_meth, t_bop, t_bi, t_att, t_not, t_and, t_or, t_cmp, t_cmp2, trQ_bl, blQ_bl, a_nil', a_cons, s_nil, s_cons, s_set, s_setLc, s_par, s_expr, s_ret, s_retN, s_if, s_for, s_never, s_pass, s_brk, s_cont, g_v', g_tup, g_sub, g_att, gs_nil, gs_cons, gs_tup, i_L, i_T, i_S, i_R1, i_ES, i_E, i_Z, p_nil, p_pair, o_nil, o_k, x_K, x_w, x_fn, x_gv, x_tabs, x_mth, x_prp, x_fld, x_isi, x_kwo, isi_int, isi_str, isi_bl, isi_non, ii1, ii2, ii3, ii4, ii5, ii6, ii7, r_add, r_sub, r_mul, r_div, r_mod, r_pow, r_shl, r_shr, r_and, r_or, r_xor, r_neg, r_inv, r_lt, r_le, r_gt, r_ge, r_eqI, r_neI, r_eqS, r_neS, r_inS, r_niS, List.getElem?_cons_zero, List.getElem?_cons_succ, List.set_cons_zero, List.set_cons_succ, List.map_cons, List.map_nil, List.length_cons, List.length_nil, Nat.reduceAdd, Nat.reduceSub, List.replicate_succ, List.replicate_zero, List.cons_append, List.nil_append, List.append_nil, Bool.not_true, Bool.not_false, if_true, if_false, ite_true, ite_false, Bool.false_eq_true, Bool.true_eq_false, reduceIte]
    exact h _
/-- ahead of each turn -/
def TI (a p : Addr) (l : List It1) (σ : St) (H : Hp) : Prop := (∀ i ∈ l, ∃ v, i = .v v) ∧ l.length ≤ 16 ∧ Pen H p (7 * (16 - l.length)) ∧ ∃ v2 v3 v4 v5 v6 v7 v8 v9 v10 v11 v12, σ = [some (.ref a), some (.ref p), v2, v3, v4, v5, v6, v7, v8, v9, v10, v11, v12]
theorem law_run {a : Addr} {ns : List Int} (ha : SqL K H a (ns.map V.int)) (hn : 6 ≤ n) (h : ∀ H', Q (.bl true) H') : run hd.pg K w n s_law [.ref a] H Q E := by
  refine run_at f_law (by omega) rfl ?_
  show (rd _ b_law _).s _ _ _
  have tl : ∀ (H : Hp) (v0 v1 v2 v3 v4 v5 v6 v7 v8 v9 v10 v11 v12 : Option V), (rd (hd.pg.ctx K w (run hd.pg K w (n - 1))) (tailI 2 b_law) fun cls dd _ H' => E cls dd H').s { nx := fun _ H' => Q .non H', rt := Q } [v0, v1, v2, v3, v4, v5, v6, v7, v8, v9, v10, v11, v12] H :=
    fun H v0 v1 v2 v3 v4 v5 v6 v7 v8 v9 v10 v11 v12 => law_tail (by omega) h
  rw [s_split 2 (by rfl)]
  generalize (rd (hd.pg.ctx K w (run hd.pg K w (n - 1))) (tailI 2 b_law) fun cls dd _ H' => E cls dd H').s { nx := fun _ H' => Q .non H', rt := Q } = nx at tl ⊢
  have tr := @turn_ok K w (n - 1)
  simp only [forB, stI, b_law] at tr
  simp only [headI, b_law]
  rw [s_cons, s_set, e_call]
  simp only [d_law, L2.start, a_cons, a_nil', e_v, x_fn, List.getElem?_cons_zero, List.getElem?_cons_succ, List.map_cons, List.map_nil, List.length_cons, List.length_nil, Nat.reduceAdd, Nat.reduceSub, List.replicate_succ, List.replicate_zero, List.cons_append, List.nil_append]
  refine c_pen ha (by omega) fun p H1 hp x1 hP => ?_
  simp only [g_v', List.set_cons_zero, List.set_cons_succ]
  rw [s_cons, s_for, i_R1, e_k]
  refine ⟨by decide, by decide, ?_⟩
  refine fors_inv (TI a p) (fun _ _ _ _ => trivial) _ _ _ ⟨?_, by decide, by simpa using hP, _, _, _, _, _, _, _, _, _, _, _, rfl⟩ ?_ ?_
  · intro i hi
    obtain ⟨k, _, rfl⟩ := List.mem_map.mp hi
    exact ⟨_, rfl⟩
  · intro x r σ H i D' h1 h2 h3 h4
    obtain ⟨i1, i2, i3, v2, v3, v4, v5, v6, v7, v8, v9, v10, v11, v12, rfl⟩ := i
    obtain ⟨v, rfl⟩ := i1 x (List.mem_cons_self ..)
    rw [List.length_cons] at i2 i3
    simp only [g_v', List.set_cons_zero, List.set_cons_succ]
    refine tr i3 (by omega) (by omega) fun H' w3 w4 w5 w6 w7 w8 w9 pp => ?_
    refine h1 _ _ ⟨fun j hj => i1 j (List.mem_cons_of_mem _ hj), by omega, pp.ge (by omega), _, _, _, _, _, _, _, _, _, _, _, rfl⟩
  · intro σ H i
    obtain ⟨_, _, _, v2, v3, v4, v5, v6, v7, v8, v9, v10, v11, v12, rfl⟩ := i
    exact tl ..
theorem goal : Goal hd 8 := by
  intro w K H a ns _ _ _ hS
  have e : ("law" : Str) = s_law := by decide +kernel
  rw [e]
  exact law_run hS (by omega) fun _ => rfl
end U

open PySem PySem.W PySem.Calls PyProof.Rows
theorem PySem.Challenge.cw_modesdown_k07_clauses_done_holds : PySem.Challenge.rw_modesdown_k07_clauses_done.Holds := by
  w_on; o_law
  refine HandSHeadRun.head_any (r := OpenLaw.row PySem.Challenge.rw_modesdown_k07_clauses_done) (q := view (OpenLaw.row PySem.Challenge.rw_modesdown_k07_clauses_done).prog [34]) (H := U.hd.hook 6) (ob := U.hd.ob 6) (M := 8000) (loose := U.loose) (d := HandSHeadRun.topDef (OpenLaw.row PySem.Challenge.rw_modesdown_k07_clauses_done).prog 34) (kwd := []) (U.Hd.ob_eq U.hd 6)
    (by kernel_rfl) (fun s => by kernel_rfl) U.runQ (by kernel_rfl) (by kernel_rfl) (by kernel_rfl) (by rfl) (by first | assumption | decide +kernel) (by decide +kernel) ⟨rfl, rfl, rfl, rfl, rfl, by decide +kernel⟩ ?hw ?hc
  case hw => w_witness2
  case hc =>
    exact U.law_end (h := U.hd) (n := 8) (x := U.s__law_script) (di := U.d_law) rfl (by kernel_rfl) (by kernel_rfl) U.stat U.bnd ⟨rfl, by decide, by decide⟩ (by kernel_rfl) rfl (by decide +kernel) (by decide +kernel) U.goal
