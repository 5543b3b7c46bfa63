import PyProof.Rows.All
import Wide.All
import OpenK.AllK
import Wide.FinOn
import HandS.ForMost
import HandS.ForExc
import HandS.IsInst
import HandS.More
import HandS.Defaults
import HandS.Property
import HandS.CallSlots
import HandS.HeadHook3
import HandS.Conv
import HandS.TupAny
import HandS.Wide
import HandS.Flow
import HandS.Lambda
import HandS.EndTab
import HandS.ClsMeth
import HandS.Style
import HandS.Deep
import HandS.HeadWalk
import KE.KExcSuper
import KE.KSuper
import HandS.ExcInit
import HandS.ExcSuper
import HandS.ExcField
import KE.KExcIs
import HandS.ExcIs
import HandS.Star
import KE.KCallOwn
import HandS.HeadHook4
import HandS.Head0
import HandS.Head1
import HandS.Head2
import HandS.EndBits
import KE.BitLaws
import PySem.Challenge.RW_modesdown_k02_modes_read
set_option Elab.async false
set_option linter.all false
set_option maxRecDepth 100000
set_option maxHeartbeats 0
namespace U
open PySem PySem.Spec PyProof.Rows L2
/-- a text by its code points -/
abbrev S (l : List Nat) : Str := ⟨⟨l⟩⟩

theorem lookup_mem {α β : Type} [BEq α] [LawfulBEq α] {a : α} {b : β} : ∀ {l : List (α × β)}, l.lookup a = some b → (a, b) ∈ l
  | [], h => by cases h
  | (x, y) :: r, h => by
    rw [List.lookup_cons] at h
    cases e : (a == x) with
    | true =>
      rw [e] at h
      have hy : y = b := Option.some.inj h
      rw [eq_of_beq e, hy]
      exact List.mem_cons_self ..
    | false =>
      rw [e] at h
      exact List.mem_cons_of_mem _ (lookup_mem h)
theorem lookup_of_mem {α β : Type} [BEq α] [LawfulBEq α] {a : α} : ∀ {l : List (α × β)}, a ∈ l.map (·.1) → ∃ b, l.lookup a = some b
  | [], h => by cases h
  | (x, y) :: r, h => by
    rw [List.lookup_cons]
    cases e : (a == x) with
    | true => exact ⟨y, rfl⟩
    | false =>
      refine lookup_of_mem ?_
      rcases List.mem_cons.mp h with h | h
      · rw [h] at e
        simp at e
      · exact h

/-- at a: an error of the class cls, its dict at d -/
def errO (a : Addr) (cls : Value) (d : Option Addr) : HO := .ext fun h => ∃ (oe : Obj) (vs : Array Value), h.get? a = some oe ∧ Zc cls d oe ∧ oe.data = .fields vs

/-! ### readings of operators, by values -/
def eqS : V → V → Bool
  | .non, .non => true
  | .bl a, .bl b => a == b
  | .int a, .int b => a == b
  | .str a, .str b => a == b
  | .byt a, .byt b => decide (a = b)
  | _, _ => false
theorem eqS_dec (x y : V) (h : scal x y = true) : eqS x y = decide (x = y) := by
  cases x <;> cases y <;> first
    | exact dec_int.symm
    | exact dec_bl.symm
    | exact dec_str.symm
    | rfl
    | (simp [eqS, scal] at h ⊢)

def rAddU (K : PySem.W.Frag) : R2 := fun x y H Q => match x, y with
  | .int i, .int j => Q (.int (i + j)) H
  | .int i, .bl k => Q (.int (i + b2i k)) H
  | .str i, .str j => i.length + j.length ≤ sizeLine ∧ Q (.str (i ++ j)) H
  | .ref a, .ref b => rCat (.ref a) (.ref b) H Q ∨ rCatA K (.ref a) (.ref b) H Q
  | _, _ => False
def rII (C : Int → Int → Prop) (g : Int → Int → V) : R2 := fun x y H Q => match x, y with
  | .int i, .int j => C i j ∧ Q (g i j) H
  | _, _ => False
def rII0 (g : Int → Int → V) : R2 := fun x y H Q => match x, y with
  | .int i, .int j => Q (g i j) H
  | _, _ => False
def rMulU (K : PySem.W.Frag) : R2 := fun x y H Q => match x, y with
  | .int i, .int j => (CMul i j ∨ CMulW i j) ∧ Q (.int (i * j)) H
  | .ref a, .int k => rRep (.ref a) (.int k) H Q
  | _, _ => False
def CDivU (i j : Int) : Prop := CDiv i j ∨ CDivW i j
section
variable {X : Cx}
theorem opOr {f : Value → Value → Sem Value} {r r' : R2} (h : OpR X f r) (h' : OpR X f r') : OpR X f (fun x y H Q => r x y H Q ∨ r' x y H Q) := by
  intro pins s σ H x y v u Q I rx ry q
  rcases q with q | q
  · exact h pins s σ H x y v u Q I rx ry q
  · exact h' pins s σ H x y v u Q I rx ry q
theorem opImp {f : Value → Value → Sem Value} {r r' : R2} (h : OpR X f r) (k : ∀ x y H Q, r' x y H Q → r x y H Q) : OpR X f r' :=
  fun pins s σ H x y v u Q I rx ry q => h pins s σ H x y v u Q I rx ry (k _ _ _ _ q)
theorem callOr {f : Value} {r r' : List V → Hp → VK → Prop} (h : CallR X f r) (h' : CallR X f r') : CallR X f (fun xs H Q => r xs H Q ∨ r' xs H Q) := by
  intro pins s σ H xs us Q I r q
  rcases q with q | q
  · exact h pins s σ H xs us Q I r q
  · exact h' pins s σ H xs us Q I r q
theorem callImp {f : Value} {r r' : List V → Hp → VK → Prop} (h : CallR X f r) (k : ∀ xs H Q, r' xs H Q → r xs H Q) : CallR X f r' :=
  fun pins s σ H xs us Q I r q => h pins s σ H xs us Q I r (k _ _ _ q)
theorem op_addU : OpR X (binaryOp .Add) (rAddU X.K) := by
  refine opImp (opOr (opOr op_add op_add_ib) (opOr op_add_str (opOr op_cat op_catA))) fun x y H Q h => ?_
  unfold rAddU at h
  split at h
  · exact .inl (.inl ⟨_, _, rfl, rfl, h⟩)
  · exact .inl (.inr ⟨_, _, rfl, rfl, h⟩)
  · exact .inr (.inl ⟨_, _, rfl, rfl, h⟩)
  · rcases h with h | h
    · exact .inr (.inr (.inl h))
    · exact .inr (.inr (.inr h))
  · exact h.elim
theorem opII {f : Value → Value → Sem Value} {C : Int → Int → Prop} {g : Int → Int → V} (h : OpR X f (rI C g)) : OpR X f (rII C g) := opImp h fun x y H Q h => by
  unfold rII at h
  split at h
  · exact ⟨_, _, rfl, rfl, h⟩
  · exact h.elim
theorem opII0 {f : Value → Value → Sem Value} {g : Int → Int → V} (h : OpR X f (rI0 g)) : OpR X f (rII0 g) := opImp h fun x y H Q h => by
  unfold rII0 at h
  split at h
  · exact ⟨_, _, rfl, rfl, h⟩
  · exact h.elim
theorem op_mulU : OpR X (binaryOp .Mult) (rMulU X.K) := by
  refine opImp (opOr (opOr op_mul op_mulW) op_rep) fun x y H Q h => ?_
  unfold rMulU at h
  split at h
  · rcases h with ⟨h1 | h1, h2⟩
    · exact .inl (.inl ⟨_, _, rfl, rfl, h1, h2⟩)
    · exact .inl (.inr ⟨_, _, rfl, rfl, h1, h2⟩)
  · exact .inr h
  · exact h.elim
theorem op_divU : OpR X (binaryOp .FloorDiv) (rII CDivU fun i j => .int (i / j)) := by
  refine opImp (opOr op_fdiv op_fdivW) fun x y H Q h => ?_
  unfold rII at h
  split at h
  · rcases h with ⟨h1 | h1, h2⟩
    · exact .inl ⟨_, _, rfl, rfl, h1, h2⟩
    · exact .inr ⟨_, _, rfl, rfl, h1, h2⟩
  · exact h.elim
/-- a binary operator -/
def rBin (K : PySem.W.Frag) : Operator → R2
  | .Add => rAddU K
  | .Sub => rII0 fun i j => .int (i - j)
  | .Mult => rMulU K
  | .FloorDiv => rII CDivU fun i j => .int (i / j)
  | .Mod => rII (fun _ j => 0 < j) fun i j => .int (i % j)
  | .Pow => rII CPow fun i j => .int (i ^ j.toNat)
  | .LShift => rII CPow fun i j => .int (i * 2 ^ j.toNat)
  | .RShift => rII (fun _ j => 0 ≤ j) fun i j => .int (i / 2 ^ j.toNat)
  | .BitAnd => rII0 fun i j => .int (Builtin.bitAnd i j)
  | .BitOr => rII0 fun i j => .int (Builtin.bitOr i j)
  | .BitXor => rII0 fun i j => .int (Builtin.bitXor i j)
  | _ => fun _ _ _ _ => False
theorem bin_ok (op : Operator) : OpR X (binaryOp op) (rBin X.K op) := by
  cases op with
  | Add => exact op_addU
  | Sub => exact opII0 op_sub
  | Mult => exact op_mulU
  | FloorDiv => exact op_divU
  | Mod => exact opII op_mod
  | Pow => exact opII op_pow
  | LShift => exact opII op_shl
  | RShift => exact opII op_shr
  | BitAnd => exact opII0 op_and
  | BitOr => exact opII0 op_or
  | BitXor => exact opII0 op_xor
  | _ => exact fun _ _ _ _ _ _ _ _ _ _ _ _ h => h.elim
def rUn : UnaryOp → V → Hp → VK → Prop
  | .USub => fun x H Q => match x with | .int i => Q (.int (-i)) H | _ => False
  | .Invert => fun x H Q => match x with | .int i => Q (.int (Builtin.bitNot i)) H | _ => False
  | _ => fun _ _ _ => False
theorem un_ok (op : UnaryOp) : UnR X (unaryOp op) (rUn op) := by
  cases op with
  | USub =>
    intro pins s σ H x v Q I rx h
    unfold rUn at h
    cases x <;> first | exact h.elim | exact un_neg pins s σ H _ v Q I rx ⟨_, rfl, h⟩
  | Invert =>
    intro pins s σ H x v Q I rx h
    unfold rUn at h
    cases x <;> first | exact h.elim | exact un_inv pins s σ H _ v Q I rx ⟨_, rfl, h⟩
  | _ => exact fun _ _ _ _ _ _ _ _ _ h => h.elim

/-! ### comparisons -/
def rEqU (K : PySem.W.Frag) : R2 := fun x y H Q => match scal x y with
  | true => Q (.bl (eqS x y)) H
  | false => rEqD K x y H Q
def rNeU (K : PySem.W.Frag) : R2 := fun x y H Q => match scal x y with
  | true => Q (.bl (!eqS x y)) H
  | false => rNeD K x y H Q
theorem op_eqU (hu : X.A.units + 64 < cLine) : OpR X (compareOp .Eq) (rEqU X.K) := by
  refine opImp (opOr op_eq (op_eqD hu)) fun x y H Q h => ?_
  unfold rEqU at h
  split at h
  · rename_i e
    rw [eqS_dec _ _ e] at h
    exact .inl ⟨e, h⟩
  · exact .inr h
theorem op_neU (hu : X.A.units + 64 < cLine) : OpR X (compareOp .NotEq) (rNeU X.K) := by
  refine opImp (opOr op_ne (op_neD hu)) fun x y H Q h => ?_
  unfold rNeU at h
  split at h
  · rename_i e
    rw [eqS_dec _ _ e] at h
    exact .inl ⟨e, h⟩
  · exact .inr h
/-- is i in j, texts -/
def inS (i j : Str) : Bool := match i with
  | ⟨⟨[c]⟩⟩ => decide (c ∈ j.cps.toList)
  | _ => !(Builtin.Str.occurrences j i 0 j.length 1).isEmpty
/-- a table of the module: its address, the value at a key -/
structure KTab where
  at_ : PySem.W.Frag → Addr
  kvs : List (Str × V)
def KHas (K : PySem.W.Frag) (w : World) (T : List KTab) (p : Addr) (z : Str) (o : Option V) : Prop := ∃ t ∈ T, p = t.at_ K ∧ o = t.kvs.lookup z
def KGood (K : PySem.W.Frag) (w : World) (T : List KTab) : Prop := ∀ t ∈ T, ∃ es n, KDict K w (t.at_ K) es n ∧ ∀ z, ∃ r, PySem.W.nsIn K (t.at_ K) z = some r ∧ RelO (t.kvs.lookup z) r
def rInU (K : PySem.W.Frag) (w : World) (T : List KTab) (neg : Bool) : R2 := fun x y H Q => match x, y with
  | .str i, .str j => Q (.bl (neg.xor (inS i j))) H
  | x, .ref p => rIn K neg x (.ref p) H Q ∨ (∃ kvs k, Rd H p (.dK kvs) ∧ x = kV k ∧ Q (.bl (neg.xor (valV kvs k).isSome)) H) ∨ (∃ z o, x = .str z ∧ KHas K w T p z o ∧ Q (.bl (neg.xor o.isSome)) H) ∨
      (if neg then rNotInD K x (.ref p) H Q else rInD K x (.ref p) H Q)
  | _, _ => False
theorem op_inStr : OpR X (compareOp .In) (fun x y H Q => ∃ i j, x = .str i ∧ y = .str j ∧ Q (.bl (inS i j)) H) := by
  refine opImp (opOr op_in_sign op_in_str) fun x y H Q h => ?_
  obtain ⟨i, j, rfl, rfl, q⟩ := h
  unfold inS at q
  split at q
  · exact .inl ⟨_, _, rfl, rfl, q⟩
  · exact .inr ⟨_, _, rfl, rfl, q⟩
theorem op_notInStr : OpR X (compareOp .NotIn) (fun x y H Q => ∃ i j, x = .str i ∧ y = .str j ∧ Q (.bl (!inS i j)) H) := by
  refine opImp (opOr op_notIn_sign op_notin_str) fun x y H Q h => ?_
  obtain ⟨i, j, rfl, rfl, q⟩ := h
  unfold inS at q
  split at q
  · exact .inl ⟨_, _, rfl, rfl, q⟩
  · exact .inr ⟨_, _, rfl, rfl, q⟩
theorem relO_isSome {a : Option V} {b : Option Value} (r : RelO a b) : b.isSome = a.isSome := by
  cases a <;> cases b <;> first | rfl | exact r.elim
theorem op_inU (hu : X.A.units + 65 < cLine) {T : List KTab} (kg : KGood X.K X.w T) : OpR X (compareOp .In) (rInU X.K X.w T false) := by
  intro pins s σ H x y v u Q I rx ry h
  unfold rInU at h
  split at h
  · exact op_inStr pins s σ H _ _ v u Q I rx ry ⟨_, _, rfl, rfl, by simpa using h⟩
  · rcases h with h | ⟨kvs, k, e, rfl, q⟩ | ⟨z, o, rfl, ⟨t, ht, rfl, rfl⟩, q⟩ | h
    · exact op_in_seq pins s σ H _ _ v u Q I rx ry h
    · cases ry
      refine d_in (by omega) I (.inl ⟨kvs, k, e, rfl, rfl⟩) rx fun s' I' => ?_
      exact ⟨.bl _, H, I', rfl, by simpa using q⟩
    · obtain ⟨es, n, D, g⟩ := kg t ht
      obtain ⟨r, er, rr⟩ := g z
      refine op_in_kd D pins s σ H _ _ v u Q I rx ry ⟨z, r, rfl, rfl, er, ?_⟩
      rw [relO_isSome rr]
      simpa using q
    · exact op_inD hu pins s σ H _ _ v u Q I rx ry (by simpa using h)
  · exact h.elim
theorem op_notInU (hu : X.A.units + 65 < cLine) {T : List KTab} (kg : KGood X.K X.w T) : OpR X (compareOp .NotIn) (rInU X.K X.w T true) := by
  intro pins s σ H x y v u Q I rx ry h
  unfold rInU at h
  split at h
  · exact op_notInStr pins s σ H _ _ v u Q I rx ry ⟨_, _, rfl, rfl, by simpa using h⟩
  · rcases h with h | ⟨kvs, k, e, rfl, q⟩ | ⟨z, o, rfl, ⟨t, ht, rfl, rfl⟩, q⟩ | h
    · exact op_notIn_seq pins s σ H _ _ v u Q I rx ry h
    · cases ry
      refine d_notIn (by omega) I (.inl ⟨kvs, k, e, rfl, rfl⟩) rx fun s' I' => ?_
      exact ⟨.bl _, H, I', rfl, by simpa using q⟩
    · obtain ⟨es, n, D, g⟩ := kg t ht
      obtain ⟨r, er, rr⟩ := g z
      refine op_notIn_kd D pins s σ H _ _ v u Q I rx ry ⟨z, r, rfl, rfl, er, ?_⟩
      rw [relO_isSome rr]
      simpa using q
    · exact op_notInD hu pins s σ H _ _ v u Q I rx ry (by simpa using h)
  · exact h.elim
def rLtU (f : Int → Int → Bool) (g : Str → Str → Bool) : R2 := fun x y H Q => match x, y with
  | .int i, .int j => Q (.bl (f i j)) H
  | .str i, .str j => Q (.bl (g i j)) H
  | _, _ => False
def rIs (neg : Bool) : R2 := fun x y H Q => match y with
  | .non => Q (.bl (neg.xor (match x with | .non => true | _ => false))) H
  | _ => False
theorem isN_dec (x : V) : decide (x = V.non) = (match x with | .non => true | _ => false) := by cases x <;> simp
/-- a comparison -/
def rCmp (K : PySem.W.Frag) (w : World) (T : List KTab) : CmpOp → R2
  | .Eq => rEqU K
  | .NotEq => rNeU K
  | .Lt => rLtU (fun i j => decide (i < j)) fun i j => decide (i.cps.toList < j.cps.toList)
  | .LtE => rLtU (fun i j => decide (i ≤ j)) fun i j => !decide (j.cps.toList < i.cps.toList)
  | .Gt => rLtU (fun i j => decide (j < i)) fun i j => decide (j.cps.toList < i.cps.toList)
  | .GtE => rLtU (fun i j => decide (j ≤ i)) fun i j => !decide (i.cps.toList < j.cps.toList)
  | .In => rInU K w T false
  | .NotIn => rInU K w T true
  | .Is => rIs false
  | .IsNot => rIs true
theorem opLt {op : CmpOp} {f : Int → Int → Bool} {g : Str → Str → Bool} (h : OpR X (compareOp op) (rI0 fun i j => .bl (f i j))) (h' : OpR X (compareOp op) (fun x y H Q => ∃ i j, x = .str i ∧ y = .str j ∧ Q (.bl (g i j)) H)) : OpR X (compareOp op) (rLtU f g) :=
  opImp (opOr h h') fun x y H Q q => by
    unfold rLtU at q
    split at q
    · exact .inl ⟨_, _, rfl, rfl, q⟩
    · exact .inr ⟨_, _, rfl, rfl, q⟩
    · exact q.elim
theorem cmp_ok (hu : X.A.units + 65 < cLine) {T : List KTab} (kg : KGood X.K X.w T) (op : CmpOp) : OpR X (compareOp op) (rCmp X.K X.w T op) := by
  cases op with
  | Eq => exact op_eqU (by omega)
  | NotEq => exact op_neU (by omega)
  | Lt => exact opLt op_lt op_lt_str
  | LtE => exact opLt op_le op_le_str
  | Gt => exact opLt op_gt op_gt_str
  | GtE => exact opLt op_ge op_ge_str
  | In => exact op_inU hu kg
  | NotIn => exact op_notInU hu kg
  | Is =>
    exact opImp op_isN fun x y H Q h => by
      show _ ∧ _
      have h : rIs false x y H Q := h
      unfold rIs at h
      split at h
      · exact ⟨rfl, by rw [isN_dec]; simpa using h⟩
      · exact h.elim
  | IsNot =>
    exact opImp op_notN fun x y H Q h => by
      show _ ∧ _
      have h : rIs true x y H Q := h
      unfold rIs at h
      split at h
      · exact ⟨rfl, by rw [isN_dec]; simpa using h⟩
      · exact h.elim
end
end U

namespace U
open PySem PySem.Spec PyProof.Rows L2

abbrev St := L2.St
/-- built-in functions and types that are called -/
inductive B where
  | len | abs | int | bool | str | list | tuple | sum | all | any | sorted | dict
  deriving DecidableEq
/-- methods of built-in types -/
inductive M where
  | append | join | find | split | count | get | extend
  deriving DecidableEq
/-- a class that isinstance is asked for -/
inductive CR where
  | ty (n : String) | own (x : Str)
  deriving DecidableEq

/-- the text of a body, as it is read -/
inductive I where
  | k (v : V) | v (i : Nat) | g (x : Str)
  | bop (op : Operator) (a b : I) | uop (op : UnaryOp) (a : I)
  | not (a : I) | and (a b : I) | or (a b : I) | ite (c a b : I)
  | cmp (op : CmpOp) (a b : I) | cmp2 (op op' : CmpOp) (a b c : I)
  | lst (as : I) | tup (as : I) | dic (ps : I)
  | call (f : Str) (as : I) | mk (c : Str) (as : I) | bi (f : B) (as : I)
  | isi (a : I) (cs : List CR) (many : Bool)
  | meth (o : I) (m : Str) (as : I) | bm (m : M) (o as : I)
  | icall (o as : I) (ks : List Str) (zs : I) | ostr (a : I)
  | att (o : I) (f : Str)
  | ix (o i : I) | sl (o lo hi : I)
  | lc (own : List (Str × Nat)) (elt tg it : I) (hasIf : Bool) (cond : I)
  | nil | cons (a b : I) | pair (k v r : I)
  | tupG (gs : I) | subG (o i : I) | attG (o : I) (f : Str)
  | itL (e : I) | itT (e : I) | itS (e : I) | itR1 (a : I) | itR2 (a b : I) | itE (e : I) | itES (e : I) | itZ (a b : I)
  | set (g e : I) | setLc (i : Nat) (e : I) | par (i j : Nat) (as : I) | par3 (i j l : Nat) (as : I) | aug (i : Nat) (op : Operator) (e : I)
  | expr (e : I) | ret (e : I) | retN | if_ (c a b : I) | while_ (c b : I) | for_ (tg it b : I)
  | raise (c : Str) (as : I) | try_ (c : Str) (i : Nat) (b s : I) | eatt (o : I) (f : Str) | eisi (o : I) (c : CR)
  | never | pass | brk | cont
  | lamc (f : Str) (b : I) | act (i : Nat)
  | methk (o : I) (m : Str) (as : I) (ks : List Str) (zs : I) | smeth (c m : Str) (as : I) (ks : List Str) (zs : I) | oeq (a b : I)
  | cmeth (c m : Str) (as : I) (ks : List Str) (zs : I) | mkv (cs : List Str) (a as : I) | mkk (c : Str) (as : I) (ks : List Str) (zs : I)

/-- how many parts -/
def I.len : I → Nat
  | .cons _ b => b.len + 1
  | _ => 0
/-- one item of a walk: a value, or a new tuple of values -/
inductive It1 where
  | v (x : V) | t (xs : List V)
abbrev TI1 := St → Hp → ((Hp → Prop) → List It1 → Hp → Prop) → Prop

/-- a lambda that a def has got: the function's place, its code object's, what it does -/
structure LamT where
  f : Addr
  c : Addr
  q : Str
  i : Nat
  T : XK → Hp → VK → Prop
structure Ctx where
  K : PySem.W.Frag
  w : World
  fn : Str → Sp
  gv : Str → Option V
  tabs : List KTab
  mth : Str → Str → Option Str
  prp : Str → Str → Option Str
  fld : Str → Str → Bool
  isi : Str → CR → Option Bool
  xf : Str → Option (List Str)
  kwo : Str → Nat → List Str → Option (List Nat)
  exm : Str → Str → Option Bool
  eis : Str → CR → Option Bool
  lt : List (Addr × Str)
  lfn : Str → (XK → Hp → VK → Prop) → Hp → VK → Prop
  lam : Option LamT
  smt : Str → Str → Option Str
  cmt : Str → Str → Option Str

/-- what a text means: as an expression, a test, arguments, a statement, a target, targets, a walked thing, the pairs of a display, an end of a slice -/
structure Rd1 where
  e : TE
  t : TT
  a : TA
  s : TS
  g : TG
  gs : TGs
  i : TI1
  p : List (TE × TE)
  o : St → Hp → (Option Int → Hp → Prop) → Prop

def rB (K : PySem.W.Frag) : B → List V → Hp → VK → Prop
  | .len => fun vs H Q => match vs with
    | [.str z] => z.length ≤ sizeLine ∧ Q (.int z.length) H
    | [.ref p] => (∃ ys, SqL K H p ys ∧ Q (.int ys.length) H) ∨ (∃ ys, SqT K H p ys ∧ Q (.int ys.length) H) ∨ ∃ kvs, H p = some (.dK kvs) ∧ Q (.int kvs.length) H
    | _ => False
  | .abs => fun vs H Q => match vs with
    | [.int i] => Q (.int (if i < 0 then -i else i)) H
    | _ => False
  | .int => fun vs H Q => match vs with
    | [.int i] => Q (.int i) H
    | [.bl b] => Q (.int (if b then 1 else 0)) H
    | [.str a] => ∃ n, PySem.intText? a = some n ∧ a.length ≤ 640 ∧ Q (.int n) H
    | _ => False
  | .bool => fun vs H Q => match vs with
    | [.int i] => Q (.bl (i != 0)) H
    | [.bl b] => Q (.bl b) H
    | _ => False
  | .str => fun vs H Q => match vs with
    | [.int i] => i.natAbs.log2 < 1920 ∧ Q (.str (toString i)) H
    | _ => False
  | .list => fun vs H Q => match vs with
    | [.ref p] => ∃ ys, (SqL K H p ys ∨ SqT K H p ys) ∧ ∀ l, H l = none → Q (.ref l) (upd H l (.lst ys))
    | [.str z] => z.length ≤ sizeLine ∧ ∀ l, H l = none → Q (.ref l) (upd H l (.lst (z.cps.toList.map fun c => .str (S [c]))))
    | _ => False
  | .tuple => fun vs H Q => match vs with
    | [.ref p] => ∃ ys, (SqL K H p ys ∧ ∀ l, H l = none → Q (.ref l) (upd H l (.tup ys))) ∨ (SqT K H p ys ∧ Q (.ref p) H)
    | [.str z] => z.length ≤ sizeLine ∧ ∀ l, H l = none → Q (.ref l) (upd H l (.tup (z.cps.toList.map fun c => .str (S [c]))))
    | _ => False
  | .sum => fun vs H Q => match vs with
    | [.ref p] => ∃ ns : List Int, SqL K H p (ns.map V.int) ∧ Q (.int ns.sum) H
    | _ => False
  | .all => fun vs H Q => match vs with
    | [.ref p] => ∃ bs : List Bool, SqL K H p (bs.map V.bl) ∧ Q (.bl (bs.all id)) H
    | _ => False
  | .any => fun vs H Q => match vs with
    | [.ref p] => ∃ bs : List Bool, SqL K H p (bs.map V.bl) ∧ Q (.bl (bs.any id)) H
    | _ => False
  | .sorted => fun vs H Q => rSorted K vs H Q ∨ rSortedS K vs H Q
  | .dict => fun vs H Q => match vs with
    | [.ref p] => ∃ kvs, Rd H p (.dK kvs) ∧ ∀ q, H q = none → Q (.ref q) (upd H q (.dK kvs))
    | _ => False
def rM (K : PySem.W.Frag) : M → V → List V → Hp → VK → Prop
  | .append => rAppend
  | .join => fun x xs H Q => ∃ a p, ∃ ys : List Str, x = .str a ∧ xs = [.ref p] ∧ (SqL K H p (ys.map V.str) ∨ SqT K H p (ys.map V.str)) ∧ (ys.map (·.length)).sum + ys.length * a.length ≤ 16777216 ∧ Q (.str (Txt.join a ys)) H
  | .find => fun x xs H Q => ∃ a b, x = .str a ∧ xs = [.str b] ∧ Q (.int (Txt.find a b)) H
  | .split => fun x xs H Q => ∃ a b, x = .str a ∧ xs = [.str b] ∧ (b.length == 0) = false ∧ a.length + 2 ≤ sizeLine ∧ rNewStrs (Txt.split a b) H Q
  | .count => fun x xs H Q => ∃ a b, x = .str a ∧ xs = [.str b] ∧ Q (.int (Txt.count a b)) H
  | .get => fun x xs H Q => ∃ p y z o, x = .ref p ∧ xs = [y, z] ∧ DGet H p y o ∧ Q (o.getD z) H
  | .extend => rExtend
/-- the built-in type of a method -/
def M.T : M → String
  | .append | .extend => "list"
  | .get => "dict"
  | _ => "str"
def M.nm : M → Str
  | .append => "append" | .join => "join" | .find => "find" | .split => "split" | .count => "count" | .get => "get" | .extend => "extend"

/-- the name of a built-in value's type -/
def tyN : V → Option String
  | .non => some "NoneType" | .bl _ => some "bool" | .int _ => some "int" | .str _ => some "str" | _ => none
def tyHO : HO → Option String
  | .lst _ => some "list" | .tup _ => some "tuple" | .dK _ => some "dict" | _ => none
def subTy (a b : String) : Bool := a == b || (a == "bool" && b == "int") || b == "object"
/-- a built-in type against a class -/
def isiT (t : String) : CR → Bool
  | .ty n => subTy t n
  | .own _ => false
/-- isinstance(x, c) is b -/
def Isi (C : Ctx) (H : Hp) (x : V) (cs : List CR) (Q : VK) : Prop := match tyN x with
  | some t => Q (.bl (cs.any (isiT t))) H
  | none => match x with
    | .ref p => (∃ cn dx fs, H p = some (.ins (He.ga C.K cn) dx fs) ∧ ∃ bs : List Bool, cs.map (C.isi cn) = bs.map some ∧ Q (.bl (bs.any id)) H) ∨
        ∃ o, (H p = some o ∨ ∃ ob, H p = some (.frz ob o)) ∧ ∃ t, tyHO o = some t ∧ Q (.bl (cs.any (isiT t))) H
    | _ => False

/-- e.f of an own instance -/
def rAtt (C : Ctx) (f : Str) (E : XK) (x : V) (H : Hp) (Q : VK) : Prop := match x with
  | .ref a => ∃ cn dx fs, H a = some (.ins (He.ga C.K cn) dx fs) ∧ ((C.fld cn f = true ∧ ∃ v, fs.lookup f = some v ∧ Q v H) ∨ ∃ key, C.prp cn f = some key ∧ C.fn key [.ref a] H Q fun _ _ _ => False)
  | _ => False
/-- the values in the parameters' order -/
def byOrd (vs : List V) (ord : List Nat) : Option (List V) := ord.mapM fun i => vs[i]?

/-- a call with keywords, vs the positional values, us the keywords' -/
def kwRun (C : Ctx) (key : Str) (ks : List Str) (vs us : List V) (H : Hp) (Q : VK) (E : XK) : Prop := match ks with
  | [] => C.fn key vs H Q E
  | ks => us.length = ks.length ∧ ∃ ord ts, C.kwo key vs.length ks = some ord ∧ byOrd (vs ++ us) ord = some ts ∧ C.fn key ts H Q E

/-! ### walks -/
def forGo (ok : Hp → Prop) (g : TG) (gs : TGs) (tb : TS) (D : Ends) : List It1 → St → Hp → Prop
  | [], σ, H => ok H ∧ D.nx σ H
  | .v x :: r, σ, H => ok H ∧ g x σ H fun σ2 H2 => tb { D with nx := forGo ok g gs tb D r, ct := forGo ok g gs tb D r, bk := D.nx } σ2 H2
  | .t xs :: r, σ, H => ok H ∧ ∀ T, H T = none → gs xs σ (upd H T (.tup xs)) fun σ2 H2 => tb { D with nx := forGo ok g gs tb D r, ct := forGo ok g gs tb D r, bk := D.nx } σ2 H2
/-- what a turn of a comprehension does with the next item -/
def lcTurn (tt : TT) (te : TE) (Dl : Addr) (vs : List Nat) (σ : St) (nx : Hp → Prop) (σ2 : St) (H2 : Hp) : Prop :=
  wipe σ2 vs = wipe σ vs ∧ tt σ2 H2 fun b H3 => if b = true then te σ2 H3 fun y H4 => ∃ acc, H4 Dl = some (.lst acc) ∧ acc.length < sizeLine ∧ nx (upd H4 Dl (.lst (acc ++ [y]))) else nx H3
def lcGo (ok : Hp → Prop) (g : TG) (gs : TGs) (tt : TT) (te : TE) (Dl : Addr) (vs : List Nat) (σ : St) (Q : VK) : List It1 → Hp → Prop
  | [], H => ok H ∧ Q (.ref Dl) H
  | .v x :: r, H => ok H ∧ g x (wipe σ vs) H (lcTurn tt te Dl vs σ (lcGo ok g gs tt te Dl vs σ Q r))
  | .t xs :: r, H => ok H ∧ ∀ T, H T = none → gs xs (wipe σ vs) (upd H T (.tup xs)) (lcTurn tt te Dl vs σ (lcGo ok g gs tt te Dl vs σ Q r))

def noW : WX := fun _ _ _ _ => False
def lcIf (b : Bool) (t : TT) : TT := match b with
  | true => t
  | false => fun _ H Q => Q true H
def noE : TE := fun _ _ _ => False
def noT : TT := fun _ _ _ => False
def noA : TA := fun _ _ _ => False
def noS : TS := fun _ _ _ => False
def noG : TG := fun _ _ _ _ => False
def noGs : TGs := fun _ _ _ _ => False
def noI : TI1 := fun _ _ _ => False
def noO : St → Hp → (Option Int → Hp → Prop) → Prop := fun _ _ _ => False
def Rd1.ofE (K : PySem.W.Frag) (e : TE) : Rd1 :=
  { e := e, t := fun σ H Q => e σ H fun x H' => match x with
      | .bl b => Q b H'
      | x => ∃ b, TruV K x H' b ∧ Q b H'
    a := noA, s := noS, g := noG, gs := noGs, i := noI, p := [],
    o := fun σ H Q => e σ H fun x H' => match x with
      | .int i => Q (some i) H'
      | _ => False }
def Rd1.ofET (e : TE) (t : TT) : Rd1 := { e := e, t := t, a := noA, s := noS, g := noG, gs := noGs, i := noI, p := [], o := noO }
def Rd1.ofS (s : TS) : Rd1 := { e := noE, t := noT, a := noA, s := s, g := noG, gs := noGs, i := noI, p := [], o := noO }
def Rd1.ofG (g : TG) : Rd1 := { e := noE, t := noT, a := noA, s := noS, g := g, gs := noGs, i := noI, p := [], o := noO }
def Rd1.ofI (i : TI1) : Rd1 := { e := noE, t := noT, a := noA, s := noS, g := noG, gs := noGs, i := i, p := [], o := noO }
def Rd1.ofP (p : List (TE × TE)) : Rd1 := { e := noE, t := noT, a := noA, s := noS, g := noG, gs := noGs, i := noI, p := p, o := noO }

/-- a slice by values -/
def rSlU (K : PySem.W.Frag) (x : V) (lo hi : Option Int) (H : Hp) (Q : VK) : Prop := match x with
  | .str z => z.length ≤ sizeLine ∧ Q (.str (cutS z lo hi)) H
  | .ref a => rSlL K (.ref a) lo hi H Q ∨ rSlA K (.ref a) lo hi H Q
  | _ => False
def rIxU (K : PySem.W.Frag) (w : World) (T : List KTab) : R2 := fun x y H Q => match x, y with
  | .str z, .int i => z.length ≤ sizeLine ∧ ∃ c, atI z.cps.toList i = some c ∧ Q (.str (S [c])) H
  | .ref a, .int i => (∃ xs, SqL K H a xs ∧ ∃ v, atI xs i = some v ∧ Q v H) ∨ (∃ xs, SqT K H a xs ∧ ∃ v, atI xs i = some v ∧ Q v H) ∨ ∃ v, DGet H a (.int i) (some v) ∧ Q v H
  | .ref a, .str z => (∃ kvs, Rd H a (.dK kvs) ∧ ∃ v, valV kvs (.inr z) = some v ∧ Q v H) ∨ ∃ v, KHas K w T a z (some v) ∧ Q v H
  | _, _ => False
/-- o[i] = v -/
def rSetU : V → V → V → Hp → (Hp → Prop) → Prop := fun o i v H Q => match o, i with
  | .ref p, .int j => (∃ xs, H p = some (.lst xs) ∧ ∃ n, ixN xs.length j = some n ∧ Q (upd H p (.lst (xs.set n v)))) ∨ ∃ kvs, H p = some (.dK kvs) ∧ kvs.length < sizeLine ∧ Q (upd H p (.dK (putK kvs (.inl j) v)))
  | .ref p, .str z => ∃ kvs, H p = some (.dK kvs) ∧ kvs.length < sizeLine ∧ Q (upd H p (.dK (putK kvs (.inr z) v)))
  | _, _ => False

/-- x == y by the class's own __eq__ -/
def rOeq (C : Ctx) : R2 := fun x y H Q => match x with
  | .ref p => ∃ cn dx fs key, H p = some (.ins (He.ga C.K cn) dx fs) ∧ C.mth cn "__eq__" = some key ∧ ((tyN y).isSome = true ∨ ∃ q dy gs, y = .ref q ∧ H q = some (.ins (He.ga C.K cn) dy gs)) ∧
      C.fn key [x, y] H (fun v H' => match v with | .bl k => Q (.bl k) H' | _ => False) fun _ _ _ => False
  | _ => False
def rd (C : Ctx) : I → WX → Rd1
  | .k v, _ => .ofE C.K fun _ H Q => Q v H
  | .v i, _ => { Rd1.ofE C.K (fun σ H Q => match σ[i]? with
      | some (some v) => Q v H
      | _ => False) with g := gName i }
  | .g x, _ => .ofE C.K fun _ H Q => match C.gv x with
      | some v => Q v H
      | none => False
  | .bop op a b, W => .ofE C.K fun σ H Q => (rd C a W).e σ H fun x H1 => (rd C b W).e σ H1 fun y H2 => rBin C.K op x y H2 Q
  | .uop op a, W => .ofE C.K fun σ H Q => (rd C a W).e σ H fun x H1 => rUn op x H1 Q
  | .not a, W => .ofET (fun σ H Q => (rd C a W).e σ H fun x H1 => match x with
      | .bl c => Q (.bl (!c)) H1
      | x => ∃ k, TruV C.K x H1 k ∧ Q (.bl (!k)) H1) (tNot (rd C a W).t)
  | .and a b, W => .ofET (fun σ H Q => (rd C a W).e σ H fun x H1 => match x with
      | .bl c => if c = true then (rd C b W).e σ H1 Q else Q (.bl false) H1
      | _ => False) (tAnd (rd C a W).t (rd C b W).t)
  | .or a b, W => .ofET (fun σ H Q => (rd C a W).e σ H fun x H1 => match x with
      | .bl c => if c = true then Q (.bl true) H1 else (rd C b W).e σ H1 Q
      | _ => False) (tOr (rd C a W).t (rd C b W).t)
  | .ite c a b, W => .ofET (fun σ H Q => (rd C c W).t σ H fun k H1 => if k = true then (rd C a W).e σ H1 Q else (rd C b W).e σ H1 Q) noT
  | .cmp op a b, W => .ofET (fun σ H Q => (rd C a W).e σ H fun x H1 => (rd C b W).e σ H1 fun y H2 => rCmp C.K C.w C.tabs op x y H2 Q)
      (fun σ H Q => (rd C a W).e σ H fun x H1 => (rd C b W).e σ H1 fun y H2 => rCmp C.K C.w C.tabs op x y H2 fun z H3 => match z with
        | .bl k => Q k H3
        | _ => False)
  | .cmp2 op op' a b c, W =>
      let t : TE := fun σ H Q => (rd C a W).e σ H fun x H1 => (rd C b W).e σ H1 fun y H2 => rCmp C.K C.w C.tabs op x y H2 fun z H3 => match z with
        | .bl k => if k = true then (rd C c W).e σ H3 fun u H4 => rCmp C.K C.w C.tabs op' y u H4 Q else Q (.bl false) H3
        | _ => False
      .ofET t (fun σ H Q => t σ H fun z H3 => match z with
        | .bl k => Q k H3
        | _ => False)
  | .lst as, W => .ofE C.K fun σ H Q => (rd C as W).a σ H fun xs H1 => xs.length ≤ sizeLine ∧ ∀ p, H1 p = none → Q (.ref p) (upd H1 p (.lst xs))
  | .tup as, W => .ofE C.K fun σ H Q => (rd C as W).a σ H fun xs H1 => xs.length ≤ sizeLine ∧ ∀ p, H1 p = none → Q (.ref p) (upd H1 p (.tup xs))
  | .dic ps, W => .ofE C.K fun σ H Q => match (rd C ps W).p with
      | [] => ∀ p, H p = none → Q (.ref p) (upd H p (.dK []))
      | trs => tDisp trs σ H Q
  | .call f as, W => .ofE C.K fun σ H Q => (rd C as W).a σ H fun vs H1 => C.fn f vs H1 Q fun cls d H' => W cls d σ H'
  | .mk c as, W => .ofE C.K fun σ H Q => (rd C as W).a σ H fun vs H1 => ∀ x dx, H1 x = none → H1 dx = none → dx ≠ x →
      ∃ key, C.mth c "__init__" = some key ∧ C.fn key (.ref x :: vs) (upd (upd H1 dx (.own x)) x (.ins (He.ga C.K c) dx [])) (fun v H2 => v = .non ∧ Q (.ref x) H2) fun cls d H' => W cls d σ H'
  | .bi f as, W => .ofE C.K fun σ H Q => (rd C as W).a σ H fun vs H1 => rB C.K f vs H1 Q
  | .isi a cs many, W => .ofE C.K fun σ H Q => (rd C a W).e σ H fun x H1 => match many with
      | false => Isi C H1 x cs Q
      | true => ∀ p, H1 p = none → Isi C (upd H1 p (.tup (cs.map fun c => match c with | .ty n => V.ty n | .own x => V.ref (He.ga C.K x)))) x cs Q
  | .meth o m as, W => .ofE C.K fun σ H Q => (rd C o W).e σ H fun x H1 => match x with
      | .ref a => ∃ cn dx fs key, H1 a = some (.ins (He.ga C.K cn) dx fs) ∧ C.mth cn m = some key ∧ fs.lookup m = none ∧
          (rd C as W).a σ H1 fun vs H2 => C.fn key (.ref a :: vs) H2 Q fun cls d H' => W cls d σ H'
      | _ => False
  | .bm m o as, W => .ofE C.K fun σ H Q => (rd C o W).e σ H fun x H1 => tyV C.K m.T x H1 ∧ (rd C as W).a σ H1 fun vs H2 => rM C.K m x vs H2 Q
  | .icall o as ks zs, W => .ofE C.K fun σ H Q => (rd C o W).e σ H fun x H1 => match x with
      | .ref a => ∃ cn, (∃ dx fs, H1 a = some (.ins (He.ga C.K cn) dx fs)) ∧ (rd C as W).a σ H1 fun vs H2 => (rd C zs W).a σ H2 fun us H3 => ∃ dx fs key, H3 a = some (.ins (He.ga C.K cn) dx fs) ∧ C.mth cn "__call__" = some key ∧
          kwRun C key ks (.ref a :: vs) us H3 Q (fun cls d H' => W cls d σ H')
      | _ => False
  | .ostr a, W => .ofE C.K fun σ H Q => (rd C a W).e σ H fun x H1 => match x with
      | .ref a => ∃ cn dx fs key, H1 a = some (.ins (He.ga C.K cn) dx fs) ∧ C.mth cn "__str__" = some key ∧ C.fn key [.ref a] H1 (fun v H2 => match v with | .str z => Q (.str z) H2 | _ => False) fun _ _ _ => False
      | _ => False
  | .att o f, W => .ofE C.K fun σ H Q => (rd C o W).e σ H fun x H1 => rAtt C f (fun cls d H' => W cls d σ H') x H1 Q
  | .ix o i, W => .ofE C.K fun σ H Q => (rd C o W).e σ H fun x H1 => (rd C i W).e σ H1 fun y H2 => rIxU C.K C.w C.tabs x y H2 Q
  | .sl o lo hi, W => .ofE C.K fun σ H Q => (rd C o W).e σ H fun x H1 => (rd C lo W).o σ H1 fun l H2 => (rd C hi W).o σ H2 fun h H3 => rSlU C.K x l h H3 Q
  | .lc own elt tg it hasIf cond, W => .ofE C.K fun σ H Q => (rd C it W).i σ H fun ok items H1 => ∀ Dl, H1 Dl = none →
      lcGo ok (rd C tg noW).g (rd C tg noW).gs (lcIf hasIf (rd C cond noW).t) (rd C elt noW).e Dl (own.map (·.2)) σ Q items (upd H1 Dl (.lst []))
  | .nil, _ => ⟨noE, noT, fun _ H Q => Q [] H, fun D σ H => D.nx σ H, noG, gNil, noI, [], fun _ H Q => Q none H⟩
  | .cons a b, W => ⟨noE, noT, fun σ H Q => (rd C a W).e σ H fun x H1 => (rd C b W).a σ H1 fun xs H2 => Q (x :: xs) H2,
      fun D σ H => (rd C a W).s { D with nx := (rd C b W).s D } σ H, noG, (fun vs σ H Q => match vs with
        | v :: r => (rd C a W).g v σ H fun σ' H' => (rd C b W).gs r σ' H' Q
        | [] => False), noI, [], noO⟩
  | .pair k v r, W => .ofP (((rd C k W).e, (rd C v W).e) :: (rd C r W).p)
  | .tupG gs, W => { Rd1.ofG (fun v σ H Q => match v with
      | .ref a => ∃ xs, SqT C.K H a xs ∧ xs.length = gs.len ∧ (rd C gs W).gs xs σ H Q
      | _ => False) with gs := fun vs σ H Q => vs.length = gs.len ∧ (rd C gs W).gs vs σ H Q }
  | .subG o i, W => .ofG fun v σ H Q => (rd C o W).e σ H fun x H1 => (rd C i W).e σ H1 fun y H2 => rSetU x y v H2 fun H3 => Q σ H3
  | .attG o f, W => .ofG fun v σ H Q => (rd C o W).e σ H fun x H1 => match x with
      | .ref a => ∃ cn dx fs, H1 a = some (.ins (He.ga C.K cn) dx fs) ∧ C.fld cn f = true ∧ fs.length < 1000 ∧ Q σ (upd H1 a (.ins (He.ga C.K cn) dx (putF f v fs)))
      | _ => False
  | .itL e, W => .ofI fun σ H R => (rd C e W).e σ H fun x H1 => match x with
      | .ref a => ∃ xs, SqL C.K H1 a xs ∧ R (fun H' => SqL C.K H' a xs) (xs.map .v) H1
      | _ => False
  | .itT e, W => .ofI fun σ H R => (rd C e W).e σ H fun x H1 => match x with
      | .ref a => ∃ xs, SqT C.K H1 a xs ∧ R (fun H' => SqT C.K H' a xs) (xs.map .v) H1
      | _ => False
  | .itS e, W => .ofI fun σ H R => (rd C e W).e σ H fun x H1 => match x with
      | .str z => R (fun _ => True) (z.cps.toList.map fun c => .v (.str (S [c]))) H1
      | _ => False
  | .itR1 a, W => .ofI fun σ H R => (rd C a W).e σ H fun x H1 => match x with
      | .int j => -(2 ^ 62) ≤ j ∧ j < 2 ^ 62 ∧ R (fun _ => True) ((List.range j.toNat).map fun i => .v (.int (i : Nat))) H1
      | _ => False
  | .itR2 a b, W => .ofI fun σ H R => (rd C a W).e σ H fun x H1 => (rd C b W).e σ H1 fun y H2 => match x, y with
      | .int i, .int j => (-(2 ^ 62) ≤ i ∧ i < 2 ^ 62 ∧ -(2 ^ 62) ≤ j ∧ j < 2 ^ 62) ∧ R (fun _ => True) ((List.range (j - i).toNat).map fun k => .v (.int (i + (k : Nat)))) H2
      | _, _ => False
  | .itE e, W => .ofI fun σ H R => (rd C e W).e σ H fun x H1 => match x with
      | .ref a => ∃ xs, SqL C.K H1 a xs ∧ R (fun H' => SqL C.K H' a xs) (xs.zipIdx.map fun p => .t [.int (p.2 : Nat), p.1]) H1
      | _ => False
  | .itES e, W => .ofI fun σ H R => (rd C e W).e σ H fun x H1 => match x with
      | .str z => R (fun _ => True) (z.cps.toList.zipIdx.map fun p => .t [.int (p.2 : Nat), .str (S [p.1])]) H1
      | _ => False
  | .itZ a b, W => .ofI fun σ H R => (rd C a W).e σ H fun x H1 => (rd C b W).e σ H1 fun y H2 => match x, y with
      | .ref p, .ref q => ∃ xs ys, SqL C.K H2 p xs ∧ SqL C.K H2 q ys ∧ R (fun H' => SqL C.K H' p xs ∧ SqL C.K H' q ys) ((xs.zip ys).map fun z => .t [z.1, z.2]) H2
      | _, _ => False
  | .set g e, W => .ofS fun D σ H => (rd C e W).e σ H fun x H1 => (rd C g W).g x σ H1 D.nx
  | .setLc i e, W => .ofS fun D σ H => (rd C e W).e σ H fun x H1 => D.nx (σ.set i (some x)) H1
  | .par i j as, W => .ofS (tPar i j (rd C as W).a)
  | .par3 i j l as, W => .ofS (tPar3 i j l (rd C as W).a)
  | .aug i op e, W => .ofS noS
  | .expr e, W => .ofS fun D σ H => (rd C e W).e σ H fun _ H1 => D.nx σ H1
  | .ret e, W => .ofS fun D σ H => (rd C e W).e σ H D.rt
  | .retN, _ => .ofS fun D _ H => D.rt .non H
  | .if_ c a b, W => .ofS fun D σ H => (rd C c W).t σ H fun k H1 => if k = true then (rd C a W).s D σ H1 else (rd C b W).s D σ H1
  | .while_ c b, W => .ofS (tWhile (rd C c W).t (rd C b W).s)
  | .for_ tg it b, W => .ofS fun D σ H => (rd C it W).i σ H fun ok items H1 => forGo ok (rd C tg W).g (rd C tg W).gs (rd C b W).s D items σ H1
  | .raise c as, W => .ofS fun _ σ H => (rd C as W).a σ H fun vs H1 => ∃ fs, C.xf c = some fs ∧ vs.length = fs.length ∧ ∀ d, H1 d = none → W (.ref (He.ga C.K c)) (some d) σ (upd H1 d (.xd (fs.zip vs).reverse))
  | .try_ c i b s, W => .ofS fun D σ H => (rd C b fun cls d σ' H' => ∃ cn k, cls = .ref (He.ga C.K cn) ∧ C.exm cn c = some k ∧
      (k = true → ∀ a, H' a = none → (rd C s noW).s ⟨fun σ2 H2 => D.nx (σ2.set i none) H2, D.rt, fun σ2 H2 => D.bk (σ2.set i none) H2, fun σ2 H2 => D.ct (σ2.set i none) H2⟩ (σ'.set i (some (.ref a))) (upd H' a (errO a cls d))) ∧ (k = false → W cls d σ' H')).s D σ H
  | .eatt o f, W => .ofE C.K fun σ H Q => (rd C o W).e σ H fun x H1 => match x with
      | .ref a => ∃ cn d fs, H1 a = some (errO a (.ref (He.ga C.K cn)) (some d)) ∧ H1 d = some (.xd fs) ∧ (∃ es, C.xf cn = some es ∧ f ∈ es) ∧ ∃ v, fs.lookup f = some v ∧ Q v H1
      | _ => False
  | .eisi o c, W => .ofE C.K fun σ H Q => (rd C o W).e σ H fun x H1 => match x with
      | .ref a => ∃ cn d fs k, H1 a = some (errO a (.ref (He.ga C.K cn)) (some d)) ∧ H1 d = some (.xd fs) ∧ C.eis cn c = some k ∧ Q (.bl k) H1
      | _ => False
  | .never, _ => .ofS noS
  | .pass, _ => .ofS fun D σ H => D.nx σ H
  | .brk, _ => .ofS fun D σ H => D.bk σ H
  | .cont, _ => .ofS fun D σ H => D.ct σ H
  | .methk o m as ks zs, W => .ofE C.K fun σ H Q => (rd C o W).e σ H fun x H1 => match x with
      | .ref a => ∃ cn dx fs key, H1 a = some (.ins (He.ga C.K cn) dx fs) ∧ C.mth cn m = some key ∧ fs.lookup m = none ∧
          (rd C as W).a σ H1 fun vs H2 => (rd C zs W).a σ H2 fun us H3 => kwRun C key ks (.ref a :: vs) us H3 Q fun cls d H' => W cls d σ H'
      | _ => False
  | .smeth c m as ks zs, W => .ofE C.K fun σ H Q => match C.smt c m with
      | some key => (rd C as W).a σ H fun vs H2 => (rd C zs W).a σ H2 fun us H3 => kwRun C key ks vs us H3 Q fun cls d H' => W cls d σ H'
      | none => False
  | .cmeth c m as ks zs, W => .ofE C.K fun σ H Q => match C.cmt c m with
      | some key => (rd C as W).a σ H fun vs H2 => (rd C zs W).a σ H2 fun us H3 => kwRun C key ks (.ref (He.ga C.K c) :: vs) us H3 Q fun cls d H' => W cls d σ H'
      | none => False
  | .mkv cs a as, W => .ofE C.K fun σ H Q => (rd C a W).e σ H fun f H0 => ∃ c, c ∈ cs ∧ f = .ref (He.ga C.K c) ∧ (rd C as W).a σ H0 fun vs H1 => ∀ x dx, H1 x = none → H1 dx = none → dx ≠ x →
      ∃ key, C.mth c "__init__" = some key ∧ kwRun C key [] (.ref x :: vs) [] (upd (upd H1 dx (.own x)) x (.ins (He.ga C.K c) dx [])) (fun v H2 => v = .non ∧ Q (.ref x) H2) fun cls d H' => W cls d σ H'
  | .mkk c as ks zs, W => .ofE C.K fun σ H Q => (rd C as W).a σ H fun vs H0 => (rd C zs W).a σ H0 fun us H1 => ∀ x dx, H1 x = none → H1 dx = none → dx ≠ x →
      ∃ key, C.mth c "__init__" = some key ∧ kwRun C key ks (.ref x :: vs) us (upd (upd H1 dx (.own x)) x (.ins (He.ga C.K c) dx [])) (fun v H2 => v = .non ∧ Q (.ref x) H2) fun cls d H' => W cls d σ H'
  | .oeq a b, W => .ofET (fun σ H Q => (rd C a W).e σ H fun x H1 => (rd C b W).e σ H1 fun y H2 => rOeq C x y H2 Q)
      (fun σ H Q => (rd C a W).e σ H fun x H1 => (rd C b W).e σ H1 fun y H2 => rOeq C x y H2 fun z H3 => match z with
        | .bl k => Q k H3
        | _ => False)
  | .lamc f b, W => .ofE C.K fun σ H Q => LamX.Tabs C.lt H ∧ ∀ H1, LamX.ExtN H H1 → LamX.Tabs C.lt H1 → C.lfn f (fun E H' Q' => (rd C b fun cls d _ H2 => E cls d H2).e σ H' Q') H1 Q
  | .act i, W => .ofE C.K fun σ H Q => match C.lam with
      | some L => L.i = i ∧ σ[i]? = some (some (.ref L.f)) ∧ H L.c = some (LamX.CodeO L.c L.q) ∧ L.T (fun cls d H' => W cls d σ H') H Q
      | none => False
end U

namespace U
open PySem PySem.Spec PyProof.Rows L2

/-! ### what is looked at in the text -/
structure SD where
  frees : List Str
  globs : List Str
  fns : List Str
  clss : List Str
  mks : List Str
  errs : List Str
  ecls : List Str
  lfns : List Str
structure SC where
  N : List Str
  sc : Scope
  top : Bool
  calm : Bool
  lam : Bool
def SC.vis (S : SC) (x : Str) : Bool := match S.sc.names.lookup x with
  | some .local => true | some .cell => true | some .free => true | _ => false
def SC.loc (S : SC) (x : Str) : Bool := match S.sc.names.lookup x with
  | some .local => true | some .cell => S.top | _ => false
def SC.gl (S : SC) (x : Str) : Bool := match S.sc.names.lookup x with
  | some .globalImplicit => !(x == ("__debug__" : Str)) && !(x == ("__name__" : Str)) | _ => false
def nst : Expr → Bool
  | .Starred .. => false
  | _ => true
def abase : Expr → Bool
  | .Call (.Name ..) [] [] _ => false
  | _ => true
def noSlice : Expr → Bool
  | .Slice .. => false
  | _ => true
def noComp : Expr → Bool
  | .ListComp .. => false | .SetComp .. => false | .DictComp .. => false
  | _ => true
def noSet : Expr → Bool
  | .Set .. => false
  | _ => true
def noTup : Expr → Bool
  | .Tuple .. => false | .List .. => false
  | _ => true
def constV : Const → Option V
  | .none => some .non | .bool b => some (.bl b) | .int i => some (.int i) | .str x => some (.str x) | _ => none
def B.nm : B → Str
  | .len => "len" | .abs => "abs" | .int => "int" | .bool => "bool" | .str => "str" | .list => "list" | .tuple => "tuple" | .sum => "sum" | .all => "all" | .any => "any" | .sorted => "sorted" | .dict => "dict"
/-- a class, as isinstance's second argument -/
def crOk (D : SD) (S : SC) (c : CR) : Expr → Bool
  | .Name x _ => S.gl x && (match c with
    | .ty n => decide (x ∈ D.frees) && (decide (bootBuiltins x = some (.type n)) && decide (n ∈ ["int", "bool", "str", "list", "tuple", "dict"]))
    | .own y => decide (x = y) && decide (x ∈ D.clss))
  | _ => false
def crsOk (D : SD) (S : SC) : List CR → List Expr → Bool
  | [], [] => true
  | c :: cs, e :: es => crOk D S c e && crsOk D S cs es
  | _, _ => false

/-- a class that a caught error is asked for -/
def ecrOk (D : SD) (S : SC) (c : CR) : Expr → Bool
  | .Name x _ => S.gl x && (match c with
    | .ty n => decide (x ∈ D.frees) && decide (bootBuiltins x = some (.type n))
    | .own y => decide (x = y) && decide (x ∈ D.ecls))
  | _ => false
/-- what is called: a name, a call's answer -/
def calE : Expr → Bool
  | .Name .. => true
  | .Call .. => true
  | _ => false
/-- the tests of a comprehension: none, or one -/
def ifOk (b : Bool) (f : Expr → Bool) (ifs : List Expr) : Bool := match b with
  | true => (match ifs with | [c] => f c | _ => false)
  | false => ifs.isEmpty
/-- several names, one of them no plain local -/
def notLoc (sc : Scope) : Expr → Bool
  | .Name x _ => !(sc.names.lookup x == some .local)
  | _ => true
def notSwap (sc : Scope) : Expr → Expr → Bool
  | .Tuple ts _ _, .Tuple vs _ _ => ts.any (notLoc sc)
  | _, _ => false
/-- no parameters -/
def noPar (a : Arguments) : Bool := a.posonlyargs.isEmpty && a.args.isEmpty && a.vararg.isNone && a.kwonlyargs.isEmpty && a.kw_defaults.isEmpty && a.kwarg.isNone && a.defaults.isEmpty
structure Ck where
  e : Expr → Bool := fun _ => false
  a : List Expr → Bool := fun _ => false
  s : Stmt → Bool := fun _ => false
  ss : List Stmt → Bool := fun _ => false
  g : Expr → Bool := fun _ => false
  gs : List Expr → Bool := fun _ => false
  i : Expr → Expr → Bool := fun _ _ => false
  p : List (Option Expr) → List Expr → Bool := fun _ _ => false
  o : Option Expr → Bool := fun _ => false
/-- a check that holds where no error is handled -/
def Ck.when (b : Bool) (k : Ck) : Ck := match b with
  | true => k
  | false => {}
/-- from a check of an expression: also a part of a slice -/
def Ck.ofE (f : Expr → Bool) : Ck := { e := f, o := fun | some x => f x | none => false }
def Ck.ofB (f : Expr → Bool) : Ck := { e := f }
def isBool (op : BoolOp) (f : List Expr → Bool) : Expr → Bool
  | .BoolOp op' vs _ => decide (op = op') && f vs
  | _ => false

def chk (D : SD) : I → SC → Ck
  | .k v, _ => .ofE fun
      | .Constant c _ _ => decide (constV c = some v)
      | _ => false
  | .v i, S => { Ck.ofE (fun
      | .Name x _ => decide (S.N[i]? = some x) && S.vis x && !(x == ("__debug__" : Str)) && !(x == ("__classdict__" : Str))
      | _ => false) with
      g := fun
      | .Name x _ => decide (S.N[i]? = some x) && S.loc x
      | _ => false }
  | .g y, S => .ofE fun
      | .Name x _ => decide (x = y) && S.gl x && decide (x ∈ D.globs)
      | _ => false
  | .bop op a b, S => .ofE fun
      | .BinOp x op' y _ => decide (op = op') && (chk D a S).e x && (chk D b S).e y
      | _ => false
  | .uop op a, S => .ofE fun
      | .UnaryOp op' x _ => decide (op = op') && decide (op ≠ .Not) && (chk D a S).e x
      | _ => false
  | .not a, S => .ofB fun
      | .UnaryOp op x _ => decide (op = .Not) && (chk D a S).e x
      | _ => false
  | .and a b, S => { Ck.ofB (fun
      | .BoolOp op (x :: rest) pos => decide (op = .And) && !rest.isEmpty && (chk D a S).e x && (match rest with
        | [y] => (chk D b S).e y
        | ys => (chk D b S).e (.BoolOp .And ys pos))
      | _ => false) with a := fun _ => false }
  | .or a b, S => { Ck.ofB (fun
      | .BoolOp op (x :: rest) pos => decide (op = .Or) && !rest.isEmpty && (chk D a S).e x && (match rest with
        | [y] => (chk D b S).e y
        | ys => (chk D b S).e (.BoolOp .Or ys pos))
      | _ => false) with a := fun _ => false }
  | .ite c a b, S => .ofB fun
      | .IfExp x y z _ => (chk D c S).e x && (chk D a S).e y && (chk D b S).e z
      | _ => false
  | .cmp op a b, S => .ofB fun
      | .Compare x ops ys _ => (match ops, ys with
        | [op'], [y] => decide (op = op') && !behindInMarks op y && (chk D a S).e x && (chk D b S).e y
        | _, _ => false)
      | _ => false
  | .cmp2 op1 op2 a b c, S => .ofB fun
      | .Compare x ops ys _ => (match ops, ys with
        | [o1, o2], [y, z] => decide (op1 = o1) && decide (op2 = o2) && !lastMarks [o1, o2] [y, z] && (chk D a S).e x && (chk D b S).e y && (chk D c S).e z
        | _, _ => false)
      | _ => false
  | .lst as, S => .ofE fun
      | .List es _ => (chk D as S).a es
      | _ => false
  | .tup as, S => .ofE fun
      | .Tuple es _ _ => (chk D as S).a es
      | _ => false
  | .dic ps, S => .ofE fun
      | .Dict ks vs _ => decide (ks.length ≤ 15) && decide (ks.length = vs.length) && (chk D ps S).p ks vs
      | _ => false
  | .call f as, S => Ck.when S.calm <| .ofE fun
      | .Call (.Name x _) es [] _ => decide (x = f) && S.gl x && decide (x ∈ D.fns) && (chk D as S).a es
      | _ => false
  | .mk c as, S => Ck.when S.calm <| .ofE fun
      | .Call (.Name x _) es [] _ => decide (x = c) && S.gl x && decide (x ∈ D.mks) && (chk D as S).a es
      | _ => false
  | .bi f as, S => Ck.when S.calm <| .ofE fun
      | .Call (.Name x _) es [] _ => decide (x = f.nm) && S.gl x && decide (x ∈ D.frees) && !es.isEmpty && (chk D as S).a es
      | _ => false
  | .isi a cs many, S => .ofE fun
      | .Call (.Name x _) [y, c] [] _ => decide (x = ("isinstance" : Str)) && S.gl x && decide (x ∈ D.frees) && nst y && !cs.isEmpty && (chk D a S).e y && (match many with
        | false => nst c && crsOk D S cs [c]
        | true => (match c with
          | .Tuple es _ _ => es.all nst && crsOk D S cs es && decide (es.length ≤ 15)
          | _ => false))
      | _ => false
  | .meth o m as, S => Ck.when S.calm <| .ofE fun
      | .Call (.Attribute x f ap) es [] pos => decide (f = m) && abase x && (ap.endLine == pos.line) && decide (es.length < 29) && (chk D o S).e x && (chk D as S).a es
      | _ => false
  | .bm m o as, S => .ofE fun
      | .Call (.Attribute x f ap) es [] pos => decide (f = m.nm) && abase x && (ap.endLine == pos.line) && decide (es.length < 29) && !es.isEmpty && (chk D o S).e x && (chk D as S).a es
      | _ => false
  | .icall o as ks zs, S => Ck.when S.calm <| .ofE fun
      | .Call fe es kws pos => calE fe && (chk D o S).e fe && (chk D as S).a es && decide (kws.map (·.arg) = ks.map some) && (chk D zs S).a (kws.map (·.value)) && decide (es.length + kws.length < 12)
      | _ => false
  | .ostr a, S => Ck.when S.calm <| .ofE fun
      | .Call (.Name x _) [y] [] _ => decide (x = ("str" : Str)) && S.gl x && decide (x ∈ D.frees) && nst y && (chk D a S).e y
      | _ => false
  | .att o f, S => Ck.when S.calm <| .ofE fun
      | .Attribute x f' _ => decide (f = f') && abase x && (chk D o S).e x
      | _ => false
  | .ix o i, S => .ofE fun
      | .Subscript x y _ => noSlice y && (chk D o S).e x && (chk D i S).e y
      | _ => false
  | .sl o lo hi, S => .ofE fun
      | .Subscript x (.Slice l h none _) _ => (chk D o S).e x && (chk D lo S).o l && (chk D hi S).o h
      | _ => false
  | .lc own elt tg it hasIf cond, S => Ck.when S.calm <| .ofE fun
      | .ListComp x [⟨t, it', ifs, 0⟩] sc _ => blkC S.N S.sc sc own && noSet it' && (chk D it S).i t it' && (chk D tg ⟨S.N, relS sc S.sc, false, true, false⟩).g t && ifOk hasIf (chk D cond ⟨S.N, relS sc S.sc, false, true, false⟩).e ifs && (chk D elt ⟨S.N, relS sc S.sc, false, true, false⟩).e x
      | _ => false
  | .nil, _ => ⟨fun _ => false, fun es => es.isEmpty, fun _ => false, fun ss => ss.isEmpty, fun _ => false, fun es => es.isEmpty, fun _ _ => false, fun ks vs => ks.isEmpty && vs.isEmpty, fun o => o.isNone⟩
  | .cons a b, S => ⟨fun _ => false, (fun | e :: es => nst e && (chk D a S).e e && (chk D b S).a es | [] => false), fun _ => false, (fun | s :: ss => (chk D a S).s s && (chk D b S).ss ss | [] => false), fun _ => false,
      (fun | e :: es => nst e && (chk D a S).g e && (chk D b S).gs es | [] => false), fun _ _ => false, fun _ _ => false, fun _ => false⟩
  | .pair k v r, S => { p := fun ks vs => match ks, vs with
      | some x :: ks, y :: vs => (chk D k S).e x && (chk D v S).e y && (chk D r S).p ks vs
      | _, _ => false }
  | .tupG gs, S => Ck.when S.calm { g := fun
      | .Tuple es _ _ => (chk D gs S).gs es
      | _ => false }
  | .subG o i, S => { g := fun
      | .Subscript x y _ => noSlice y && (chk D o S).e x && (chk D i S).e y
      | _ => false }
  | .attG o f, S => { g := fun
      | .Attribute x f' _ => decide (f = f') && abase x && (chk D o S).e x
      | _ => false }
  | .itL e, S => { i := fun _ x => (chk D e S).e x }
  | .itT e, S => { i := fun _ x => (chk D e S).e x }
  | .itS e, S => { i := fun _ x => (chk D e S).e x }
  | .itR1 a, S => { i := fun _ x => match x with
      | .Call (.Name f _) [y] [] _ => decide (f = ("range" : Str)) && S.gl f && decide (f ∈ D.frees) && nst y && (chk D a S).e y
      | _ => false }
  | .itR2 a b, S => { i := fun _ x => match x with
      | .Call (.Name f _) [y, z] [] _ => decide (f = ("range" : Str)) && S.gl f && decide (f ∈ D.frees) && nst y && nst z && (chk D a S).e y && (chk D b S).e z
      | _ => false }
  | .itE e, S => { i := fun t x => match t, x with
      | .Tuple _ _ _, .Call (.Name f _) [y] [] _ => decide (f = ("enumerate" : Str)) && S.gl f && decide (f ∈ D.frees) && nst y && (chk D e S).e y
      | _, _ => false }
  | .itES e, S => { i := fun t x => match t, x with
      | .Tuple _ _ _, .Call (.Name f _) [y] [] _ => decide (f = ("enumerate" : Str)) && S.gl f && decide (f ∈ D.frees) && nst y && (chk D e S).e y
      | _, _ => false }
  | .itZ a b, S => { i := fun t x => match t, x with
      | .Tuple _ _ _, .Call (.Name f _) [y, z] [] _ => decide (f = ("zip" : Str)) && S.gl f && decide (f ∈ D.frees) && nst y && nst z && (chk D a S).e y && (chk D b S).e z
      | _, _ => false }
  | .set g e, S => { s := fun
      | .Assign [t] x _ => noComp x && (noTup t || noTup x || notSwap S.sc t x) && nst t && (chk D g S).g t && (chk D e S).e x
      | _ => false }
  | .setLc i e, S => Ck.when S.calm { s := fun
      | .Assign [.Name y py] x _ => (match x with
        | .ListComp _ [_] sc pos => decide (S.N[i]? = some y) && decide (S.sc.names.lookup y = some .local) && (py.line == pos.line) && !(sc.names.any fun (n, k) => n == y && (k == .local || k == .cell))
        | _ => false) && (chk D e S).e x
      | _ => false }
  | .par i j as, S => Ck.when S.calm { s := fun
      | .Assign [.Tuple [.Name x px, .Name y py] _ _] (.Tuple [a, b] _ _) _ => decide (S.N[i]? = some x) && decide (S.N[j]? = some y) && decide (i ≠ j) && decide (S.sc.names.lookup x = some .local) && decide (S.sc.names.lookup y = some .local) &&
          (px.line == py.line) && !([a, b].all (foldedForSure 8)) && !([a, b].all (constantsAlone 8)) && (chk D as S).a [a, b]
      | _ => false }
  | .par3 i j l as, S => Ck.when S.calm { s := fun
      | .Assign [.Tuple [.Name x px, .Name y py, .Name z pz] _ _] (.Tuple [a, b, c] _ _) _ => decide (S.N[i]? = some x) && decide (S.N[j]? = some y) && decide (S.N[l]? = some z) && (decide (i ≠ j) && decide (i ≠ l) && decide (j ≠ l)) && (decide (S.sc.names.lookup x = some .local) && decide (S.sc.names.lookup y = some .local) && decide (S.sc.names.lookup z = some .local)) &&
          ((px.line == py.line) && (py.line == pz.line)) && !([a, b, c].all (foldedForSure 8)) && !([a, b, c].all (constantsAlone 8)) && (chk D as S).a [a, b, c]
      | _ => false }
  | .aug _ _ _, _ => {}
  | .expr e, S => { s := fun
      | .Expr x _ => noComp x && (chk D e S).e x
      | _ => false }
  | .ret e, S => { s := fun
      | .Return (some x) _ => (chk D e S).e x
      | _ => false }
  | .retN, _ => { s := fun
      | .Return none _ => true
      | _ => false }
  | .if_ c a b, S => { s := fun
      | .If x as bs _ => (chk D c S).e x && (chk D a S).ss as && (chk D b S).ss bs
      | _ => false }
  | .while_ c b, S => { s := fun
      | .While x bs [] _ => (chk D c S).e x && (chk D b S).ss bs
      | _ => false }
  | .for_ tg it b, S => Ck.when S.calm { s := fun
      | .For t x bs [] _ => noSet x && (chk D tg S).g t && (chk D it S).i t x && (chk D b S).ss bs
      | _ => false }
  | .raise c as, S => Ck.when S.calm { s := fun
      | .Raise (some (.Call (.Name x _) es [] _)) none _ => decide (x = c) && S.gl x && decide (x ∈ D.errs) && !es.isEmpty && (chk D as S).a es
      | _ => false }
  | .try_ c i b s, S => Ck.when S.calm { s := fun
      | .Try body [.ExceptHandler (some (.Name x _)) (some nm) (s0 :: suite) _] [] [] _ => decide (x = c) && S.gl x && decide (x ∈ D.ecls) && S.top && decide (S.N[i]? = some nm) && decide (S.sc.names.lookup nm = some .local) && (chk D b S).ss body && (chk D s ⟨S.N, S.sc, S.top, false, false⟩).ss (s0 :: suite)
      | _ => false }
  | .eatt o f, S => .ofE fun
      | .Attribute x f' _ => decide (f = f') && abase x && (chk D o S).e x
      | _ => false
  | .eisi o c, S => .ofE fun
      | .Call (.Name x _) [y, z] [] _ => decide (x = ("isinstance" : Str)) && S.gl x && decide (x ∈ D.frees) && nst y && nst z && (chk D o S).e y && ecrOk D S c z
      | _ => false
  | .methk o m as ks zs, S => Ck.when S.calm <| .ofE fun
      | .Call (.Attribute x f ap) es kws pos => decide (f = m) && abase x && (ap.endLine == pos.line) && decide (es.length + kws.length < 12) && (chk D o S).e x && (chk D as S).a es && decide (kws.map (·.arg) = ks.map some) && (chk D zs S).a (kws.map (·.value))
      | _ => false
  | .smeth c m as ks zs, S => Ck.when S.calm <| .ofE fun
      | .Call (.Attribute (.Name x _) f ap) es kws pos => decide (x = c) && S.gl x && decide (x ∈ D.clss) && decide (f = m) && (ap.endLine == pos.line) && decide (es.length + kws.length < 12) && (chk D as S).a es && decide (kws.map (·.arg) = ks.map some) && (chk D zs S).a (kws.map (·.value))
      | _ => false
  | .cmeth c m as ks zs, S => Ck.when S.calm <| .ofE fun
      | .Call (.Attribute (.Name x _) f ap) es kws pos => decide (x = c) && S.gl x && decide (x ∈ D.clss) && decide (f = m) && (ap.endLine == pos.line) && decide (es.length + kws.length < 12) && (chk D as S).a es && decide (kws.map (·.arg) = ks.map some) && (chk D zs S).a (kws.map (·.value))
      | _ => false
  | .mkv cs a as, S => Ck.when S.calm <| .ofE fun
      | .Call fe es [] pos => calE fe && (chk D a S).e fe && cs.all (fun c => decide (c ∈ D.mks)) && (chk D as S).a es
      | _ => false
  | .mkk c as ks zs, S => Ck.when S.calm <| .ofE fun
      | .Call (.Name x _) es kws pos => decide (x = c) && S.gl x && decide (x ∈ D.mks) && (chk D as S).a es && decide (kws.map (·.arg) = ks.map some) && (chk D zs S).a (kws.map (·.value))
      | _ => false
  | .oeq a b, S => Ck.when S.calm <| .ofB fun
      | .Compare x ops ys _ => (match ops, ys with
        | [op'], [y] => decide (op' = .Eq) && !behindInMarks .Eq y && (chk D a S).e x && (chk D b S).e y
        | _, _ => false)
      | _ => false
  | .lamc f b, S => Ck.when (S.calm && S.top && S.lam) <| .ofE fun
      | .Call (.Name x _) [.Lambda params body scope _] [] _ => decide (x = f) && S.gl x && decide (x ∈ D.lfns) && noPar params && LamX.lamSB S.sc scope && (chk D b ⟨S.N, scope, false, true, false⟩).e body
      | _ => false
  | .act i, S => Ck.when (S.calm && S.top) <| .ofE fun
      | .Call (.Name x _) [] [] _ => decide (S.N[i]? = some x) && S.vis x && !(x == ("__debug__" : Str)) && !(x == ("__classdict__" : Str))
      | _ => false
  | .never, _ => { s := fun _ => true }
  | .pass, _ => { s := fun
      | .Pass _ => true
      | _ => false }
  | .brk, _ => { s := fun
      | .Break _ => true
      | _ => false }
  | .cont, _ => { s := fun
      | .Continue _ => true
      | _ => false }
end U

namespace U
open PySem PySem.Spec PyProof.Rows L2
/-! ### own errors whose __init__ says super().__init__('..') and keeps its arguments -/
abbrev veT : List Value := [.type "ValueError", .type "Exception", .type "BaseException", .type "object"]
section
open PySem.W
variable {prog : Program} {w : World} {A : Around} {E : Value → Shared → Prop} {s : Shared} {h₀ : Heap} {L : Addr} {m mg : Str → Option Value} {K : Frag} {x C f cc cda t : Addr}
/-- what K holds of the __init__ at f of the class at C -/
structure SupI (prog : Program) (K : Frag) (mg : Str → Option Value) (C f cc cda : Addr) (scope : Scope) (slf : Str) (fd : FuncData) : Prop where
  fn : ∃ oc od osl, K.lookup f = some ⟨oc, od, .func fd, osl⟩
  hp : ∃ ar : Arg, (fd.params.posonlyargs ++ fd.params.args).head? = some ar ∧ ar.arg = slf
  code : ∃ ccl cdd vs ccs file tf, K.lookup cda = some ⟨ccl, cdd, .fields vs, ccs⟩ ∧ vs[2]? = some (.str file tf) ∧ ((prog.main.file : Str) == file) = true
  cell : ∃ cl cld csl, K.lookup cc = some ⟨cl, cld, .cell (some (.ref C)), csl⟩
  cls : ∃ cd, clsIn K C = some cd
  sub : mroIn K C (.ref C) = some true
  sup : mg "super" = none
  ks : scope.names.lookup ("super" : Str) = some .globalImplicit
  kc : scope.names.lookup ("__class__" : Str) = some .free
  ka : scope.names.lookup slf = some .local
  kd : scope.kind = .function
  top : (prog.main.scope.names.lookup ("super" : Str)).isSome = false
  opq : nsIn K cStatics "thirdparty.any" = some none
  ini : ks_superIn K C C "__init__" = some (some (.builtin "ValueError.__init__"))
  sve : subIn K (.ref C) (.type "ValueError") = some true
  exi : excInitIn K C veT "ValueError.__new__" = true
theorem super_stmt {q slf : Str} {scope : Scope} {fd : FuncData} {body : List Stmt} {p0 p1 p2 p3 p4 p5 : Pos} {txt : Str} {k : Nat} {Q : Flow → Shared → Prop} {mb : Str → Option Value}
    (I : SupI prog K mg C f cc cda scope slf fd) (F : Fr h₀ L s.heap m) (X₀ : K.In h₀) (N : News h₀ L s.heap [(x, excObj C t none .none)]) (G : h₀.Ns mainGlobals mg) (Bn : h₀.Ns builtinsNs mb) (hb : ∀ y : Str, y ≠ "__name__" → mb y = bootBuiltins y)
    (hv : m slf = some (.ref x)) (hl : (p2.endLine == p4.line) = true)
    (h : ∀ t' h' tk, Fr h₀ L h' m → h'.get? x = some (excObj C t' none .none) → Q .next { s with heap := h', toks := tk }) :
    _root_.PySem.wpAt (model prog w) A (.func body (ksEnv q scope L f (.ref cda) cc)) (exec (.Expr (.Call (.Attribute (.Call (.Name "super" p0) [] [] p1) "__init__" p2) [.Constant (.str txt) k p3] [] p4) p5) (ksEnv q scope L f (.ref cda) cc)) Q E s := by
  obtain ⟨oc, od, osl, hf⟩ := I.fn
  obtain ⟨ar, hp, rfl⟩ := I.hp
  obtain ⟨ccl, cdd, vs, ccs, file, tf, hcode, hvs, hfile⟩ := I.code
  obtain ⟨cl, cld, csl, hcell⟩ := I.cell
  obtain ⟨cdD, hD⟩ := I.cls
  have X : K.In s.heap := X₀.keeps F.keep
  have IX : InstAt s.heap x (excObj C t none .none) C none := InstAt.of_exc0 N (List.mem_singleton.mpr rfl)
  have he : eval (.Call (.Attribute (.Call (.Name "super" p0) [] [] p1) "__init__" p2) [.Constant (.str txt) k p3] [] p4) (ksEnv q scope L f (.ref cda) cc) = (do
      let ov ← attributeBase (.Call (.Name "super" p0) [] [] p1) "__init__" (ksEnv q scope L f (.ref cda) cc) (eval (.Call (.Name "super" p0) [] [] p1) (ksEnv q scope L f (.ref cda) cc))
      standAt p2.atName
      let (ff, first) ← holding [ov] (getMethod ov "__init__" (plainOf (.Call (.Name "super" p0) [] [] p1) (ksEnv q scope L f (.ref cda) cc)))
      callWith p4 ff first (backTo p4 (starEach [.Constant (.str txt) k p3] (ksEnv q scope L f (.ref cda) cc))) []) := by
    rw [arm_eval_Call]
    have hf : methodCallForm 1 (backTo p4 (starEach [.Constant (.str txt) k p3] (ksEnv q scope L f (.ref cda) cc))) [] = true := rfl
    have e : (backToKw p4 (keywordEach [] (ksEnv q scope L f (.ref cda) cc))) = [] := rfl
    simp only [e]
    have e2 : ∀ ov, methodCall (.Call (.Name "super" p0) [] [] p1) "__init__" p2 p4 (ksEnv q scope L f (.ref cda) cc) ov 1 (backTo p4 (starEach [.Constant (.str txt) k p3] (ksEnv q scope L f (.ref cda) cc))) [] = _ := fun ov => mcall_line hf hl
    exact congrArg _ (funext fun ov => congrArg _ (funext fun _ => e2 ov))
  refine ks_wpAt_Expr_any (ks_wpAt_MethodCall (pl := plainOf (.Call (.Name "super" p0) [] [] p1) (ksEnv q scope L f (.ref cda) cc)) ?_ he) (by
    have := I.kd
    unfold interactive
    simp [this])
  obtain ⟨hh, g, d, tk, os⟩ := s
  obtain ⟨oD, hD1, hD2⟩ : ∃ oD, hh.get? C = some oD ∧ oD.data = .cls cdD := by
    unfold clsIn at hD
    split at hD
    · rename_i c d cd' sl ho
      cases hD
      exact ⟨_, X _ _ ho, rfl⟩
    · cases hD
  refine ks_wpAt_super_base (env := ksEnv q scope L f (.ref cda) cc) I.ks I.kc (by decide) rfl (X _ _ hf) rfl hp rfl (X _ _ hcode) rfl hvs hfile I.top ?_
  refine ks_loadName_global I.kd I.ks (Calls.loadGlobal_builtin (env := ksEnv q scope L f (.ref cda) cc) (G.keeps F.keep) I.sup (Bn.keeps F.keep) ((hb _ (by decide)).trans (by decide +kernel)) ⟨rfl, ?_⟩)
  refine wpAny_loadName_free I.kd I.kc rfl ⟨_, X _ _ hcell, rfl⟩ ?_
  refine wpAny_loadName_local I.kd I.ka F.ns hv ?_
  refine ks_wpAny_isType_cls hD1 hD2 ⟨rfl, ?_⟩
  refine ks_wpAny_call_super hD1 hD2 IX.at_ IX.cls (fun c e => ?_) (looks_mroIn X I.sub) (fun h' e kp => ?_)
  · cases e
  obtain ⟨F1, N1, l1⟩ := ks_newsPush (s := ⟨hh, g, d, tk, os⟩) F N rfl e kp
  have IX1 : InstAt h' x (excObj C t none .none) C none := InstAt.of_exc0 N1 (List.mem_cons_of_mem _ (List.mem_singleton.mpr rfl))
  refine kxs_method kxs_ValueError F1 X₀ N1 (List.mem_cons_self ..) IX1 I.opq I.ini I.sve (by decide) fun u h2 F2 N2 l2 => ?_
  refine kxs_callWith1 N2 (List.mem_cons_self ..) ?_
  refine Calls.spliced_cons (Calls.Constant_str (k := k) (pos := p3) (Calls.spliced_nil ⟨kxs_at N2 (List.mem_cons_self ..), ?_⟩))
  have lx : x < hh.objs.size := l1 (x, _) (List.mem_singleton.mpr rfl)
  have lu : hh.objs.size < u := l2 (hh.objs.size, _) (List.mem_cons_self ..)
  refine kxs_call (t := t) (dv := none) (c2 := .none) (nw := fun o => [(u, kxs_mw "ValueError.__init__" x), (hh.objs.size, ks_superObj C x C), (x, o)]) F2 X₀ N2 PySem.F.excBase_ValueError I.exi (List.mem_cons_self ..) ?_ (by decide : 1 ≤ sizeLine) fun t' h3 F3 N3 l3 => ?_
  · exact .tail (Nat.ne_of_gt (Nat.lt_trans lx lu)) (.tail (Nat.ne_of_gt lx) (.head fun _ z => nomatch z))
  · exact h t' h3 _ F3 (N3 (x, excObj C t' none .none) (by simp)).1
end
end U

namespace U
open PySem PySem.Spec PyProof.Rows L2
/-- self.f = y, one behind another -/
inductive Sto (slf : Str) : List Stmt → List (Str × Str) → Prop
  | nil : Sto slf [] []
  | cons {f y : Str} {p1 p2 p3 p4 : Pos} {r : List Stmt} {l : List (Str × Str)} : Sto slf r l → Sto slf (.Assign [.Attribute (.Name slf p1) f p2] (.Name y p3) p4 :: r) ((f, y) :: l)
section
open PySem.W
variable {prog : Program} {w : World} {A : Around} {E : Value → Shared → Prop} {h₀ : Heap} {L : Addr} {m mg : Str → Option Value} {K : Frag} {x C f cc cda : Addr} {scope : Scope} {q slf : Str} {fv : Array Value}
abbrev exA (C : Addr) (d : Option Addr) (fv : Array Value) : Obj := { cls := .ref C, dict := d, data := .fields fv }
theorem ld_loc {s : Shared} {y : Str} {p : Pos} {u : Value} {Q : Value → Shared → Prop} (kd : scope.kind = .function) (hn : s.heap.Ns L m) (ky : scope.names.lookup y = some .local) (hd : (y == ("__debug__" : Str)) = false) (hv : m y = some u) (h : Q u s) :
    wpAny (model prog w) A (eval (.Name y p) (ksEnv q scope L f (.ref cda) cc)) Q E s := wpAny_Name (wpAny_loadName_local kd ky hn hv h) hd
theorem Fr.put {h h' : Heap} {dx : Addr} (F : Fr h₀ L h m) (hd : h₀.objs.size ≤ dx) (nL : dx ≠ L) (k : ∀ b o, b ≠ dx → h.get? b = some o → h'.get? b = some o) : Fr h₀ L h' m := by
  obtain ⟨oL, es, ep, hL, r⟩ := F.ns
  exact ⟨⟨oL, es, ep, k _ _ (Ne.symm nL) hL, r⟩, fun b o z => k b o (fun e => absurd (Heap.lt_size z) (by rw [e]; exact Nat.not_lt.mpr hd)) (F.keep b o z), F.above⟩
theorem sto_old {dx : Addr} (X₀ : K.In h₀) (hd : h₀.objs.size ≤ dx) (T : OexC K C) (kd : scope.kind = .function) (ks : scope.names.lookup slf = some .local) (ds : (slf == ("__debug__" : Str)) = false) (hs : m slf = some (.ref x)) (nL : dx ≠ L) : ∀ {st : List Stmt} {l : List (Str × Str)}, Sto slf st l →
    ∀ {s : Shared} {fs : List (Str × V)} {vs : List V}, Fr h₀ L s.heap m → s.heap.get? x = some (exA C (some dx) fv) → (∃ mA, s.heap.Ns1 dx mA ∧ ∀ g, RelO (fs.lookup g) (mA g)) → fs.length + l.length ≤ 900 → x ≠ dx →
    (∀ g ∈ l, findIn K (.ref C) g.1 = some none ∧ scope.names.lookup g.2 = some .local ∧ (g.2 == ("__debug__" : Str)) = false) → Paired (fun (g : Str × Str) (v : V) => ∃ u, m g.2 = some u ∧ RelV v u) l vs →
    ∀ {Q : Flow → Shared → Prop}, (∀ h' tk, (∀ b o, b ≠ dx → s.heap.get? b = some o → h'.get? b = some o) → (∃ mA, h'.Ns1 dx mA ∧ ∀ g, RelO (((l.map (·.1)).zip vs).reverse ++ fs |>.lookup g) (mA g)) → Q .next { s with heap := h', toks := tk }) →
    wpAny (model prog w) A (execs st (ksEnv q scope L f (.ref cda) cc)) Q E s := by
  intro st l S
  induction S with
  | nil =>
    intro s fs vs F hx hD hl hne hg hv Q h
    cases hv
    exact wpAny_execs_nil (h s.heap s.toks (fun _ _ _ e => e) hD)
  | @cons fl y p1 p2 p3 p4 r l S ih =>
    intro s fs vs F hx hD hl hne hg hv Q h
    cases hv with
    | @cons _ v _ vs' hv0 hvs =>
      obtain ⟨u, hu, ru⟩ := hv0
      have X : K.In s.heap := X₀.keeps F.keep
      have N := F.ns
      obtain ⟨g1, g2, g3⟩ := hg (fl, y) (List.mem_cons_self ..)
      obtain ⟨nm, qn, N', bs, bm, sn, sub, ab, col, dd, k0, k1, k2, k3, k5, hC, hbm⟩ := T.cls
      have hcl : clsIn K C = some { name := nm, bases := bs, mro := .ref C :: bm, ns := N', qualname := qn, hasDict := true, slotNames := sn, subclasses := sub, abstract := ab, collection := col, hasDel := false } := by unfold clsIn; rw [hC] <;> rfl
      obtain ⟨mA, hns, rel⟩ := hD
      have hw := within_of rel
      refine wpAny_execs_cons (plainObj_wpAny_Assign_Attribute (ld_loc kd N g2 g3 hu (ld_loc kd N ks ds hs ?_)) rfl)
      obtain ⟨hp, g, d, t, os⟩ := s
      obtain ⟨oD, _, _, hoD, _, _⟩ := hns.count hw
      refine set_plain X (ox := exA C (some dx) fv) (od := some oD) ⟨hx, rfl, rfl, hoD⟩ T.sa ?_
      refine PySem.OEX.osa_old X hx hns hw (by rw [List.length_map]; omega) hcl (show PySem.HandSPX.refsVE (.ref C :: bm) = true from hbm) rfl g1 (fun h' tk' k hn => ?_)
      refine ih (s := ⟨h', g, d, tk', os⟩) (fs := (fl, v) :: fs) (vs := vs') (Fr.put F hd nL k) (k _ _ hne hx) ⟨_, hn, relO_put ru rel⟩ (by simp at hl ⊢; omega) hne (fun g hg' => hg g (List.mem_cons_of_mem _ hg')) hvs ?_
      · intro h2 tk2 k2 hD2
        refine h h2 tk2 (fun b o nb e => k2 b o nb (k b o nb e)) ?_
        simpa using hD2
end
end U

namespace U
open PySem PySem.Spec PyProof.Rows L2
section
open PySem.W
variable {prog : Program} {w : World} {A : Around} {mg mb : Str → Option Value} {K : Frag} {x C f cc cda t : Addr} {scope : Scope} {slf : Str} {hp : Heap}
theorem lookup_rev {α β : Type} [BEq α] [LawfulBEq α] (a : α) : ∀ {l : List (α × β)}, (l.map (·.1)).Nodup → l.reverse.lookup a = l.lookup a
  | [], _ => rfl
  | (k, v) :: r, h => by
    rw [List.map_cons, List.nodup_cons] at h
    rw [List.reverse_cons, List.lookup_append, lookup_rev a h.2, List.lookup_cons]
    cases e : (a == k) with
    | true =>
      have hn : r.lookup a = none := by
        cases q : r.lookup a with
        | none => rfl
        | some b => exact absurd (by rw [← eq_of_beq e]; exact List.mem_map.mpr ⟨_, lookup_mem q, rfl⟩) h.1
      rw [hn]
      simp [List.lookup, e]
    | false =>
      cases q : r.lookup a <;> simp [List.lookup, e, q]
theorem paired_imp {α β : Type} {P Q : α → β → Prop} : ∀ {l : List α} {vs : List β}, Paired P l vs → (∀ a ∈ l, ∀ b, P a b → Q a b) → Paired Q l vs
  | _, _, .nil, _ => .nil
  | _, _, .cons h r, k => .cons (k _ (List.mem_cons_self ..) _ h) (paired_imp r fun a ha => k a (List.mem_cons_of_mem _ ha))
theorem init_ok {name qual : Str} {params : Arguments} {dV kV doc pm ct : Value} {an : Option Addr} {st : List Stmt} {l : List (Str × Str)} {p0 p1 p2 p3 p4 p5 : Pos} {txt : Str} {k : Nat} {ys : List Str} {us : List Value} {vs : List V} {s : Shared} {R : Result → Shared → Prop}
    (I : SupI prog K mg C f cc cda scope slf (ksFn name qual params (.Expr (.Call (.Attribute (.Call (.Name "super" p0) [] [] p1) "__init__" p2) [.Constant (.str txt) k p3] [] p4) p5 :: st) scope dV kV doc pm an (.ref cda) ct cc))
    (T : OexC K C) (S : Sto slf st l) (X₀ : K.In hp) (G : hp.Ns mainGlobals mg) (Bn : hp.Ns builtinsNs mb) (hb : ∀ y : Str, y ≠ "__name__" → mb y = bootBuiltins y) (hlim : s.heap.NoLimit) (hcd : codeIn K (.ref cda) qual = true)
    (hroom : A.depth < recursionLimit) (hk : ∀ b o, hp.get? b = some o → s.heap.get? b = some o) (hxs : hp.objs.size ≤ x) (hx : s.heap.get? x = some (excObj C t none .none)) (hsz : hp.objs.size ≤ s.heap.objs.size)
    (hbind : BindsTo s (ksFn name qual params (.Expr (.Call (.Attribute (.Call (.Name "super" p0) [] [] p1) "__init__" p2) [.Constant (.str txt) k p3] [] p4) p5 :: st) scope dV kV doc pm an (.ref cda) ct cc) ⟨.ref x :: us, []⟩ ((slf :: ys).zip (.ref x :: us)))
    (hloc : ∀ z ∈ slf :: ys, scope.names.lookup z = some .local ∧ (z == ("__debug__" : Str)) = false) (hnd : (slf :: ys).Nodup) (hlen : us.length = ys.length) (hcell : ∀ z ∈ scope.names, z.2 ≠ .cell) (hl : (p2.endLine == p4.line) = true)
    (hco : scope.isCoroutine = false) (hgen : scope.isGenerator = false) (hlz : l.length ≤ 800) (hne : l ≠ [])
    (hg : ∀ g ∈ l, findIn K (.ref C) g.1 = some none ∧ g.2 ∈ ys) (hv : Paired (fun (g : Str × Str) (v : V) => ∃ u, (ys.zip us).lookup g.2 = some u ∧ RelV v u) l vs)
    (h : ∀ h' tk dx t', (∀ b o, hp.get? b = some o → h'.get? b = some o) → hp.objs.size ≤ dx → dx ≠ x → h'.get? x = some (exA C (some dx) #[.ref t', .none, .none, .none, .bool false, .none]) →
      (∃ mA, h'.Ns1 dx mA ∧ ∀ g, RelO (((l.map (·.1)).zip vs).reverse.lookup g) (mA g)) → R (.ok (.ret .none)) { s with heap := h', toks := tk }) :
    codeAny (model prog w) A (.call (.ref f) ⟨.ref x :: us, []⟩) R s := by
  obtain ⟨oc, od, osl, hf⟩ := I.fn
  have X : K.In s.heap := fun b o e => hk b o (X₀ b o e)
  refine ks_codeAny_call_defAt hroom (X _ _ hf) rfl hlim (codeRec_of X hcd) rfl hbind hcell ?_ ?_ hco hgen I.kd
  · intro z hz
    exact (hloc _ (List.of_mem_zip hz).1).1
  intro h1 hns keep1
  have hxL : x < s.heap.objs.size := Heap.lt_size hx
  have F : Fr hp s.heap.objs.size h1 (fun y => ((slf :: ys).zip (Value.ref x :: us)).reverse.lookup y) := ⟨hns, fun b o e => keep1 b o (hk b o e), hsz⟩
  have N : News hp s.heap.objs.size h1 [(x, excObj C t none .none)] := by
    intro p hp'
    rw [List.mem_singleton.mp hp']
    refine ⟨keep1 _ _ hx, Nat.ne_of_lt hxL, ?_⟩
    cases e : hp.get? x with
    | none => rfl
    | some o => exact absurd (Heap.lt_size e) (Nat.not_lt.mpr hxs)
  have hrev : ∀ y, ((slf :: ys).zip (Value.ref x :: us)).reverse.lookup y = ((slf :: ys).zip (Value.ref x :: us)).lookup y := fun y => lookup_rev y (by
    rw [List.map_fst_zip (by simp [hlen])]
    exact hnd)
  have hself : ((slf :: ys).zip (Value.ref x :: us)).reverse.lookup slf = some (.ref x) := by
    rw [hrev, List.zip_cons_cons, List.lookup_cons, beq_self_eq_true]
  have hys : ∀ y ∈ ys, ((slf :: ys).zip (Value.ref x :: us)).reverse.lookup y = (ys.zip us).lookup y := fun y hy => by
    have ne : (y == slf) = false := beq_false_of_ne fun e => (List.nodup_cons.mp hnd).1 (e ▸ hy)
    rw [hrev, List.zip_cons_cons, List.lookup_cons, ne]
  refine ks_wpAt_execs_cons (super_stmt (q := qual) (mb := mb) I F X₀ N G Bn hb hself hl fun t' h2 tk F2 hx2 => ?_)
  refine wpAt_of_wpAny ?_
  cases S with
  | nil => exact absurd rfl hne
  | @cons fl y q1 q2 q3 q4 r l S =>
    cases hv with
    | @cons _ v _ vs' hv0 hvs =>
      obtain ⟨u, hu, ru⟩ := hv0
      obtain ⟨g1, g2⟩ := hg (fl, y) (List.mem_cons_self ..)
      obtain ⟨nm, qn, N', bs, bm, sn, sub, ab, col, dd, k0, k1, k2, k3, k5, hC, hbm⟩ := T.cls
      have hcl : clsIn K C = some { name := nm, bases := bs, mro := .ref C :: bm, ns := N', qualname := qn, hasDict := true, slotNames := sn, subclasses := sub, abstract := ab, collection := col, hasDel := false } := by unfold clsIn; rw [hC] <;> rfl
      have X2 : K.In h2 := X₀.keeps F2.keep
      obtain ⟨l1, l2⟩ := hloc slf (List.mem_cons_self ..)
      obtain ⟨l3, l4⟩ := hloc y (List.mem_cons_of_mem _ g2)
      refine wpAny_execs_cons (plainObj_wpAny_Assign_Attribute (ld_loc I.kd F2.ns l3 l4 ((hys y g2).trans hu) (ld_loc I.kd F2.ns l1 l2 hself ?_)) rfl)
      refine set_plain X2 (ox := excObj C t' none .none) (od := none) ⟨hx2, rfl, rfl, trivial⟩ T.sa ?_
      refine PySem.HandSPX.exc_osa X2 hx2 hcl (show PySem.HandSPX.refsVE (.ref C :: bm) = true from hbm) rfl g1 (fun h3 tk3 dx kp dn dne hx3 hn3 => ?_)
      have Ls : s.heap.objs.size < h2.objs.size := F2.ns.lt
      have F3 := Fr.put F2 hxs (Nat.ne_of_lt hxL) kp
      have nL : dx ≠ s.heap.objs.size := Nat.ne_of_gt (Nat.lt_of_lt_of_le Ls dn)
      have hdx : hp.objs.size ≤ dx := Nat.le_trans hsz (Nat.le_of_lt (Nat.lt_of_lt_of_le Ls dn))
      refine sto_old X₀ hdx T I.kd l1 l2 hself nL S (s := { s with heap := h3, toks := tk3 }) (fs := [(fl, v)]) (vs := vs') F3 hx3 ⟨_, hn3, relO_put (fs := []) ru fun g => True.intro⟩ (by simp at hlz ⊢; omega) (Ne.symm dne) (fun g hg' => ?_) ?_ fun h4 tk4 k4 hD4 => ?_
      · obtain ⟨a1, a2⟩ := hg g (List.mem_cons_of_mem _ hg')
        obtain ⟨a3, a4⟩ := hloc g.2 (List.mem_cons_of_mem _ a2)
        exact ⟨a1, a3, a4⟩
      · exact paired_imp hvs fun g hg' v ⟨u, e1, e2⟩ => ⟨u, (hys g.2 (hg g (List.mem_cons_of_mem _ hg')).2).trans e1, e2⟩
      · have F4 := Fr.put F3 hdx nL k4
        refine h h4 tk4 dx t' F4.keep hdx dne (k4 _ _ (Ne.symm dne) hx3) ?_
        simpa using hD4
end
end U

namespace U
open PySem PySem.Spec PyProof.Rows L2
/-- what is known of an own error: its class at C, its __init__ at fI; fs its fields -/
structure ErrI (prog : Program) (K : PySem.W.Frag) (mg : Str → Option Value) (C fI : Addr) (fs : List Str) : Prop where
  cls : OexC K C
  ini : PySem.W.findIn K (.ref C) "__init__" = some (some (.ref fI))
  typ : PySem.W.typeIn K (.ref fI) = some (.type "function")
  nof : ∀ g ∈ fs, PySem.W.findIn K (.ref C) g = some none
  def_ : ∃ (cc cda : Addr) (scope : Scope) (slf name qual : Str) (params : Arguments) (dV kV doc pm ct : Value) (an : Option Addr) (st : List Stmt) (l : List (Str × Str)) (p0 p1 p2 p3 p4 p5 : Pos) (txt : Str) (k : Nat) (ys : List Str),
    SupI prog K mg C fI cc cda scope slf (PySem.W.ksFn name qual params (.Expr (.Call (.Attribute (.Call (.Name "super" p0) [] [] p1) "__init__" p2) [.Constant (.str txt) k p3] [] p4) p5 :: st) scope dV kV doc pm an (.ref cda) ct cc) ∧
    Sto slf st l ∧ PySem.W.codeIn K (.ref cda) qual = true ∧ (∀ (s : Shared) (us : List Value), K.In s.heap → us.length = ys.length → ∀ x : Addr, BindsTo s (PySem.W.ksFn name qual params (.Expr (.Call (.Attribute (.Call (.Name "super" p0) [] [] p1) "__init__" p2) [.Constant (.str txt) k p3] [] p4) p5 :: st) scope dV kV doc pm an (.ref cda) ct cc) ⟨.ref x :: us, []⟩ ((slf :: ys).zip (.ref x :: us))) ∧
    (∀ z ∈ slf :: ys, scope.names.lookup z = some .local ∧ (z == ("__debug__" : Str)) = false) ∧ (slf :: ys).Nodup ∧ (∀ z ∈ scope.names, z.2 ≠ .cell) ∧ (p2.endLine == p4.line) = true ∧ scope.isCoroutine = false ∧ scope.isGenerator = false ∧ l.length ≤ 800 ∧ l ≠ [] ∧ l.map (·.1) = fs ∧ l.map (·.2) = ys
section
variable {X : Cx} {C fI : Addr} {fs : List Str} {x : Str} {e : Expr} {es : List Expr} {ta : TA} {p pos : Pos}
theorem paired_self {ys : List Str} : ∀ {us : List Value} {vs : List V}, ys.Nodup → us.length = ys.length → Vals vs us → Paired (fun (y : Str) (v : V) => ∃ u, (ys.zip us).lookup y = some u ∧ RelV v u) ys vs := by
  induction ys with
  | nil =>
    intro us vs _ hl r
    cases us with
    | nil => cases r; exact .nil
    | cons => cases hl
  | cons y ys ih =>
    intro us vs hn hl r
    cases us with
    | nil => cases hl
    | cons u us =>
      cases r with
      | @cons v _ vs _ rv r =>
        obtain ⟨h1, h2⟩ := List.nodup_cons.mp hn
        refine .cons ⟨u, by rw [List.zip_cons_cons, List.lookup_cons, beq_self_eq_true], rv⟩ (paired_imp (ih h2 (by simpa using hl) r) fun z hz v ⟨u', e1, e2⟩ => ⟨u', ?_, e2⟩)
        have ne : (z == y) = false := beq_false_of_ne fun e => h1 (e ▸ hz)
        rw [List.zip_cons_cons, List.lookup_cons, ne]
        exact e1
theorem paired_map {l : List (Str × Str)} {P : Str → V → Prop} : ∀ {vs : List V}, Paired P (l.map (·.2)) vs → Paired (fun (g : Str × Str) v => P g.2 v) l vs := by
  induction l with
  | nil => intro vs h; cases h; exact .nil
  | cons g l ih => intro vs h; cases h with | cons a b => exact .cons a (ih b)
/-- C(e, ..): an own error is made; its dict is d -/
theorem pmk_err {R : List V → Hp → XK → Prop} (hR : ∀ vs H1 Q, R vs H1 Q → vs.length = fs.length ∧ ∀ d, H1 d = none → Q (.ref C) (some d) (upd H1 d (.xd (fs.zip vs).reverse))) (T : ErrI X.prog X.K X.mg C fI fs) (hr : Room 1 X.A) (hg : Gl X x) (hm : X.mg x = some (.ref C)) (ha : PA X (e :: es) ta) (hdb : (x == ("__debug__" : Str)) = false) (he : starEach (e :: es) X.env = (false, eval e X.env) :: starEach es X.env) (hpl : (backTo pos (starEach es X.env)).any (·.1) = false) :
    PMk X (.Call (.Name x p) (e :: es) [] pos) (fun σ H Q => ta σ H fun vs H1 => R vs H1 Q) := by
  intro pins s σ H Q I h
  obtain ⟨nm, q, N, bs, bm, sn, sub, ab, col, dd, k0, k1, k2, k3, k5, hC, hbm⟩ := T.cls.cls
  obtain ⟨cc, cda, scope, slf, name, qual, params, dV, kV, doc, pm, ct, an, st, l, p0, p1, p2, p3, p4, p5, txt, k, ys, S, hst, hcd, hbd, hloc, hnd, hcell, hln, hco, hgen, hlz, hne, hl1, hl2⟩ := T.def_
  refine wpAny_Call_Name_kw (ld_glob I hg hm ?_ hdb)
  refine PySem.W.callWith_K (h₀ := X.base) I.ok.mod.kin T.cls.kC (thn (ha.run pos pins s σ H _ I h) fun us s1 ⟨vs, H1, I1, r1, hz0⟩ => ⟨I1.kIn, ?_⟩) he hpl
  obtain ⟨hz, q1⟩ := hR _ _ _ hz0
  show wpAny _ _ (call (.ref C) us) _ _ _
  obtain ⟨hp, g, dr, tk, os⟩ := s1
  have hys : ys.length = us.length := by rw [← r1.length, hz, ← hl1, ← hl2, List.length_map, List.length_map]
  obtain ⟨mb, hb1, hb2⟩ := I1.ok.mod.blt
  have kb : ∀ b o, X.base.get? b = some o → hp.get? b = some o := I1.bk
  have hus : us.length ≤ sizeLine := by
    have z : (800 : Nat) ≤ sizeLine := by decide
    rw [← hys, ← hl2, List.length_map]
    omega
  refine wpAny_call (PySem.HandSPX.call_own PySem.F.excBase_ValueError (fun Y => PySem.HandSPX.refsVE_contains Y bm hbm) (I1.kIn _ _ hC) (PySem.W.looks_findIn I1.kIn T.ini) (fun slf => PySem.W.bind_fn I1.kIn slf T.typ) hus ?_)
  have kk : ∀ b o, hp.get? b = some o → ((hp.push (PySem.W.kdv_tup us)).push (PySem.HandSPX.excO C hp.objs.size)).get? b = some o := fun b o e => Heap.get?_push_of_some _ (Heap.get?_push_of_some _ e)
  have hget : ((hp.push (PySem.W.kdv_tup us)).push (PySem.HandSPX.excO C hp.objs.size)).get? (hp.objs.size + 1) = some (PySem.HandSPX.excO C hp.objs.size) := by heap_get
  refine init_ok (hp := hp) (mb := mb) (vs := vs) (l := l) S T.cls hst I1.kIn (I1.ok.mod.glob.keeps kb) (hb1.keeps kb) hb2 ?_ hcd ?_ kk (Nat.le_succ _) hget ?_ (hbd _ us (fun b o z => kk b o (I1.kIn b o z)) hys.symm _) hloc hnd hys.symm hcell hln hco hgen hlz hne ?_ ?_ ?_
  · exact (I1.ok.mod.nolimit.keeps kb).keeps kk
  · exact (Room.make hr C us []).depth
  · exact Nat.le_of_lt (Nat.lt_of_succ_lt (Heap.lt_size hget))
  · intro g' hg'
    exact ⟨T.nof g'.1 (by rw [← hl1]; exact List.mem_map.mpr ⟨g', hg', rfl⟩), by rw [← hl2]; exact List.mem_map.mpr ⟨g', hg', rfl⟩⟩
  · refine paired_map (P := fun y v => ∃ u, (ys.zip us).lookup y = some u ∧ RelV v u) ?_
    rw [hl2]
    exact paired_self (List.nodup_cons.mp hnd).2 hys.symm r1
  · intro h' tk' dx t' keep hdx hne hx hD
    rw [hl1] at hD
    have hn1 : H1 dx = none := I1.hok.fresh hdx
    have hna : H1 (hp.objs.size + 1) = none := I1.hok.fresh (Nat.le_succ _)
    obtain ⟨G, g1, g2⟩ := restrict h' fun b => decide (b ≠ hp.objs.size + 1)
    have gk : ∀ b, b ≠ hp.objs.size + 1 → G.get? b = h'.get? b := fun b hb => g1 b (decide_eq_true hb)
    have ge : G.get? (hp.objs.size + 1) = none := g2 _ (by simp)
    have hk2 : ∀ b o, hp.get? b = some o → G.get? b = some o := fun b o z => by
      rw [gk b (Nat.ne_of_lt (Nat.lt_succ_of_lt (Heap.lt_size z)))]
      exact keep b o z
    obtain ⟨mA, hns, rel⟩ := hD
    have J := I1.laid (t' := tk') (a := dx) (o := .xd (fs.zip vs).reverse) (h' := G) hk2 hdx ⟨mA, hns.at fun o y => (gk dx hne).trans y, rel⟩
    refine ⟨rfl, hp.objs.size + 1, _, _, _, _, .ref C, some dx, rfl, J, fun b o z => ?_, ge, hx, ⟨rfl, rfl⟩, rfl, rfl, ?_, rfl, I1.bare, raises_own T.cls.exC T.cls.tyC, q1 dx hn1⟩
    · by_cases hb : b = hp.objs.size + 1
      · rw [hb] at z
        rw [show G.get? (hp.objs.size + 1) = none from ge] at z
        cases z
      · exact (gk b hb).symm.trans z
    · rw [upd_ne (Ne.symm hne)]
      exact hna
end
end U

namespace U
open PySem PySem.Spec PyProof.Rows L2
/-! ### a caught error as a thing that is tracked -/
theorem errO_ok {P : Program} {w : World} {H : Hp} {h : Heap} {a : Addr} {cls : Value} {d : Option Addr} {oe : Obj} {vs : Array Value} (he : h.get? a = some oe) (hz : Zc cls d oe) (hd : oe.data = .fields vs) : ObjOk P w H h a (errO a cls d) :=
  ⟨⟨oe, vs, he, hz, hd⟩, ⟨oe, he⟩, fun h1 h2 ⟨o, us, e1, e2, e3⟩ k => ⟨o, us, k o e1, e2, e3⟩⟩
theorem errO_at {P : Program} {w : World} {H : Hp} {h : Heap} {a : Addr} {cls : Value} {d : Option Addr} (hok : HOk P w H h) (e : H a = some (errO a cls d)) : ∃ (oe : Obj) (vs : Array Value), h.get? a = some oe ∧ Zc cls d oe ∧ oe.data = .fields vs := by
  have x : ObjOk P w H h a (.ext fun h => ∃ (oe : Obj) (vs : Array Value), h.get? a = some oe ∧ Zc cls d oe ∧ oe.data = .fields vs) := hok a _ e
  exact x.1
section
variable {X : Cx} {pins : List (Addr × Obj)} {σ : St} {H : Hp} {sI s s' : Shared} {B : Heap}
theorem landedV {a : Addr} {cls : Value} {d : Option Addr} {oe : Obj} {vs : Array Value} (I : Inv X pins σ H sI) (nb : ∀ b o, sI.heap.get? b = some o → b ∉ frs X.stack → B.get? b = some o) (st : B.StaysIn s'.heap) (up : sI.heap.UpToSlots s'.heap) (os : s'.os = sI.os) (ag : AllBare s'.gens)
    (hn : sI.heap.get? a = none) (na : H a = none) (he : s'.heap.get? a = some oe) (hz : Zc cls d oe) (hd : oe.data = .fields vs) : Inv X pins σ (upd H a (errO a cls d)) s' := by
  have nf : ∀ b ∈ frs X.stack, ∀ o, sI.heap.get? b = some o → ∃ sl, s'.heap.get? b = some { o with slots := sl } := by
    intro b hb o e
    obtain ⟨_, o', e', hd'⟩ := I.stack.mem hb
    rw [e] at e'
    cases e'
    exact up b o e hd'
  have ne : ∀ {b : Addr} {o : Obj}, sI.heap.get? b = some o → b ≠ a := fun {b o} e z => by
    rw [z, hn] at e
    cases e
  have nH : ∀ {b : Addr} {o : HO}, H b = some o → b ≠ a := fun {b o} e => ne_of_none e na
  have hokS : HOk X.prog X.w H s'.heap := (I.inGround nb).kept st
  have hok2 : HOk X.prog X.w (upd H a (errO a cls d)) s'.heap := by
    intro b o q
    by_cases hb : b = a
    · subst hb
      rw [upd_same] at q
      cases q
      exact errO_ok he hz hd
    · rw [upd_ne hb] at q
      exact (hokS b o q).stay (fun c v _ z => z) (fun c hc => by rw [upd_ne (nH hc)]; exact hc) (fun c xs hc => by rw [upd_ne (nH hc)]; exact hc)
  have J := I.call (ch := []) (h' := s'.heap) (g' := s'.gens) (t' := s'.toks) (d' := s'.drawn) (H' := upd H a (errO a cls d))
    ⟨fun b o e _ hb _ => st b o (nb b o e hb), fun b o e _ hb _ => nf b hb o e, fun b o e n _ => by rw [upd_ne (ne e)]; exact n, fun b o e _ => by
      by_cases hb : b ∈ frs X.stack
      · obtain ⟨sl, q⟩ := nf b hb o e
        exact ⟨_, q⟩
      · exact ⟨o, st b o (nb b o e hb)⟩, fun b xs e => by rw [upd_ne (nH e)]; exact e, fun b o u e => by rw [upd_ne (nH e)]; exact e, fun b ps e => ⟨#[], by rw [upd_ne (nH e), e]; simp⟩⟩
    hok2 ag (fun _ z => nomatch z)
  obtain ⟨a1, a2, a3, a4, a5⟩ := s'
  have e5 : a5 = sI.os := os
  subst e5
  exact J
end
end U

namespace U
open PySem PySem.Spec PyProof.Rows L2
section
variable {X : Cx} {pins : List (Addr × Obj)} {σ : St} {H : Hp} {s : Shared}
/-- into a suite, out of it: nothing is pinned -/
theorem toSuite (I : Inv X pins σ H s) (a : Addr) : Inv (X.suite a (X.pn ++ pins)) [] σ H s := by
  refine ⟨I.ok.suite _ _, I.os, I.bare, I.base, I.loc, I.cell, I.free, I.freeC, fun p hp => I.pin p ?_, I.hok, I.len⟩
  rw [List.append_nil] at hp
  exact hp
theorem ofSuite {a : Addr} {pn' : List (Addr × Obj)} (I : Inv (X.suite a (X.pn ++ pins)) pn' σ H s) (ok : X.Ok) : Inv X pins σ H s :=
  ⟨ok, I.os, I.bare, I.base, I.loc, I.cell, I.free, I.freeC, fun p hp => I.pin p (List.mem_append_left _ hp), I.hok, I.len⟩
/-- the wish of 'except x as n', the error a tracked thing; slot i is n's -/
def wVal (K : PySem.W.Frag) (c : Value) (i : Nat) (ts : TS) (Wout : WX) (D : Ends) : WX := fun cls d σ H => ∃ b, PySem.W.exmOne K cls c = some b ∧
  (b = true → ∀ a, H a = none → ts ⟨fun σ' H' => D.nx (σ'.set i none) H', D.rt, fun σ' H' => D.bk (σ'.set i none) H', fun σ' H' => D.ct (σ'.set i none) H'⟩ (σ.set i (some (.ref a))) (upd H a (errO a cls d))) ∧ (b = false → Wout cls d σ H)
variable {x n : Str} {c : Value} {i : Nat} {body suite : List Stmt} {b₀ : Stmt} {np pos pos' : Pos} {tb : WX → TS} {ts : TS} {Wout : WX}
theorem ps_try_val {Wf : Ends → WX} (hW : ∀ D cls d σ H, Wf D cls d σ H → wVal X.K c i ts Wout D cls d σ H) (hs : X.stack = X.env :: X.outer) (hf : X.env.frame = some X.env.locals) (hN : X.N.Nodup) (hi : X.N[i]? = some n) (hln : X.env.kindOf n = some .local) (hc : Names X x c) (tk : Takes X Wout)
    (hb : ∀ (W : WX) (pn : List (Addr × Obj)) (xe : Value → Shared → Prop), Takes (X.tr pn xe) W → PassesOwn (model X.prog X.w) X.A X.env xe → PSs (X.tr pn xe) body (tb W))
    (hsu : ∀ (a : Addr) (pn : List (Addr × Obj)), PSs (X.suite a pn) (b₀ :: suite) ts) :
    PS X (.Try body [.ExceptHandler (some (.Name x np)) (some n) (b₀ :: suite) pos'] [] [] pos) (fun D σ H => tb (Wf D) D σ H) := by
  refine ⟨fun pins s σ H D I h => ?_⟩
  have ok := I.ok
  have hfr : X.A.frames = some (X.env :: X.outer) := ok.frames.trans (congrArg some hs)
  refine wpAny_Try_except (wpAny_mono ((hb (Wf D) (X.pn ++ pins) (fun e s₁ => wpAny (model X.prog X.w) X.A (noteFrame e X.env) (fun _ s₂ => wpAny (model X.prog X.w) X.A (setFlight e none) (fun _ s₃ =>
    wpAny (model X.prog X.w) X.A (handleBy e X.env [.ExceptHandler (some (.Name x np)) (some n) (b₀ :: suite) pos']) (SP X pins D) X.xe s₃) X.xe s₂) X.xe s₁) (fun u s' xx => ?_) PassesOwn.looking).run [] s σ H D (I.toTry _) h) (fun f s1 hsp => ?_) fun e s1 he => he)
  · obtain ⟨a, B, sI, pins', σ', H', cls, d, rfl, J', nb, up, sky, na, os, ag, ww⟩ := xx
    obtain ⟨b, hb1, hyes, hno⟩ := hW _ _ _ _ _ ww
    have J : Inv X pins σ' H' sI := J'.ofTry ok
    refine Sky.land Zc.steady hfr hf (show Sky B (X.env :: X.outer) a (Zc cls d) X.env.locals s'.heap by rw [← hs]; exact sky) fun h3 fl3 up3 => ?_
    have J3 : Inv X pins σ' H' { s' with heap := h3 } := J.landed nb fl3.1 (up.trans up3) os ag
    obtain ⟨oe3, vs3, he3, hz3, hd3⟩ := fl3.there
    have nfr : a ∉ frs (X.env :: X.outer) := fun hm => by
      obtain ⟨_, o', e', hnf⟩ := fl3.2.2.1.mem hm
      rw [he3] at e'
      cases e'
      exact hnf _ hd3
    have hnI : sI.heap.get? a = none := by
      cases z : sI.heap.get? a with
      | none => rfl
      | some o =>
        have y := nb a o z (by rw [hs]; exact nfr)
        rw [fl3.2.1] at y
        cases y
    refine wpAny_handleBy_cons (codeAny_handlers_test ?_) (by intro q; cases q)
    have LT : PySem.W.Looks (model X.prog X.w) h3 (typeOf (.ref a)) cls := fun A Q E s k q => wpAny_typeOf_ref (k _ _ he3) (by rw [hz3.1]; exact q)
    have LM := PySem.W.exm_one (M := model X.prog X.w) J3.kIn LT hb1
    have test : ∀ {Q : Value → Shared → Prop} {E : Value → Shared → Prop}, Q c { s' with heap := h3 } → wpAny (model X.prog X.w) (X.A.mark (some (.ref a))) (eval (.Name x np) X.env) Q E { s' with heap := h3 } := fun {Q E} q => by
      obtain ⟨hg, hdbg, hm | ⟨hm, hv, hnn⟩⟩ := hc
      · exact ld_glob (X := X.suite a (X.pn ++ pins)) (toSuite J3 a) hg hm q hdbg
      · exact ld_blt (X := X.suite a (X.pn ++ pins)) (toSuite J3 a) hg hm hv q hnn hdbg
    refine test (LM.here ?_)
    cases b with
    | true =>
      refine codeAny_handlers_suite_as (HandSPX.lands_againZ fl3 fun h4 fl4 up4 => ?_)
      obtain ⟨oe4, vs4, he4, hz4, hd4⟩ := fl4.there
      have J4 : Inv X pins σ' (upd H' a (errO a cls d)) { s' with heap := h4 } := landedV J nb fl4.1 ((up.trans up3).trans up4) os ag hnI na he4 hz4 hd4
      refine store_ok (X := X.suite a (X.pn ++ pins)) (v := .ref a) (toSuite J4 a) hN hi (.inl hln) rfl (fun s5 S5 => ?_) (.inr hln)
      refine wpAny_mono ((hsu a (X.pn ++ pins)).run [] s5 _ _ _ S5 (hyes rfl a na)) (fun f s6 hsp => ?_) fun _ _ z => False.elim z
      have end_ : ∀ {σ6 : St} {H6 : Hp} {Q : Shared → Prop}, Inv (X.suite a (X.pn ++ pins)) [] σ6 H6 s6 → (∀ s7, Inv X pins (σ6.set i none) H6 s7 → Q s7) →
          wpAny (model X.prog X.w) X.A (do bindName X.env n .none; unbindBehindTheSuite X.env n pos') (fun _ s7 => Q s7) X.xe s6 := fun {σ6 H6 Q} S6 hq => gone_ok (ofSuite S6 ok) hN hi hln hq
      cases f with
      | ret u =>
        obtain ⟨v6, σ6, H6, S6, r6, q6⟩ := hsp
        exact end_ S6 fun s7 J7 => ⟨_, _, _, J7, r6, q6⟩
      | next | brk | cont =>
        obtain ⟨σ6, H6, S6, q6⟩ := hsp
        exact end_ S6 fun s7 J7 => ⟨_, _, J7, q6⟩
    | false =>
      refine wpAny_handleBy_nil ?_
      obtain ⟨_, _, _, oe, vs, T, oT, ts', he, hz, hd, h1, hr⟩ := id fl3
      unfold PySem.passOn
      refine wpAny_bind (wpAny_field he hd h1 ?_)
      rw [if_neg (show ¬ ((Value.ref T == Value.none) = true) from by simp)]
      have fin : wpAny (model X.prog X.w) X.A (setFlight (.ref a) X.env.frame) (fun _ s4 => wpAny (model X.prog X.w) X.A (throw (.ref a) : Sem Flow) (SP X pins D) X.xe s4) X.xe { s' with heap := h3 } := by
        rw [hf]
        exact HandSPX.setFlight_upZ fl3 fun h4 hh4 up4 => wpAny_throw (tk _ _ ⟨a, B, sI, pins, σ', H', cls, d, rfl, J, nb, (up.trans up3).trans up4, .inr (.inr (by rw [hs]; exact hh4)), na, os, ag, hno rfl⟩)
      first
        | exact wpAny_bind (wpAny_pure (wpAny_bind fin))
        | exact wpAny_bind fin
  · cases f with
    | ret u =>
      obtain ⟨v, σ', H', J', r, q⟩ := hsp
      exact ⟨v, σ', H', J'.ofTry ok, r, q⟩
    | next =>
      obtain ⟨σ', H', J', q⟩ := hsp
      exact wpAny_execs_nil ⟨σ', H', J'.ofTry ok, q⟩
    | brk | cont =>
      obtain ⟨σ', H', J', q⟩ := hsp
      exact ⟨σ', H', J'.ofTry ok, q⟩
end
end U

namespace U
open PySem PySem.Spec PyProof.Rows L2
section
variable {X : Cx} {pins : List (Addr × Obj)} {σ : St} {H : Hp} {s : Shared} {a C d : Addr} {fs : List (Str × V)} {v : V} {n : Str} {Q : VK}
/-- err.n: an attribute of its own dict -/
theorem err_get {b : Bool} {E : Value → Shared → Prop} (T : XfC X.K C) (hno : PySem.W.findIn X.K (.ref C) n = some none) (I : Inv X pins σ H s) (ea : H a = some (errO a (.ref C) (some d))) (ed : H d = some (.xd fs)) (l : fs.lookup n = some v) (q : Q v H) :
    wpAny (model X.prog X.w) X.A (getAttr (.ref a) n b) (EP X pins σ Q) E s := by
  obtain ⟨oe, vs, he, hz, hd⟩ := errO_at I.hok ea
  have hx : ObjOk X.prog X.w H s.heap d (.xd fs) := I.hok d _ ed
  obtain ⟨mA, hns, hr⟩ := hx
  obtain ⟨od, ho, hl⟩ := lookIn_ns hns
  obtain ⟨u, hu, ru⟩ := RelO.some_of (v := v) (o := mA n) (by rw [← l]; exact hr n)
  have J : PySem.W.InstAt s.heap a oe C (some od) := ⟨he, hz.1, by unfold PySem.W.notCls; rw [hd] <;> rfl, by rw [hz.2]; exact ho⟩
  exact HandSPX.exc_get I.kIn J T.ga T.gg T.exC (PySem.W.findObj_own T.hdC hno rfl (by rw [hl, hu])) (handed_of ru) ⟨v, H, I.tok _, ru, q⟩
end
end U

namespace U
open PySem PySem.Spec PyProof.Rows L2
section
variable {X : Cx} {pins : List (Addr × Obj)} {σ : St} {H : Hp} {s : Shared} {a D d : Addr} {fs : List (Str × V)} {Q : VK} {cv : Value} {b : Bool}
/-- isinstance(err, c) -/
theorem err_isi (T : ExcC X.K D) (I : Inv X pins σ H s) (ea : H a = some (errO a (.ref D) (some d))) (ed : H d = some (.xd fs)) (e : PySem.W.kitOne X.K (.ref D) cv = some b) (q : Q (.bl b) H) :
    wpAny (model X.prog X.w) X.A (call (.builtin "isinstance") [.ref a, cv]) (EP X pins σ Q) X.xe s := by
  obtain ⟨oe, vs, he, hz, hd⟩ := errO_at I.hok ea
  have hx : ObjOk X.prog X.w H s.heap d (.xd fs) := I.hok d _ ed
  obtain ⟨mA, hns, hr⟩ := hx
  obtain ⟨od, ho, hl⟩ := lookIn_ns hns
  have J : PySem.W.InstAt s.heap a oe D (some od) := ⟨he, hz.1, by unfold PySem.W.notCls; rw [hd] <;> rfl, by rw [hz.2]; exact ho⟩
  have hc1 : (PySem.W.clsIn X.K D).isSome = true := by
    obtain ⟨cd, z, _⟩ := PySem.W.any_some T.hd
    rw [z] <;> rfl
  exact PySem.W.kia_one (PySem.W.kitx_exc hc1 T.hg T.hk T.hs T.ha T.hn T.ht T.hm) I.kIn J e (fun z => nomatch z) fun tk => ⟨.bl b, H, I.kept (t' := tk) fun _ _ z => z, rfl, q⟩
end
end U

namespace U
open PySem PySem.Spec PyProof.Rows L2
/-! ### side conditions -/
section
variable {env : Env} {e : Expr} {es : List Expr} {pos : Pos}
theorem star_cons (h : nst e = true) : starEach (e :: es) env = (false, eval e env) :: starEach es env := by
  cases e <;> first | rfl | (simp [nst] at h)
theorem star_none : ∀ {es : List Expr}, es.all nst = true → (backTo pos (starEach es env)).any (·.1) = false
  | [], _ => rfl
  | e :: es, h => by
    rw [List.all_cons, Bool.and_eq_true] at h
    rw [star_cons h.1]
    show (false || (backTo pos (starEach es env)).any (·.1)) = false
    rw [star_none h.2, Bool.or_false]
theorem star_none' : ∀ {es : List Expr}, es.all nst = true → (backTo pos (starEach es env)).all (fun x => !x.1) = true
  | [], _ => rfl
  | e :: es, h => by
    rw [List.all_cons, Bool.and_eq_true] at h
    rw [star_cons h.1]
    show (true && (backTo pos (starEach es env)).all (fun x => !x.1)) = true
    rw [star_none' h.2, Bool.and_true]
theorem abase_ok {f : Str} {whole : Sem Value} (h : abase e = true) : attributeBase e f env whole = whole := by
  unfold attributeBase
  cases e <;> try rfl
  rename_i fn as ks p
  cases fn <;> try rfl
  cases as with
  | cons => rfl
  | nil =>
    cases ks with
    | cons => rfl
    | nil => simp [abase] at h
theorem plainIx_ok (h : noSlice e = true) : PlainIx e := by
  intro o i
  cases e <;> first | rfl | (simp [noSlice] at h)
theorem noComp_ok {t : Option Expr} {l : Nat} (h : noComp e = true) : swapsWith e t l env = pure false := by
  unfold swapsWith
  cases e <;> first | rfl | (simp [noComp] at h)
theorem noTup_ok {t : Expr} (h : (noTup t || noTup e) = true) : swappedStores [t] e env = pure none := by
  unfold swappedStores
  cases t <;> first | rfl | skip
  all_goals (cases e <;> first | rfl | (simp [noTup] at h))
theorem filt_lt {α β : Type} {f : α → Option β} : ∀ {l : List α}, (∃ a ∈ l, f a = none) → (l.filterMap f).length < l.length
  | [], ⟨_, h, _⟩ => nomatch h
  | a :: l, ⟨b, hb, e⟩ => by
    rw [List.filterMap_cons]
    have le : (l.filterMap f).length ≤ l.length := List.length_filterMap_le f l
    cases h : f a with
    | none => show (l.filterMap f).length < l.length + 1; omega
    | some y =>
      rcases List.mem_cons.mp hb with rfl | hb
      · rw [h] at e; cases e
      · have := filt_lt (l := l) ⟨b, hb, e⟩
        show (l.filterMap f).length + 1 < l.length + 1
        omega
theorem notSwap_ok {t : Expr} (h : notSwap env.scope t e = true) : swappedStores [t] e env = pure none := by
  cases t <;> first | (cases h; done) | skip
  rename_i ts k1 p1
  cases e <;> first | (cases h; done) | skip
  rename_i vs k2 p2
  have h : ts.any (notLoc env.scope) = true := h
  obtain ⟨a, ha, hn⟩ := List.any_eq_true.mp h
  unfold swappedStores
  simp only [pure_bind]
  split
  · rfl
  · split
    · rfl
    · split
      · rfl
      · rename_i h3
        exfalso
        apply h3
        rw [Bool.or_eq_true]
        left
        have := filt_lt (l := ts) (f := fun | .Name id pos => if env.kindOf id == some .local && pos.line == (ts.head?.map (·.pos.line)).getD 0 then some id else none | _ => none) ⟨a, ha, by
          cases a <;> first | rfl | skip
          rename_i x p
          have hn : (!(env.scope.names.lookup x == some .local)) = true := hn
          have z : (env.kindOf x == some .local) = false := by
            show (env.scope.names.lookup x == some .local) = false
            simpa using hn
          show (if (env.kindOf x == some .local && _) = true then some x else none) = none
          rw [z]
          rfl⟩
        exact bne_iff_ne.mpr (Nat.ne_of_lt this)
theorem noSet_ok {x : Value} (h : noSet e = true) : foldedSetIterable e env x = pure x := by
  unfold foldedSetIterable
  cases e <;> first | rfl | (simp [noSet] at h)
end
theorem lookup_eq {S : SC} {x : Str} {X : Cx} (h : X.env.scope = S.sc) : X.env.scope.names.lookup x = S.sc.names.lookup x := by rw [h]
theorem vis_ok {S : SC} {x : Str} {X : Cx} (h : X.env.scope = S.sc) (hv : S.vis x = true) : Vis X.env.scope x := by
  unfold Vis
  rw [h]
  unfold SC.vis at hv
  split at hv
  · rename_i e; exact .inl e
  · rename_i e; exact .inr (.inl e)
  · rename_i e; exact .inr (.inr e)
  · cases hv
theorem gl_ok {S : SC} {x : Str} {X : Cx} (h : X.env.scope = S.sc) (hv : S.gl x = true) : Gl X x ∧ (x == ("__debug__" : Str)) = false ∧ x ≠ "__name__" := by
  unfold SC.gl at hv
  split at hv
  · rename_i e
    rw [Bool.and_eq_true] at hv
    refine ⟨?_, by simpa using hv.1, by simpa using hv.2⟩
    show X.env.scope.names.lookup x = _
    rw [h, e]
  · cases hv

/-! ### calls -/
/-- the def at f, called with positional values and keywords ks -/
def FnA (P : Program) (w : World) (K : PySem.W.Frag) (mg : Str → Option Value) (base : Heap) (k : Nat) (f : Addr) (ks : List Str) (sp : List V → List V → Hp → VK → XK → Prop) : Prop :=
  ∀ (A : Around) (outer : List Env) (s : Shared) (H : Hp) (us ws : List Value) (vs zs : List V) (Q : VK) (E : XK), Room k A → Env0 P w K mg base A outer s H → Vals vs us → Vals zs ws → zs.length = ks.length → sp vs zs H Q E →
    codeAny (model P w) A (.call (.ref f) ⟨us, ks.zip ws⟩) (L2.CR (CX P w) outer P w H s Q E) s
theorem fnA_of {P : Program} {w : World} {K : PySem.W.Frag} {mg : Str → Option Value} {base : Heap} {k : Nat} {f : Addr} {fd : FuncData} {ps : List Str} {sp : Sp} (F : FnOk P w K mg base (CX P w) k f fd ps sp) (hb : Binds K fd ps []) :
    FnA P w K mg base k f [] (fun vs _ H Q E => sp vs H Q E) := by
  intro A outer s H us ws vs zs Q E hr e0 r rz hl h
  have KX : K.In s.heap := e0.mod.kin.keeps fun b o e => (e0.bs b o e).1
  have hlen : us.length = ps.length := by rw [← r.length]; exact F.len _ _ _ _ h
  have hb2 := hb s us KX (by rw [List.append_nil]; exact hlen)
  rw [List.append_nil] at hb2
  exact F.run A outer s H ⟨us, []⟩ us vs Q E hr e0 hb2 r h
theorem FnA.mono {P : Program} {w : World} {K : PySem.W.Frag} {mg : Str → Option Value} {base : Heap} {j k : Nat} {f : Addr} {ks : List Str} {sp : List V → List V → Hp → VK → XK → Prop} (F : FnA P w K mg base j f ks sp) (h : j ≤ k) : FnA P w K mg base k f ks sp :=
  fun A outer s H us ws vs zs Q E hr => F A outer s H us ws vs zs Q E (hr.mono h)
section
variable {X : Cx} {W : WX} {k : Nat} {f : Addr} {ks : List Str} {sp : List V → List V → Hp → VK → XK → Prop} {pins : List (Addr × Obj)} {σ : St} {H : Hp} {s : Shared} {Q : VK} {us ws : List Value} {vs zs : List V}
theorem ends_of {r : Result} {s' : Shared} (tk : Takes X W) (I : Inv X pins σ H s) (hq : L2.CR (CX X.prog X.w) X.stack X.prog X.w H s Q (fun cls d H' => W cls d σ H') r s') :
    (match r with | .ok (.ret v) => EP X pins σ Q v s' | .ok _ => False | .error e => X.xe e s') := by
  cases r with
  | error e => exact tk _ _ (XE.of_call I (fun _ _ _ h => h) hq)
  | ok fl =>
    cases fl with
    | ret u => exact I.after hq
    | next => exact False.elim hq
    | brk => exact False.elim hq
    | cont => exact False.elim hq
theorem runA (F : FnA X.prog X.w X.K X.mg X.base k f ks sp) (hr : Room k X.A) (tk : Takes X W) (I : Inv X pins σ H s) (r : Vals vs us) (rz : Vals zs ws) (hl : zs.length = ks.length) (h : sp vs zs H Q fun cls d H' => W cls d σ H') :
    wpAny (model X.prog X.w) X.A (call (.ref f) us (ks.zip ws)) (EP X pins σ Q) X.xe s := by
  refine wpAny_call (codeAny_mono (F X.A X.stack s H us ws vs zs Q _ hr I.env0 r rz hl h) fun r s' hq => ?_)
  have := ends_of tk I hq
  cases r with
  | error e => exact this
  | ok fl => cases fl <;> first | exact this | exact this.elim
end

/-- a(), where slot i holds the lambda at f, whose code object is at c -/
def ActR (Z : Cx) (a : Str) (i : Nat) (f c : Addr) (q : Str) (tl : XK → Hp → VK → Prop) : Prop :=
  ∀ (pn : List (Addr × Obj)) (xe : Value → Shared → Prop) (V : WX) (pa pb : Pos), Takes (Z.tr pn xe) V →
    PE (Z.tr pn xe) (.Call (.Name a pa) [] [] pb) (fun τ G R => τ[i]? = some (some (.ref f)) ∧ G c = some (LamX.CodeO c q) ∧ tl (fun cls d G' => V cls d τ G') G R)
/-- what a def makes of the lambda it gets -/
def Gives (X : Cx) (Ng : List Str) (x : Str) (sg : Scope) (g : Addr) (cdg : Value) (bg : List Stmt) (a : Str) (q : Str) (TT : (XK → Hp → VK → Prop) → Hp → VK → Prop) : Prop :=
  ∀ (f c : Addr) (s : Shared) (H : Hp) (Q : VK) (tl : XK → Hp → VK → Prop), ActR (cxOf C8.CX0 X.prog X.w X.K X.mg X.base Ng x sg g cdg X.A X.stack s H C8.E0) a 0 f c q tl → H c = some (LamX.CodeO c q) → TT tl H Q →
    ∃ t, PSs (cxOf C8.CX0 X.prog X.w X.K X.mg X.base Ng x sg g cdg X.A X.stack s H C8.E0).nox bg t ∧ t { nx := fun _ H' => Q .non H', rt := Q } (L2.start Ng [.ref f]) H
/-- a def that gets a lambda -/
structure LDef (P : Program) (w : World) (K : PySem.W.Frag) (mg : Str → Option Value) (base : Heap) (n : Nat) (x : Str) (TT : (XK → Hp → VK → Prop) → Hp → VK → Prop) : Prop where
  at_ : mg x = some (.ref (He.ga K x))
  kp : PySem.W.keepIn K (.ref (He.ga K x)) = true
  ex : ∃ (pg : Arguments) (bg : List Stmt) (sg : Scope) (dV kV doc pm cdv ct oc : Value) (an od : Option Addr) (osl : Array (Option Value)) (Ng : List Str) (a : Str),
    K.lookup (He.ga K x) = some ⟨oc, od, .func (PySem.W.fnOf x x pg bg sg dV kV doc pm an cdv ct), osl⟩ ∧ PySem.W.codeIn K cdv x = true ∧ L2.Binds K (PySem.W.fnOf x x pg bg sg dV kV doc pm an cdv ct) [a] [] ∧ FnScope Ng [a] sg ∧ Ng[0]? = some a ∧ Vis sg a ∧
    ((a == ("__debug__" : Str)) = false ∧ (a == ("__classdict__" : Str)) = false) ∧
    ∀ (X : Cx) (q : Str), X.prog = P → X.w = w → X.K = K → X.mg = mg → X.base = base → Room (5 * n + 5) X.A → Gives X Ng x sg (He.ga K x) cdv bg a q TT
/-! ### what is known of the program -/
structure Fc (D : SD) (C : Ctx) (n : Nat) (P : Program) (w : World) (K : PySem.W.Frag) (mg : Str → Option Value) (base : Heap) : Prop where
  hK : K = C.K
  hw : w = C.w
  kg : KGood K w C.tabs
  fr : ∀ x ∈ D.frees, mg x = none
  gl : ∀ x ∈ D.globs, ∃ v u, C.gv x = some v ∧ mg x = some u ∧ RelV v u
  fn : ∀ x ∈ D.fns, mg x = some (.ref (He.ga K x)) ∧ PySem.W.keepIn K (.ref (He.ga K x)) = true ∧ FnA P w K mg base (5 * n + 1) (He.ga K x) [] (fun vs _ H Q E => C.fn x vs H Q E)
  cls : ∀ c ∈ D.clss, mg c = some (.ref (He.ga K c)) ∧ (∀ t ∈ ["NoneType", "bool", "int", "str", "list", "tuple", "dict"], PySem.W.kitOne K (.type t) (.ref (He.ga K c)) = some false)
  mks : ∀ c ∈ D.mks, mg c = some (.ref (He.ga K c)) ∧ PySem.W.makesIn K (He.ga K c) = true ∧ PySem.W.keepIn K (.ref (He.ga K c)) = true
  err : ∀ c ∈ D.errs, ∃ fs fI, C.xf c = some fs ∧ mg c = some (.ref (He.ga K c)) ∧ ErrI P K mg (He.ga K c) fI fs
  smt : ∀ c m key, C.smt c m = some key → ∃ mc p g rest, ClX.CRead K (He.ga K c) mc ∧ PySem.W.findCls K (.ref (He.ga K c)) mc m = some (.get (.builtin "staticmethod.__get__") (.ref p) .none (.ref (He.ga K c))) ∧ PySem.W.recIn K p "staticmethod" = some (.ref g :: rest) ∧ PySem.W.keepIn K (.ref g) = true ∧
    FnA P w K mg base (5 * n + 1) g [] (fun vs _ H Q E => C.fn key vs H Q E) ∧ ∀ l ks ord, C.kwo key l ks = some ord → FnA P w K mg base (5 * n + 1) g ks (fun vs zs H Q E => vs.length = l ∧ ∃ ts, byOrd (vs ++ zs) ord = some ts ∧ C.fn key ts H Q E)
  cmt : ∀ c m key, C.cmt c m = some key → ∃ mc p g, ClX.CRead K (He.ga K c) mc ∧ ClX.CMet K (He.ga K c) mc m p g ∧
    FnA P w K mg base (5 * n + 1) g [] (fun vs _ H Q E => C.fn key vs H Q E) ∧ ∀ l ks ord, C.kwo key l ks = some ord → FnA P w K mg base (5 * n + 1) g ks (fun vs zs H Q E => vs.length = l ∧ ∃ ts, byOrd (vs ++ zs) ord = some ts ∧ C.fn key ts H Q E)
  eqc : ∀ c key, C.mth c "__eq__" = some key → ∀ t ∈ ["NoneType", "bool", "int", "str", "list", "tuple", "dict"], PySem.W.subIn K (.type t) (.ref (He.ga K c)) = some false
  lfn : ∀ x ∈ D.lfns, LDef P w K mg base n x (C.lfn x)
  ecl : ∀ c ∈ D.ecls, mg c = some (.ref (He.ga K c))
  exm : ∀ cn c k, C.exm cn c = some k → PySem.W.exmOne K (.ref (He.ga K cn)) (.ref (He.ga K c)) = some k
  eis : ∀ cn c k, C.eis cn c = some k → ExcC K (He.ga K cn) ∧ PySem.W.kitOne K (.ref (He.ga K cn)) (match c with | .ty n => .type n | .own x => .ref (He.ga K x)) = some k
  xfc : ∀ cn es, C.xf cn = some es → XfC K (He.ga K cn) ∧ ∀ f ∈ es, PySem.W.findIn K (.ref (He.ga K cn)) f = some none
  mth : ∀ c m key, C.mth c m = some key → ∃ f, Cls K (He.ga K c) ∧ Meth K (He.ga K c) m f ∧ PySem.W.fnIn K f = true ∧ FnA P w K mg base (5 * n + 1) f [] (fun vs _ H Q E => C.fn key vs H Q E) ∧
    ∀ l ks ord, C.kwo key l ks = some ord → FnA P w K mg base (5 * n + 1) f ks (fun vs zs H Q E => vs.length = l ∧ ∃ ts, byOrd (vs ++ zs) ord = some ts ∧ C.fn key ts H Q E)
  prp : ∀ c f key, C.prp c f = some key → Cls K (He.ga K c) ∧ ∃ p g, PropOf K (He.ga K c) f p g ∧ FnA P w K mg base (5 * n + 1) g [] (fun vs _ H Q E => C.fn key vs H Q E)
  fld : ∀ c f, C.fld c f = true → Cls K (He.ga K c) ∧ NoAttr K (He.ga K c) f
  isi : ∀ c r b, C.isi c r = some b → (∃ (_ : Cls K (He.ga K c)), PySem.W.findIn K (.ref (He.ga K c)) "__class__" = some (some (.builtin "object.__class__")) ∧
    PySem.W.specialIn K (.builtin "object.__class__") "__get__" = some (some (.builtin "getset_descriptor.__get__")) ∧ PySem.W.takesIn K (.builtin "object.__class__") = some true ∧ PySem.W.mroIn K (He.ga K c) (.type "object") = some true) ∧
    PySem.W.kitOne K (.ref (He.ga K c)) (match r with | .ty n => .type n | .own x => .ref (He.ga K x)) = some b
/-- the context is a good one -/
structure Gd (D : SD) (C : Ctx) (n : Nat) (X : Cx) (W : WX) (S : SC) : Prop where
  fc : Fc D C n X.prog X.w X.K X.mg X.base
  hN : X.N = S.N
  nd : S.N.Nodup
  sc : X.env.scope = S.sc
  kd : X.env.scope.kind = .function
  fnt : S.top = true → ∀ x, X.fn x = true
  stk : S.top = true → X.stack = X.env :: X.outer ∧ X.env.frame = some X.env.locals
  un : X.A.units + 200 < cLine
  calm : S.calm = true → X.calm = true ∧ Room (5 * n + 3) X.A
  big : S.lam = true → Room (5 * n + 5) X.A
  tab : S.lam = true → ∃ c P, LamX.TabB X.base X.mg c P ∧ X.env.code = .ref c ∧ (P, X.env.qual ++ "<lambda>") ∈ C.lt ∧ ∀ p ∈ C.lt, p.1 = P → p.2 = X.env.qual ++ "<lambda>"
  act : S.top = true → S.calm = true → ∀ L, C.lam = some L → ∀ a, X.N[L.i]? = some a → ActR X a L.i L.f L.c L.q L.T
  tk : Takes X W
  own : PassesOwn (model X.prog X.w) X.A X.env X.xe
section
variable {D : SD} {C : Ctx} {n : Nat} {X : Cx} {W : WX} {S : SC}
theorem Gd.blk (G : Gd D C n X W S) (hS : S.calm = true) {s : Shared} {H : Hp} {scope : Scope} {cl : List (Str × Addr)} {c : Addr} {fp : List Addr} {own : List (Str × Nat)} (ok : BlkOk X.N X.env.scope scope own) :
    Gd D C n (X.blk s H scope (compEnvC scope cl c X.env) fp) noW ⟨S.N, relS scope S.sc, false, true, false⟩ where
  fc := G.fc
  hN := G.hN
  nd := G.nd
  sc := by rw [← G.sc]; rfl
  kd := ok.kind
  fnt := fun z => by cases z
  stk := fun z => by cases z
  un := G.un
  calm := fun _ => G.calm hS
  big := fun z => by cases z
  tab := fun z => by cases z
  act := fun z => by cases z
  tk := fun u s' ⟨_, _, _, _, _, _, _, _, _, _, _, _, _, _, _, _, w⟩ => w.elim
  own := PassesOwn.never
/-! ### the parts of the proof -/
/-- the iterator J yields these -/
def Fits (J : It) (ok : Hp → Prop) (items : List It1) : Prop := ∀ j H', j ≤ items.length → ok H' → match items[j]? with
    | none => J.stop j H'
    | some (It1.v y) => J.go j H' ∧ ∀ z H2, J.yld j H' z H2 → z = y ∧ H2 = H'
    | some (It1.t ys) => J.go j H' ∧ ∀ z H2, J.yld j H' z H2 → ∃ T, z = .ref T ∧ H' T = none ∧ H2 = upd H' T (.tup ys)
def wiOf (t : TI1) : TI := fun σ H R => ∃ R' : (Hp → Prop) → List It1 → Hp → Prop, t σ H R' ∧ ∀ ok items H1, R' ok items H1 → ∀ J : It, Fits J ok items → R J H1
structure Snd1 (D : SD) (C : Ctx) (n : Nat) (i : I) (X : Cx) (W : WX) (S : SC) : Prop where
  e : ∀ x, (chk D i S).e x = true → PE X x (rd C i W).e ∧ PT X x (rd C i W).t
  a : ∀ xs, (chk D i S).a xs = true → PA X xs (rd C i W).a ∧ xs.all nst = true
  k : ∀ kws : List Keyword, (chk D i S).a (kws.map (·.value)) = true → PK X kws (rd C i W).a
  s : ∀ x, (chk D i S).s x = true → PS X x (rd C i W).s
  ss : ∀ xs, (chk D i S).ss xs = true → PSs X xs (rd C i W).s
  g : ∀ x, (chk D i S).g x = true → PG X x (rd C i W).g
  gs : ∀ xs, (chk D i S).gs xs = true → PGs X xs (rd C i W).gs
  it : ∀ tg x, (chk D i S).i tg x = true → PI X tg x (wiOf (rd C i W).i)
  p : ∀ pos ks vs, (chk D i S).p ks vs = true → PPs X pos ks vs (rd C i W).p ∧ ks.all (·.isSome) = true ∧ (rd C i W).p.length = ks.length
  o : ∀ x, (chk D i S).o x = true → PO X x (rd C i W).o
def Snd (D : SD) (C : Ctx) (n : Nat) (i : I) : Prop := ∀ X W S, Gd D C n X W S → Snd1 D C n i X W S
theorem po_of {x : Expr} {t : TE} (h : PE X x t) : PO X (some x) (fun σ H Q => t σ H fun x H' => match x with
      | .int i => Q (some i) H'
      | _ => False) := by
  refine ⟨fun pins s σ H Q I hw => ?_⟩
  rw [evalPart_some]
  refine thn (h.run pins s σ H _ I hw) fun u s1 ⟨x, H1, I1, r1, q1⟩ => ?_
  cases x with
  | int i =>
    obtain ⟨t, rfl⟩ := r1
    exact ⟨some i, H1, I1, .int i t, q1⟩
  | _ => exact q1.elim
theorem pt_of {x : Expr} {t : TE} (h : PE X x t) (he : ∀ whole, isTrue x X.env whole = (do let v ← whole; standAt x.pos; holding [v] (truthy v))) : PT X x (fun σ H Q => t σ H fun x H' => match x with
      | .bl b => Q b H'
      | x => ∃ b, TruV X.K x H' b ∧ Q b H') := by
  refine ⟨fun pins s σ H Q I hw => ?_⟩
  refine isTrue_plain (thn (h.run pins s σ H _ I hw) fun v s1 ⟨x, H1, I1, r1, q1⟩ => ?_) (he _)
  refine tru_ok pins s1 σ H1 x v Q I1 r1 ?_
  cases x <;> first | exact ⟨_, rfl, q1⟩ | exact q1
theorem calmly {i : I} {k : Ck} (hk : chk D i S = Ck.when S.calm k) (h : S.calm = true → chk D i S = k → Snd1 D C n i X W S) : Snd1 D C n i X W S := by
  cases hS : S.calm with
  | true => exact h hS (by rw [hk, hS]; rfl)
  | false =>
    rw [hS] at hk
    have hk : chk D i S = {} := hk
    refine ⟨fun x hx => ?_, fun xs hx => ?_, fun xs hx => ?_, fun x hx => ?_, fun x hx => ?_, fun x hx => ?_, fun x hx => ?_, fun tg x hx => ?_, fun ps ks vs hx => ?_, fun x hx => ?_⟩
    all_goals (rw [hk] at hx; cases hx)
/-- an expression of which nothing but the value is asked -/
theorem snd_ofE {i : I} {t : TE} {f : Expr → Bool} (hr : rd C i W = .ofE C.K t) (hc : chk D i S = .ofE f) (hk : X.K = C.K)
    (h : ∀ x, f x = true → PE X x t ∧ ∀ whole, isTrue x X.env whole = (do let v ← whole; standAt x.pos; holding [v] (truthy v))) : Snd1 D C n i X W S := by
  refine ⟨fun x hx => ?_, fun xs hx => ?_, fun xs hx => ?_, fun x hx => ?_, fun x hx => ?_, fun x hx => ?_, fun x hx => ?_, fun tg x hx => ?_, fun ps ks vs hx => ?_, fun x hx => ?_⟩
  all_goals rw [hc] at hx
  · rw [hr]
    obtain ⟨h1, h2⟩ := h x hx
    refine ⟨h1, ?_⟩
    have := pt_of h1 h2
    rw [hk] at this
    exact this
  · cases hx
  · cases hx
  · cases hx
  · cases hx
  · cases hx
  · cases hx
  · cases hx
  · cases hx
  · cases x with
    | none => cases hx
    | some y =>
      rw [hr]
      exact po_of (h y hx).1
theorem snd_ofET {i : I} {t : TE} {t' : TT} {f : Expr → Bool} (hr : rd C i W = .ofET t t') (hc : chk D i S = .ofB f) (h : ∀ x, f x = true → PE X x t ∧ PT X x t') : Snd1 D C n i X W S := by
  refine ⟨fun x hx => ?_, fun xs hx => ?_, fun xs hx => ?_, fun x hx => ?_, fun x hx => ?_, fun x hx => ?_, fun x hx => ?_, fun tg x hx => ?_, fun ps ks vs hx => ?_, fun x hx => ?_⟩
  all_goals rw [hc] at hx
  · rw [hr]
    exact h x hx
  all_goals cases hx
theorem snd_ofS {i : I} {t : TS} {f : Stmt → Bool} (hr : rd C i W = .ofS t) (hc : chk D i S = { s := f }) (h : ∀ x, f x = true → PS X x t) : Snd1 D C n i X W S := by
  refine ⟨fun x hx => ?_, fun xs hx => ?_, fun xs hx => ?_, fun x hx => ?_, fun x hx => ?_, fun x hx => ?_, fun x hx => ?_, fun tg x hx => ?_, fun ps ks vs hx => ?_, fun x hx => ?_⟩
  all_goals rw [hc] at hx
  case refine_4 =>
    rw [hr]
    exact h x hx
  all_goals cases hx
theorem snd_ofI {i : I} {t : TI1} {f : Expr → Expr → Bool} (hr : rd C i W = .ofI t) (hc : chk D i S = { i := f }) (h : ∀ tg x, f tg x = true → PI X tg x (wiOf t)) : Snd1 D C n i X W S := by
  refine ⟨fun x hx => ?_, fun xs hx => ?_, fun xs hx => ?_, fun x hx => ?_, fun x hx => ?_, fun x hx => ?_, fun x hx => ?_, fun tg x hx => ?_, fun ps ks vs hx => ?_, fun x hx => ?_⟩
  all_goals rw [hc] at hx
  case refine_8 =>
    rw [hr]
    exact h tg x hx
  all_goals cases hx
end
end U

namespace U
open PySem PySem.Spec PyProof.Rows L2
section
variable {D : SD} {C : Ctx} {n : Nat}
theorem bd {p : Prop} [Decidable p] (h : decide p = true) : p := of_decide_eq_true h
theorem b2 {a b : Bool} (h : (a && b) = true) : a = true ∧ b = true := Bool.and_eq_true_iff.mp h
theorem bn {a : Bool} (h : (!a) = true) : a = false := by cases a <;> first | rfl | cases h

theorem snd_k (v : V) : Snd D C n (.k v) := fun X W S G => snd_ofE (f := fun | .Constant c _ _ => decide (constV c = some v) | _ => false) rfl rfl G.fc.hK fun x hx => by
  cases x <;> first | (cases hx; done) | skip
  rename_i c k pos
  have e : constV c = some v := bd hx
  refine ⟨?_, fun _ => rfl⟩
  cases c <;> first
    | (cases e; done)
    | (cases e; exact pe_non)
    | (cases e; exact pe_bl)
    | (cases e; exact pe_int)
    | (cases e; exact pe_str)
theorem snd_v (i : Nat) : Snd D C n (.v i) := fun X W S G => by
  have base : ∀ x, (chk D (.v i) S).e x = true → PE X x (rd C (.v i) W).e ∧ ∀ whole, isTrue x X.env whole = (do let v ← whole; standAt x.pos; holding [v] (truthy v)) := fun x hx => by
    cases x <;> first | (cases hx; done) | skip
    rename_i y pos
    obtain ⟨h1, h4⟩ := b2 (show (decide (S.N[i]? = some y) && S.vis y && !(y == ("__debug__" : Str)) && !(y == ("__classdict__" : Str))) = true from hx)
    obtain ⟨h1, h3⟩ := b2 h1
    obtain ⟨h1, h2⟩ := b2 h1
    refine ⟨⟨fun pins s σ H Q I h => ?_⟩, fun _ => rfl⟩
    refine (pe_var (X := X) (i := i) (by rw [G.hN]; exact bd h1) (vis_ok G.sc h2) (bn h3) (bn h4)).run pins s σ H Q I ?_
    have h : (match σ[i]? with | some (some v) => Q v H | _ => False) := h
    split at h
    · rename_i v e; exact ⟨v, e, h⟩
    · exact h.elim
  refine ⟨fun x hx => ?_, fun xs hx => ?_, fun xs hx => ?_, fun x hx => ?_, fun x hx => ?_, fun x hx => ?_, fun x hx => ?_, fun tg x hx => ?_, fun ps ks vs hx => ?_, fun x hx => ?_⟩
  · obtain ⟨h1, h2⟩ := base x hx
    refine ⟨h1, ?_⟩
    have := pt_of h1 h2
    rw [G.fc.hK] at this
    exact this
  · cases hx
  · cases hx
  · cases hx
  · cases hx
  · cases x <;> first | (cases hx; done) | skip
    rename_i y pos
    obtain ⟨h1, h2⟩ := b2 (show (decide (S.N[i]? = some y) && S.loc y) = true from hx)
    have hl : X.env.scope.names.lookup y = S.sc.names.lookup y := by rw [G.sc]
    refine pg_name (by rw [G.hN]; exact G.nd) (by rw [G.hN]; exact bd h1) ?_ ?_
    · unfold L2.Loc
      rw [hl]
      unfold SC.loc at h2
      split at h2
      · rename_i e; exact .inl e
      · rename_i e; exact .inr e
      · cases h2
    · rw [hl]
      unfold SC.loc at h2
      split at h2
      · rename_i e; exact .inr e
      · exact .inl (G.fnt h2 y)
      · cases h2
  · cases hx
  · cases hx
  · cases hx
  · cases x with
    | none => cases hx
    | some y => exact po_of (base y hx).1
theorem snd_g (y : Str) : Snd D C n (.g y) := fun X W S G => snd_ofE (f := fun | .Name x _ => decide (x = y) && S.gl x && decide (x ∈ D.globs) | _ => false) rfl rfl G.fc.hK fun x hx => by
  cases x <;> first | (cases hx; done) | skip
  rename_i z pos
  obtain ⟨h1, h3⟩ := b2 (show (decide (z = y) && S.gl z && decide (z ∈ D.globs)) = true from hx)
  obtain ⟨h1, h2⟩ := b2 h1
  obtain rfl := bd h1
  obtain ⟨g1, g2, g3⟩ := gl_ok G.sc h2
  obtain ⟨v, u, e1, e2, r⟩ := G.fc.gl z (bd h3)
  refine ⟨⟨fun pins s σ H Q I h => ?_⟩, fun _ => rfl⟩
  refine (pe_glob g1 e2 r g2).run pins s σ H Q I ?_
  have h : (match C.gv z with | some v => Q v H | none => False) := h
  rw [e1] at h
  exact h
theorem snd_bop {a b : I} (op : Operator) (ha : Snd D C n a) (hb : Snd D C n b) : Snd D C n (.bop op a b) := fun X W S G => snd_ofE (f := fun
      | .BinOp x op' y _ => decide (op = op') && (chk D a S).e x && (chk D b S).e y
      | _ => false) rfl rfl G.fc.hK fun x hx => by
  cases x <;> first | (cases hx; done) | skip
  rename_i x op' y pos
  obtain ⟨h1, h3⟩ := b2 (show (decide (op = op') && (chk D a S).e x && (chk D b S).e y) = true from hx)
  obtain ⟨h1, h2⟩ := b2 h1
  obtain rfl := bd h1
  refine ⟨?_, fun _ => rfl⟩
  have := pe_op (pos := pos) (bin_ok (X := X) op) ((ha X W S G).e x h2).1 ((hb X W S G).e y h3).1
  rw [G.fc.hK] at this
  exact this
theorem snd_uop {a : I} (op : UnaryOp) (ha : Snd D C n a) : Snd D C n (.uop op a) := fun X W S G => snd_ofE (f := fun
      | .UnaryOp op' x _ => decide (op = op') && decide (op ≠ .Not) && (chk D a S).e x
      | _ => false) rfl rfl G.fc.hK fun x hx => by
  cases x <;> first | (cases hx; done) | skip
  rename_i op' x pos
  obtain ⟨h1, h3⟩ := b2 (show (decide (op = op') && decide (op ≠ .Not) && (chk D a S).e x) = true from hx)
  obtain ⟨h1, h2⟩ := b2 h1
  obtain rfl := bd h1
  refine ⟨pe_un (pos := pos) (un_ok (X := X) op) ((ha X W S G).e x h3).1, fun _ => ?_⟩
  have h2 := bd h2
  cases op <;> first | rfl | exact absurd rfl h2
theorem snd_not {a : I} (ha : Snd D C n a) : Snd D C n (.not a) := fun X W S G => snd_ofET (f := fun
      | .UnaryOp op x _ => decide (op = .Not) && (chk D a S).e x
      | _ => false) rfl rfl fun x hx => by
  cases x <;> first | (cases hx; done) | skip
  rename_i op' x pos
  obtain ⟨h1, h3⟩ := b2 (show (decide (op' = .Not) && (chk D a S).e x) = true from hx)
  obtain rfl := bd h1
  obtain ⟨p1, p2⟩ := (ha X W S G).e x h3
  refine ⟨⟨fun pins s σ H Q I h => ?_⟩, pt_not p2⟩
  refine UnaryOp_ (thn (p1.run pins s σ H _ I h) fun v s1 ⟨x, H1, I1, r1, q1⟩ => ?_)
  have q : ∃ k, TruV X.K x H1 k ∧ Q (.bl (!k)) H1 := by
    rw [G.fc.hK]
    cases x <;> first | exact ⟨_, rfl, q1⟩ | exact q1
  obtain ⟨k, e, q1⟩ := q
  exact not_of (thn (tru_ok pins s1 σ H1 x v (fun c H2 => Q (.bl (!c)) H2) I1 r1 ⟨k, e, q1⟩) fun c s2 ⟨H2, I2, q2⟩ => ⟨.bl (!c), H2, I2, rfl, q2⟩)
theorem snd_and {a b : I} (ha : Snd D C n a) (hb : Snd D C n b) : Snd D C n (.and a b) := fun X W S G => snd_ofET (f := fun
      | .BoolOp op (x :: rest) pos => decide (op = .And) && !rest.isEmpty && (chk D a S).e x && (match rest with
        | [y] => (chk D b S).e y
        | ys => (chk D b S).e (.BoolOp .And ys pos))
      | _ => false) rfl rfl fun x hx => by
  cases x <;> first | (cases hx; done) | skip
  rename_i op vs pos
  cases vs with
  | nil => cases hx
  | cons x rest =>
    obtain ⟨h1, h4⟩ := b2 hx
    obtain ⟨h1, h3⟩ := b2 h1
    obtain ⟨h1, h2⟩ := b2 h1
    obtain rfl := bd h1
    obtain ⟨p1, p2⟩ := (ha X W S G).e x h3
    cases rest with
    | nil => cases h2
    | cons y ys =>
      have hy : PE X (.BoolOp .And (y :: ys) pos) (rd C b W).e ∧ PW X (.BoolOp .And (y :: ys) pos) (rd C b W).t := by
        cases ys with
        | nil =>
          obtain ⟨q1, q2⟩ := (hb X W S G).e y h4
          exact ⟨pe_one q1, pw_and1 q2⟩
        | cons z zs =>
          obtain ⟨q1, q2⟩ := (hb X W S G).e _ h4
          exact ⟨q1, ⟨fun whole => q2.run⟩⟩
      refine ⟨⟨fun pins s σ H Q I h => ?_⟩, (pw_and p2 hy.2).pt⟩
      refine BoolOp_and (thn (p1.run pins s σ H _ I h) fun v s1 ⟨x, H1, I1, r1, q1⟩ => ?_)
      cases x with
      | bl c =>
        cases r1
        refine wpAny_truthy_bool ?_
        cases c with
        | true => exact hy.1.run pins s1 σ H1 Q I1 q1
        | false => exact ⟨.bl false, H1, I1, rfl, q1⟩
      | _ => exact q1.elim
theorem snd_or {a b : I} (ha : Snd D C n a) (hb : Snd D C n b) : Snd D C n (.or a b) := fun X W S G => snd_ofET (f := fun
      | .BoolOp op (x :: rest) pos => decide (op = .Or) && !rest.isEmpty && (chk D a S).e x && (match rest with
        | [y] => (chk D b S).e y
        | ys => (chk D b S).e (.BoolOp .Or ys pos))
      | _ => false) rfl rfl fun x hx => by
  cases x <;> first | (cases hx; done) | skip
  rename_i op vs pos
  cases vs with
  | nil => cases hx
  | cons x rest =>
    obtain ⟨h1, h4⟩ := b2 hx
    obtain ⟨h1, h3⟩ := b2 h1
    obtain ⟨h1, h2⟩ := b2 h1
    obtain rfl := bd h1
    obtain ⟨p1, p2⟩ := (ha X W S G).e x h3
    cases rest with
    | nil => cases h2
    | cons y ys =>
      have hy : PE X (.BoolOp .Or (y :: ys) pos) (rd C b W).e ∧ PW X (.BoolOp .Or (y :: ys) pos) (rd C b W).t := by
        cases ys with
        | nil =>
          obtain ⟨q1, q2⟩ := (hb X W S G).e y h4
          exact ⟨pe_one q1, pw_or1 q2⟩
        | cons z zs =>
          obtain ⟨q1, q2⟩ := (hb X W S G).e _ h4
          exact ⟨q1, ⟨fun whole => q2.run⟩⟩
      refine ⟨⟨fun pins s σ H Q I h => ?_⟩, (pw_or p2 hy.2).pt⟩
      refine BoolOp_or (thn (p1.run pins s σ H _ I h) fun v s1 ⟨x, H1, I1, r1, q1⟩ => ?_)
      cases x with
      | bl c =>
        cases r1
        refine wpAny_truthy_bool ?_
        cases c with
        | true => exact ⟨.bl true, H1, I1, rfl, q1⟩
        | false => exact hy.1.run pins s1 σ H1 Q I1 q1
      | _ => exact q1.elim
theorem snd_ite {c a b : I} (hc : Snd D C n c) (ha : Snd D C n a) (hb : Snd D C n b) : Snd D C n (.ite c a b) := fun X W S G => snd_ofET (f := fun
      | .IfExp x y z _ => (chk D c S).e x && (chk D a S).e y && (chk D b S).e z
      | _ => false) rfl rfl fun x hx => by
  cases x <;> first | (cases hx; done) | skip
  rename_i x y z pos
  obtain ⟨h1, h3⟩ := b2 (show ((chk D c S).e x && (chk D a S).e y && (chk D b S).e z) = true from hx)
  obtain ⟨h1, h2⟩ := b2 h1
  exact ⟨pe_ifExp ((hc X W S G).e x h1).2 ((ha X W S G).e y h2).1 ((hb X W S G).e z h3).1, ⟨fun _ _ _ _ _ _ h => h.elim⟩⟩
theorem cmpG {X : Cx} {W : WX} {S : SC} (G : Gd D C n X W S) (op : CmpOp) : OpR X (compareOp op) (rCmp C.K C.w C.tabs op) := by
  have := cmp_ok (X := X) (by have := G.un; omega) G.fc.kg op
  rw [G.fc.hK, G.fc.hw] at this
  exact this
theorem pt_bl {X : Cx} {a b : Expr} {op : CmpOp} {r : R2} {ta tb : TE} {pos : Pos} (ho : OpR X (compareOp op) r) (ha : PE X a ta) (hb : PE X b tb) (hm : behindInMarks op b = false) : PT X (.Compare a [op] [b] pos) (fun σ H Q => ta σ H fun x H1 => tb σ H1 fun y H2 => r x y H2 fun z H3 => match z with
        | .bl k => Q k H3
        | _ => False) := by
  refine ⟨fun pins s σ H Q I h => ?_⟩
  refine wpAny_isTrue_Compare1 (thn (ha.run pins s σ H _ I h) fun v s1 ⟨x, H1, I1, r1, q1⟩ => thn (hb.run pins s1 σ H1 _ I1 q1) fun u s2 ⟨y, H2, I2, r2, q2⟩ =>
    thn (ho pins s2 σ H2 x y v u _ I2 r1 r2 q2) fun c s3 ⟨z, H3, I3, r3, q3⟩ => ?_) hm
  cases z with
  | bl k =>
    cases r3
    exact wpAny_truthy_bool ⟨H3, I3, q3⟩
  | _ => exact q3.elim
theorem snd_cmp {a b : I} (op : CmpOp) (ha : Snd D C n a) (hb : Snd D C n b) : Snd D C n (.cmp op a b) := fun X W S G => snd_ofET (f := fun
      | .Compare x ops ys _ => (match ops, ys with
        | [op'], [y] => decide (op = op') && !behindInMarks op y && (chk D a S).e x && (chk D b S).e y
        | _, _ => false)
      | _ => false) rfl rfl fun x hx => by
  cases x <;> first | (cases hx; done) | skip
  rename_i x ops ys pos
  cases ops with
  | nil => cases hx
  | cons op' ops =>
    cases ops with
    | cons => cases hx
    | nil =>
      cases ys with
      | nil => cases hx
      | cons y ys =>
        cases ys with
        | cons => cases hx
        | nil =>
          obtain ⟨h1, h4⟩ := b2 (show (decide (op = op') && !behindInMarks op y && (chk D a S).e x && (chk D b S).e y) = true from hx)
          obtain ⟨h1, h3⟩ := b2 h1
          obtain ⟨h1, h2⟩ := b2 h1
          obtain rfl := bd h1
          exact ⟨pe_cmpR (cmpG G op) ((ha X W S G).e x h3).1 ((hb X W S G).e y h4).1 (bn h2), pt_bl (cmpG G op) ((ha X W S G).e x h3).1 ((hb X W S G).e y h4).1 (bn h2)⟩
theorem snd_cmp2 {a b c : I} (op1 op2 : CmpOp) (ha : Snd D C n a) (hb : Snd D C n b) (hc : Snd D C n c) : Snd D C n (.cmp2 op1 op2 a b c) := fun X W S G => snd_ofET (f := fun
      | .Compare x ops ys _ => (match ops, ys with
        | [o1, o2], [y, z] => decide (op1 = o1) && decide (op2 = o2) && !lastMarks [o1, o2] [y, z] && (chk D a S).e x && (chk D b S).e y && (chk D c S).e z
        | _, _ => false)
      | _ => false) rfl rfl fun x hx => by
  cases x <;> first | (cases hx; done) | skip
  rename_i x ops ys pos
  rcases ops with _ | ⟨o1, _ | ⟨o2, _ | ⟨o3, ops⟩⟩⟩ <;> first | (cases hx; done) | skip
  rcases ys with _ | ⟨y, _ | ⟨z, _ | ⟨u, ys⟩⟩⟩ <;> first | (cases hx; done) | skip
  obtain ⟨h1, h6⟩ := b2 (show (decide (op1 = o1) && decide (op2 = o2) && !lastMarks [o1, o2] [y, z] && (chk D a S).e x && (chk D b S).e y && (chk D c S).e z) = true from hx)
  obtain ⟨h1, h5⟩ := b2 h1
  obtain ⟨h1, h4⟩ := b2 h1
  obtain ⟨h1, h3⟩ := b2 h1
  obtain ⟨h1, h2⟩ := b2 h1
  obtain rfl := bd h1
  obtain rfl := bd h2
  have pa := ((ha X W S G).e x h4).1
  have pb := ((hb X W S G).e y h5).1
  have pc := ((hc X W S G).e z h6).1
  have ho := cmpG G op1
  have ho' := cmpG G op2
  refine ⟨⟨fun pins s σ H Q I h => ?_⟩, ⟨fun pins s σ H Q I h => ?_⟩⟩
  · refine Compare_chain (thn (pa.run pins s σ H _ I h) fun v s1 ⟨x, H1, I1, r1, q1⟩ => chain_link (thn (pb.run pins s1 σ H1 _ I1 q1) fun u s2 ⟨y, H2, I2, r2, q2⟩ =>
      thn (ho pins s2 σ H2 x y v u _ I2 r1 r2 q2) fun d s3 ⟨z, H3, I3, r3, q3⟩ => ?_)) (bn h3)
    cases z with
    | bl k =>
      cases r3
      refine wpAny_truthy_bool ?_
      cases k with
      | false => exact ite_ff ⟨.bl false, H3, I3, rfl, q3⟩
      | true => exact ite_tt (chain_last (thn (pc.run pins s3 σ H3 _ I3 q3) fun w' s4 ⟨z', H4, I4, r4, q4⟩ => ho' pins s4 σ H4 y z' u w' Q I4 r2 r4 q4))
    | _ => exact q3.elim
  · refine isTrue_chain (thn (pa.run pins s σ H _ I h) fun v s1 ⟨x, H1, I1, r1, q1⟩ => test_link (thn (pb.run pins s1 σ H1 _ I1 q1) fun u s2 ⟨y, H2, I2, r2, q2⟩ =>
      thn (ho pins s2 σ H2 x y v u _ I2 r1 r2 q2) fun d s3 ⟨z, H3, I3, r3, q3⟩ => ?_)) (bn h3)
    cases z with
    | bl k =>
      cases r3
      refine wpAny_truthy_bool ?_
      cases k with
      | false => exact ite_ff ⟨H3, I3, q3⟩
      | true =>
        refine ite_tt (test_last (thn (pc.run pins s3 σ H3 _ I3 q3) fun w' s4 ⟨z', H4, I4, r4, q4⟩ => thn (ho' pins s4 σ H4 y z' u w' _ I4 r2 r4 q4) fun d' s5 ⟨z2, H5, I5, r5, q5⟩ => ?_))
        cases z2 with
        | bl k2 =>
          cases r5
          exact wpAny_truthy_bool ⟨H5, I5, q5⟩
        | _ => exact q5.elim
    | _ => exact q3.elim
theorem snd_lst {as : I} (ha : Snd D C n as) : Snd D C n (.lst as) := fun X W S G => snd_ofE (f := fun
      | .List es _ => (chk D as S).a es
      | _ => false) rfl rfl G.fc.hK fun x hx => by
  cases x <;> first | (cases hx; done) | skip
  exact ⟨pe_lst ((ha X W S G).a _ hx).1, fun _ => rfl⟩
theorem snd_tup {as : I} (ha : Snd D C n as) : Snd D C n (.tup as) := fun X W S G => snd_ofE (f := fun
      | .Tuple es _ _ => (chk D as S).a es
      | _ => false) rfl rfl G.fc.hK fun x hx => by
  cases x <;> first | (cases hx; done) | skip
  exact ⟨pe_tup ((ha X W S G).a _ hx).1, fun _ => rfl⟩
theorem snd_dic {ps : I} (ha : Snd D C n ps) : Snd D C n (.dic ps) := fun X W S G => snd_ofE (f := fun
      | .Dict ks vs _ => decide (ks.length ≤ 15) && decide (ks.length = vs.length) && (chk D ps S).p ks vs
      | _ => false) rfl rfl G.fc.hK fun x hx => by
  cases x <;> first | (cases hx; done) | skip
  rename_i ks vs pos
  obtain ⟨h1, h3⟩ := b2 (show (decide (ks.length ≤ 15) && decide (ks.length = vs.length) && (chk D ps S).p ks vs) = true from hx)
  obtain ⟨h1, h2⟩ := b2 h1
  obtain ⟨p1, p2, p3⟩ := (ha X W S G).p pos ks vs h3
  have h2 := bd h2
  refine ⟨⟨fun pins s σ H Q I h => ?_⟩, fun _ => rfl⟩
  have h : (match (rd C ps W).p with
      | [] => ∀ p, H p = none → Q (.ref p) (upd H p (.dK []))
      | trs => tDisp trs σ H Q) := h
  cases ks with
  | nil =>
    cases vs with
    | cons => cases h2
    | nil =>
      refine pe_dnewK.run pins s σ H Q I ?_
      cases e : (rd C ps W).p with
      | nil => rw [e] at h; exact h
      | cons a r => rw [e] at p3; cases p3
  | cons k ks =>
    refine (pe_disp p1 p2 h2 (by simp) (bd h1)).run pins s σ H Q I ?_
    cases e : (rd C ps W).p with
    | nil => rw [e] at p3; cases p3
    | cons a r => rw [e] at h; exact h
end
end U

namespace U
open PySem PySem.Spec PyProof.Rows L2
section
variable {D : SD} {C : Ctx} {n : Nat}
theorem room1 {X : Cx} {W : WX} {S : SC} (G : Gd D C n X W S) (hS : S.calm = true) : Room (5 * n + 1) X.A := (G.calm hS).2.mono (by omega)
theorem a_nil {as : I} {S : SC} (h : (chk D as S).a [] = true) : as = .nil := by
  cases as <;> first | rfl | (cases h; done) | (obtain ⟨sN, ssc, stp, sc, slm⟩ := S; cases sc <;> cases stp <;> cases slm <;> cases h)
theorem snd_call {as : I} (f : Str) (ha : Snd D C n as) : Snd D C n (.call f as) := fun X W S G => calmly rfl fun hS hck => snd_ofE (f := fun
      | .Call (.Name x _) es [] _ => decide (x = f) && S.gl x && decide (x ∈ D.fns) && (chk D as S).a es
      | _ => false) rfl hck G.fc.hK fun x hx => by
  cases x <;> first | (cases hx; done) | skip
  rename_i fe es kws pos
  cases fe <;> first | (cases hx; done) | skip
  rename_i y p
  cases kws with
  | cons => cases hx
  | nil =>
    obtain ⟨h1, h4⟩ := b2 (show (decide (y = f) && S.gl y && decide (y ∈ D.fns) && (chk D as S).a es) = true from hx)
    obtain ⟨h1, h3⟩ := b2 h1
    obtain ⟨h1, h2⟩ := b2 h1
    obtain rfl := bd h1
    obtain ⟨g1, g2, g3⟩ := gl_ok G.sc h2
    obtain ⟨pa, pn⟩ := (ha X W S G).a es h4
    obtain ⟨m1, m2, F⟩ := G.fc.fn y (bd h3)
    refine ⟨⟨fun pins s σ H Q I h => ?_⟩, fun _ => rfl⟩
    refine wpAny_Call_Name_kw (ld_glob I g1 m1 ?_ g2)
    cases es with
    | nil =>
      obtain rfl := a_nil h4
      have q : C.fn y [] H Q fun cls d H' => W cls d σ H' := h
      exact PySem.W.callWith_K0 I.kIn m2 (runA (us := []) (ws := []) (vs := []) (zs := []) F (room1 G hS) G.tk I .nil .nil rfl q)
    | cons e es =>
      rw [List.all_cons, Bool.and_eq_true] at pn
      refine PySem.W.callWith_K (h₀ := X.base) I.ok.mod.kin m2 (thn (pa.run pos pins s σ H _ I h) fun us s1 ⟨vs, H1, I1, r, q⟩ => ⟨I1.kIn, ?_⟩) (star_cons pn.1) (star_none pn.2)
      exact runA (ws := []) (zs := []) F (room1 G hS) G.tk I1 r .nil rfl q
theorem snd_mk {as : I} (c : Str) (ha : Snd D C n as) : Snd D C n (.mk c as) := fun X W S G => calmly rfl fun hS hck => snd_ofE (f := fun
      | .Call (.Name x _) es [] _ => decide (x = c) && S.gl x && decide (x ∈ D.mks) && (chk D as S).a es
      | _ => false) rfl hck G.fc.hK fun x hx => by
  cases x <;> first | (cases hx; done) | skip
  rename_i fe es kws pos
  cases fe <;> first | (cases hx; done) | skip
  rename_i y p
  cases kws with
  | cons => cases hx
  | nil =>
    obtain ⟨h1, h4⟩ := b2 (show (decide (y = c) && S.gl y && decide (y ∈ D.mks) && (chk D as S).a es) = true from hx)
    obtain ⟨h1, h3⟩ := b2 h1
    obtain ⟨h1, h2⟩ := b2 h1
    obtain rfl := bd h1
    obtain ⟨g1, g2, g3⟩ := gl_ok G.sc h2
    obtain ⟨pa, pn⟩ := (ha X W S G).a es h4
    obtain ⟨m1, m2, m3⟩ := G.fc.mks y (bd h3)
    have core : ∀ {H1 : Hp} {s1 : Shared} {us : List Value} {vs : List V} {pins : List (Addr × Obj)} {σ : St} {Q : VK}, Inv X pins σ H1 s1 → Vals vs us → (∀ x dx, H1 x = none → H1 dx = none → dx ≠ x →
      ∃ key, C.mth y "__init__" = some key ∧ C.fn key (.ref x :: vs) (upd (upd H1 dx (.own x)) x (.ins (He.ga C.K y) dx [])) (fun v H2 => v = .non ∧ Q (.ref x) H2) fun cls d H' => W cls d σ H') →
        wpAny (model X.prog X.w) X.A (call (.ref (He.ga X.K y)) us) (EP X pins σ Q) X.xe s1 := fun {H1 s1 us vs pins σ Q} I1 r q => by
      obtain ⟨key, e1, q⟩ := q (s1.heap.objs.size + 1) s1.heap.objs.size (I1.hok.fresh (Nat.le_succ _)) (I1.hok.fresh (Nat.le_refl _)) (Nat.ne_of_lt (Nat.lt_succ_self _))
      obtain ⟨f, c1, c2, c3, F, _⟩ := G.fc.mth y _ key e1
      have I2 := Inv.made (C := He.ga X.K y) I1
      rw [← G.fc.hK] at q
      refine wpAny_call (make_map (f := f) I1.kIn m2 c2.at_ (beq_iff_eq.mp c2.fn) (codeAny_mono (F _ X.stack _ _ (Value.ref (s1.heap.objs.size + 1) :: us) [] (V.ref (s1.heap.objs.size + 1) :: vs) [] _ _ (((G.calm hS).2.mono (by omega : 5 * n + 1 + 1 ≤ 5 * n + 3)).make (He.ga X.K y) us []) (I2.env0.make (He.ga X.K y) us []) (.cons rfl r) .nil rfl q) fun r s' hq' => ?_))
      cases r with
      | error e => exact G.tk _ _ (XE.of_call I2 (fun _ _ _ h => h) hq')
      | ok fl =>
        cases fl with
        | ret u =>
          obtain ⟨v, H', I3, rv, ev, q3⟩ := I2.after hq'
          subst ev
          exact ⟨rv, ⟨V.ref (s1.heap.objs.size + 1), H', I3, rfl, q3⟩⟩
        | next => exact False.elim hq'
        | brk => exact False.elim hq'
        | cont => exact False.elim hq'
    refine ⟨⟨fun pins s σ H Q I h => ?_⟩, fun _ => rfl⟩
    refine wpAny_Call_Name_kw (ld_glob I g1 m1 ?_ g2)
    cases es with
    | nil =>
      obtain rfl := a_nil h4
      exact PySem.W.callWith_K0 I.kIn m3 (core I .nil h)
    | cons e es =>
      rw [List.all_cons, Bool.and_eq_true] at pn
      exact PySem.W.callWith_K (h₀ := X.base) I.ok.mod.kin m3 (thn (pa.run pos pins s σ H _ I h) fun us s1 ⟨vs, H1, I1, r, q⟩ => ⟨I1.kIn, core I1 r q⟩) (star_cons pn.1) (star_none pn.2)
theorem vals_by : ∀ {xs : List V} {us : List Value}, xs.length = us.length → (∀ (j : Nat) (x : V) (u : Value), xs[j]? = some x → us[j]? = some u → RelV x u) → Vals xs us
  | [], [], _, _ => .nil
  | [], _ :: _, h, _ => by cases h
  | _ :: _, [], h, _ => by cases h
  | x :: xs, u :: us, h, p => .cons (p 0 x u rfl rfl) (vals_by (Nat.succ.inj h) fun j y v e1 e2 => p (j + 1) y v e1 e2)
theorem signs_vals {x : Str} {acc : Array Value} (h : ItemsOf (SignAt x) acc x.cps.size) : Vals (x.cps.toList.map fun c => .str (S [c])) acc.toList := by
  obtain ⟨h1, h2⟩ := h
  refine vals_by (by simp [h1]) fun j y u e1 e2 => ?_
  obtain ⟨c, t, e3, e4⟩ := h2 j u (by simpa using e2)
  rw [List.getElem?_map] at e1
  have e5 : x.cps.toList[j]? = some c := by simpa using e3
  rw [e5] at e1
  cases e1
  exact ⟨t, e4⟩
/-- the value of a built-in's name -/
def B.val : B → Value
  | .len => .builtin "len" | .abs => .builtin "abs" | .sum => .builtin "sum" | .all => .builtin "all" | .any => .builtin "any" | .sorted => .builtin "sorted"
  | .int => .type "int" | .bool => .type "bool" | .str => .type "str" | .list => .type "list" | .tuple => .type "tuple" | .dict => .type "dict"
theorem boot_B (f : B) : bootBuiltins f.nm = some f.val := by cases f <;> decide +kernel
theorem call_B {X : Cx} (hc : X.calm = true) (hh : X.A.handled = none) (f : B) : CallR X f.val (rB X.K f) := by
  cases f with
  | len =>
    refine callImp (callOr call_len_str (callOr call_len_seq call_lenD)) fun xs H Q h => ?_
    have h : rB X.K .len xs H Q := h
    simp only [rB] at h
    split at h
    · exact .inl ⟨_, rfl, h.1, h.2⟩
    · rcases h with ⟨ys, h1, h2⟩ | ⟨ys, h1, h2⟩ | ⟨kvs, h1, h2⟩
      · exact .inr (.inl ⟨_, ys, rfl, .inl h1, h2⟩)
      · exact .inr (.inl ⟨_, ys, rfl, .inr h1, h2⟩)
      · exact .inr (.inr ⟨_, kvs, rfl, h1, h2⟩)
    · exact h.elim
  | abs =>
    refine callImp call_abs fun xs H Q h => ?_
    have h : rB X.K .abs xs H Q := h
    simp only [rB] at h
    split at h
    · exact ⟨_, rfl, h⟩
    · exact h.elim
  | int =>
    refine callImp (callOr call_int1 call_int_str) fun xs H Q h => ?_
    have h : rB X.K .int xs H Q := h
    simp only [rB] at h
    split at h
    · exact .inl (.inl ⟨_, rfl, h⟩)
    · exact .inl (.inr ⟨_, rfl, h⟩)
    · obtain ⟨n, h1, h2, h3⟩ := h
      exact .inr ⟨_, n, rfl, h1, h2, h3⟩
    · exact h.elim
  | bool =>
    refine callImp call_bool1 fun xs H Q h => ?_
    have h : rB X.K .bool xs H Q := h
    simp only [rB] at h
    split at h
    · exact .inl ⟨_, rfl, h⟩
    · exact .inr ⟨_, rfl, h⟩
    · exact h.elim
  | str =>
    refine callImp call_str_int fun xs H Q h => ?_
    have h : rB X.K .str xs H Q := h
    simp only [rB] at h
    split at h
    · exact ⟨_, rfl, h.1, h.2⟩
    · exact h.elim
  | list =>
    intro pins s σ H xs us Q I r h
    have h : rB X.K .list xs H Q := h
    simp only [rB] at h
    split at h
    · obtain ⟨ys, h1, h2⟩ := h
      exact call_list_of pins s σ H _ us Q I r ⟨_, ys, rfl, h1, h2⟩
    · rename_i z h0
      obtain ⟨h1, h2⟩ := h
      obtain ⟨u, rfl, t, rfl⟩ := vals1 r
      have hs : z.cps.size ≤ sizeLine := h1
      refine PySem.call_list_str hh z t (fun h' tk acc' c' kp hl hi => ?_) hs
      refine ⟨.ref s.heap.objs.size, _, I.laid (t' := tk) (o := .lst (z.cps.toList.map fun c => .str (S [c]))) kp (Nat.le_refl _) ⟨by simpa using hs, acc'.toList, c', signs_vals hi, by simpa using hl⟩, rfl, h2 _ (I.hok.fresh (Nat.le_refl _))⟩
    · exact h.elim
  | tuple =>
    intro pins s σ H xs us Q I r h
    have h : rB X.K .tuple xs H Q := h
    simp only [rB] at h
    split at h
    · obtain ⟨ys, h1⟩ := h
      exact call_tuple_of pins s σ H _ us Q I r ⟨_, ys, rfl, h1⟩
    · rename_i z h0
      obtain ⟨h1, h2⟩ := h
      obtain ⟨u, rfl, t, rfl⟩ := vals1 r
      have hs : z.cps.size ≤ sizeLine := h1
      refine PySem.call_tuple_str hh z t (fun h' tk acc kp hi => ?_) hs
      have I1 : Inv X pins σ H { s with heap := h', toks := tk } := I.kept kp
      refine ⟨.ref h'.objs.size, _, I1.laid (t' := tk) (o := .tup (z.cps.toList.map fun c => .str (S [c]))) (fun b ob q => Heap.get?_push_of_some _ q) (Nat.le_refl _) ⟨by simpa using hs, acc.toList, signs_vals hi, ?_⟩, rfl, h2 _ (I1.hok.fresh (Nat.le_refl _))⟩
      exact ⟨_, Heap.get?_push_size _ rfl, rfl, 0, by simp⟩
    · exact h.elim
  | sum =>
    refine callImp (cr_sum hc) fun xs H Q h => ?_
    have h : rB X.K .sum xs H Q := h
    simp only [rB] at h
    split at h
    · obtain ⟨ns, h1, h2⟩ := h
      exact ⟨_, ns, rfl, h1, h2⟩
    · exact h.elim
  | all =>
    refine callImp (cr_all hc) fun xs H Q h => ?_
    have h : rB X.K .all xs H Q := h
    simp only [rB] at h
    split at h
    · obtain ⟨ns, h1, h2⟩ := h
      exact ⟨_, ns, rfl, h1, h2⟩
    · exact h.elim
  | any =>
    refine callImp (cr_any hc) fun xs H Q h => ?_
    have h : rB X.K .any xs H Q := h
    simp only [rB] at h
    split at h
    · obtain ⟨ns, h1, h2⟩ := h
      exact ⟨_, ns, rfl, h1, h2⟩
    · exact h.elim
  | sorted => exact callOr cr_sorted cr_sortedS
  | dict =>
    refine callImp call_dictD fun xs H Q h => ?_
    have h : rB X.K .dict xs H Q := h
    simp only [rB] at h
    split at h
    · obtain ⟨kvs, h1, h2⟩ := h
      exact ⟨_, kvs, rfl, h1, h2⟩
    · exact h.elim
theorem snd_bi {as : I} (f : B) (ha : Snd D C n as) : Snd D C n (.bi f as) := fun X W S G => calmly rfl fun hS hck => snd_ofE (f := fun
      | .Call (.Name x _) es [] _ => decide (x = f.nm) && S.gl x && decide (x ∈ D.frees) && !es.isEmpty && (chk D as S).a es
      | _ => false) rfl hck G.fc.hK fun x hx => by
  cases x <;> first | (cases hx; done) | skip
  rename_i fe es kws pos
  cases fe <;> first | (cases hx; done) | skip
  rename_i y p
  cases kws with
  | cons => cases hx
  | nil =>
    obtain ⟨h1, h5⟩ := b2 (show (decide (y = f.nm) && S.gl y && decide (y ∈ D.frees) && !es.isEmpty && (chk D as S).a es) = true from hx)
    obtain ⟨h1, h4⟩ := b2 h1
    obtain ⟨h1, h3⟩ := b2 h1
    obtain ⟨h1, h2⟩ := b2 h1
    obtain rfl := bd h1
    obtain ⟨g1, g2, g3⟩ := gl_ok G.sc h2
    obtain ⟨pa, pn⟩ := (ha X W S G).a es h5
    cases es with
    | nil => cases h4
    | cons e es =>
      rw [List.all_cons, Bool.and_eq_true] at pn
      refine ⟨?_, fun _ => rfl⟩
      have hb := boot_B f
      have hcall := call_B (X := X) (G.calm hS).1 (G.calm hS).2.hd f
      rw [G.fc.hK] at hcall
      have m := G.fc.fr _ (bd h3)
      cases f <;> first
        | exact pe_callB hcall g1 m hb pa g3 g2 (star_cons pn.1) (star_none pn.2)
        | exact pe_callTy hcall g1 m hb pa g3 g2 (star_cons pn.1) (star_none pn.2)
end
end U

namespace U
open PySem PySem.Spec PyProof.Rows L2
section
variable {D : SD} {C : Ctx} {n : Nat}
/-- a method call, one line, few arguments -/
theorem mcall {X : Cx} {o : Expr} {m : Str} {ap pos : Pos} {es : List Expr} {kws : List Keyword} {Q : Value → Shared → Prop} {s : Shared} (h1 : abase o = true) (h2 : (ap.endLine == pos.line) = true) (h3 : es.length + kws.length + 1 < 30) (h4 : es.all nst = true) (h5 : (backToKw pos (keywordEach kws X.env)).all (fun x => x.1.isSome) = true)
    (h : wpAny (model X.prog X.w) X.A (eval o X.env) (fun ov s₁ => wpAny (model X.prog X.w) X.A (getMethod ov m (plainOf o X.env)) (fun fx s₂ => wpAny (model X.prog X.w) X.A (callWith pos fx.1 fx.2 (backTo pos (starEach es X.env)) (backToKw pos (keywordEach kws X.env))) Q X.xe s₂) X.xe s₁) X.xe s) :
    wpAny (model X.prog X.w) X.A (eval (.Call (.Attribute o m ap) es kws pos) X.env) Q X.xe s := by
  refine PySem.W.methodCall_KW h ?_
  rw [arm_eval_Call, abase_ok h1]
  have hf : methodCallForm (es.length + kws.length) (backTo pos (starEach es X.env)) (backToKw pos (keywordEach kws X.env)) = true := by
    unfold methodCallForm
    rw [star_none' h4, h5]
    simp
    split <;> omega
  simp only [mcall_line hf h2]
theorem snd_meth {o as : I} (m : Str) (ho : Snd D C n o) (ha : Snd D C n as) : Snd D C n (.meth o m as) := fun X W S G => calmly rfl fun hS hck => snd_ofE (f := fun
      | .Call (.Attribute x f ap) es [] pos => decide (f = m) && abase x && (ap.endLine == pos.line) && decide (es.length < 29) && (chk D o S).e x && (chk D as S).a es
      | _ => false) rfl hck G.fc.hK fun x hx => by
  cases x <;> first | (cases hx; done) | skip
  rename_i fe es kws pos
  cases fe <;> first | (cases hx; done) | skip
  rename_i x f ap
  cases kws with
  | cons => cases hx
  | nil =>
    obtain ⟨h1, h6⟩ := b2 (show (decide (f = m) && abase x && (ap.endLine == pos.line) && decide (es.length < 29) && (chk D o S).e x && (chk D as S).a es) = true from hx)
    obtain ⟨h1, h5⟩ := b2 h1
    obtain ⟨h1, h4⟩ := b2 h1
    obtain ⟨h1, h3⟩ := b2 h1
    obtain ⟨h1, h2⟩ := b2 h1
    obtain rfl := bd h1
    obtain ⟨pa, pn⟩ := (ha X W S G).a es h6
    have po := ((ho X W S G).e x h5).1
    refine ⟨⟨fun pins s σ H Q I h => ?_⟩, fun _ => rfl⟩
    refine mcall h2 h3 (by have := bd h4; simp only [List.length_nil]; omega) pn rfl (thn (po.run pins s σ H _ I h) fun u s1 ⟨y, H1, I1, ry, q⟩ => ?_)
    cases y with
    | ref a =>
      obtain rfl : u = Value.ref a := ry
      obtain ⟨cn, dx, fs, key, ea, em, el, q⟩ := q
      obtain ⟨g, c1, c2, c3, F, _⟩ := G.fc.mth cn _ key em
      rw [← G.fc.hK] at ea
      refine getmeth_ok I1 ea c1 c2 el ?_
      cases es with
      | nil =>
        obtain rfl := a_nil h6
        exact PySem.W.callWith_K0 (first := [.ref a]) I1.kIn c2.kp (runA (us := [.ref a]) (vs := [.ref a]) (ws := []) (zs := []) F (room1 G hS) G.tk I1 (.cons rfl .nil) .nil rfl q)
      | cons e es =>
        rw [List.all_cons, Bool.and_eq_true] at pn
        refine PySem.W.callWith_K (first := [.ref a]) (h₀ := X.base) I.ok.mod.kin c2.kp (thn (pa.run pos pins s1 σ H1 _ I1 q) fun us s2 ⟨vs, H2, I2, r, q2⟩ => ⟨I2.kIn, ?_⟩) (star_cons pn.1) (star_none pn.2)
        exact runA (us := .ref a :: us) (vs := .ref a :: vs) (ws := []) (zs := []) F (room1 G hS) G.tk I2 (.cons rfl r) .nil rfl q2
    | _ => exact q.elim
theorem mt_get2 {X : Cx} (hu : X.A.units + 1 < cLine) : MtR X "dict.get" (rM X.K .get) := by
  intro pins s σ H x xs v us Q I rx rs h
  obtain ⟨p, y, z, o, rfl, rfl, g, q⟩ := h
  obtain ⟨u1, u2, rfl, r1, r2⟩ := vals2 rs
  obtain rfl : v = Value.ref p := rx
  exact d_get2 hu I g r1 r2 fun w' s' I' rw' => ⟨_, H, I', rw', q⟩
def M.id : M → String
  | .append => "list.append" | .join => "str.join" | .find => "str.find" | .split => "str.split" | .count => "str.count" | .get => "dict.get" | .extend => "list.extend"
theorem M.all (m : M) : PlainAttrs m.T ∧ Slot m.T m.nm m.id ∧ typeOf (.builtin m.id) = pure (.type "method_descriptor") := by
  cases m with
  | append => exact ⟨PySem.F.plainAttrs_list, PySem.F.slot_list_append, PySem.F.type_list_append⟩
  | extend => exact ⟨PySem.F.plainAttrs_list, PySem.F.slot_list_extend, PySem.F.type_list_extend⟩
  | join => exact ⟨PySem.F.plainAttrs_str, PySem.F.slot_str_join, PySem.F.type_str_join⟩
  | find => exact ⟨PySem.F.plainAttrs_str, PySem.F.slot_str_find, PySem.F.type_str_find⟩
  | split => exact ⟨PySem.F.plainAttrs_str, PySem.F.slot_str_split, PySem.F.type_str_split⟩
  | count => exact ⟨PySem.F.plainAttrs_str, PySem.F.slot_str_count, PySem.F.type_str_count⟩
  | get => exact ⟨PySem.F.plainAttrs_dict, PySem.F.slot_dict_get, PySem.F.type_dict_get⟩
theorem mt_M {X : Cx} (hu : X.A.units + 1 < cLine) (m : M) : MtR X m.id (rM X.K m) := by
  cases m with
  | append => exact mt_append
  | extend => exact mt_extend
  | join => exact mt_join
  | find => exact mt_find
  | split => exact mt_split
  | count => exact mt_count
  | get => exact mt_get2 hu
theorem snd_bm {o as : I} (m : M) (ho : Snd D C n o) (ha : Snd D C n as) : Snd D C n (.bm m o as) := fun X W S G => snd_ofE (f := fun
      | .Call (.Attribute x f ap) es [] pos => decide (f = m.nm) && abase x && (ap.endLine == pos.line) && decide (es.length < 29) && !es.isEmpty && (chk D o S).e x && (chk D as S).a es
      | _ => false) rfl rfl G.fc.hK fun x hx => by
  cases x <;> first | (cases hx; done) | skip
  rename_i fe es kws pos
  cases fe <;> first | (cases hx; done) | skip
  rename_i x f ap
  cases kws with
  | cons => cases hx
  | nil =>
    obtain ⟨h1, h7⟩ := b2 (show (decide (f = m.nm) && abase x && (ap.endLine == pos.line) && decide (es.length < 29) && !es.isEmpty && (chk D o S).e x && (chk D as S).a es) = true from hx)
    obtain ⟨h1, h6⟩ := b2 h1
    obtain ⟨h1, h5⟩ := b2 h1
    obtain ⟨h1, h4⟩ := b2 h1
    obtain ⟨h1, h3⟩ := b2 h1
    obtain ⟨h1, h2⟩ := b2 h1
    obtain rfl := bd h1
    obtain ⟨pa, pn⟩ := (ha X W S G).a es h7
    have po := ((ho X W S G).e x h6).1
    cases es with
    | nil => cases h5
    | cons e es =>
      have pn' := pn
      rw [List.all_cons, Bool.and_eq_true] at pn'
      obtain ⟨m1, m2, m3⟩ := M.all m
      refine ⟨?_, fun _ => rfl⟩
      have := pe_bm (cpos := pos) (apos := ap) m1 m2 m3 (mt_M (X := X) (by have := G.un; omega) m) po pa (abase_ok h2) (by
        rw [star_none' pn]
        have := bd h4
        simp only [List.length_cons] at this
        simp [keywordEach, backToKw]
        omega) h3 (star_cons pn'.1) (star_none pn'.2)
      rw [G.fc.hK] at this
      exact this
theorem snd_att {o : I} (f : Str) (ho : Snd D C n o) : Snd D C n (.att o f) := fun X W S G => calmly rfl fun hS hck => snd_ofE (f := fun
      | .Attribute x f' _ => decide (f = f') && abase x && (chk D o S).e x
      | _ => false) rfl hck G.fc.hK fun x hx => by
  cases x <;> first | (cases hx; done) | skip
  rename_i x f' pos
  obtain ⟨h1, h3⟩ := b2 (show (decide (f = f') && abase x && (chk D o S).e x) = true from hx)
  obtain ⟨h1, h2⟩ := b2 h1
  obtain rfl := bd h1
  have po := ((ho X W S G).e x h3).1
  refine ⟨⟨fun pins s σ H Q I h => ?_⟩, fun _ => rfl⟩
  refine attr_of (abase_ok h2) (thn (po.run pins s σ H _ I h) fun u s1 ⟨y, H1, I1, ry, q⟩ => ?_)
  cases y with
  | ref a =>
    obtain rfl : u = Value.ref a := ry
    obtain ⟨cn, dx, fs, ea, q⟩ := q
    rw [← G.fc.hK] at ea
    rcases q with ⟨e1, v, l, q⟩ | ⟨key, e1, q⟩
    · obtain ⟨c1, c2⟩ := G.fc.fld cn f e1
      exact getattr_ok I1 ea c1 c2 l fun u' s2 I2 ru => ⟨v, H1, I2, ru, q⟩
    · obtain ⟨c1, p, g, hp, F⟩ := G.fc.prp cn f key e1
      obtain ⟨mA, O, _, _, _, _⟩ := ins_get I1.hok ea
      obtain ⟨od, J, _⟩ := O.look
      obtain ⟨rest, hrec⟩ := hp.rec_
      have I1' := I1.tok (s1.toks + 1)
      have hc : (PySem.W.clsIn X.K (He.ga X.K cn)).isSome = true := by
        obtain ⟨cd, hc, _⟩ := PySem.W.any_some c1.hd
        rw [hc]
        rfl
      refine PySem.W.get_bind I1.kIn J (PySem.W.plainGet_of (c1.get f)).1 (PySem.W.findObj_data hc hp.at_ hp.get hp.tak) (PySem.W.plainGet_of (c1.get f)).2 (wpAny_call (PySem.W.prop_get (s := { s1 with toks := s1.toks + 1 }) I1.kIn hrec ?_))
      refine codeAny_mono (F X.A.in1 X.stack { s1 with toks := s1.toks + 1 } H1 [.ref a] [] [.ref a] [] Q (fun _ _ _ => False) ((G.calm hS).2.mono (by omega : 5 * n + 1 + 1 ≤ 5 * n + 3)).in1 I1'.env0.in1 (.cons rfl .nil) .nil rfl q) fun r s' hq => ?_
      cases r with
      | error er =>
        obtain ⟨_, _, _, _, _, _, _, _, _, _, _, _, z⟩ := hq
        exact z.elim
      | ok fl =>
        cases fl with
        | ret u =>
          obtain ⟨v, H', I3, rv, q3⟩ := I1'.after hq
          show wpAny _ _ (handedOut u) _ _ _
          rw [PySem.W.handedOut_of (handed_of rv)]
          exact wpAny_pure ⟨v, H', I3, rv, q3⟩
        | next => exact False.elim hq
        | brk => exact False.elim hq
        | cont => exact False.elim hq
  | _ => exact q.elim
theorem ix_ok {X : Cx} (hu : X.A.units + 1 < cLine) {T : List KTab} (kg : KGood X.K X.w T) : IxR X (rIxU X.K X.w T) := by
  intro value slice pins s σ H x y v u Q I rx ry h hs
  unfold rIxU at h
  split at h
  · obtain ⟨h1, c, h2, q⟩ := h
    exact ix_str value slice pins s σ H _ _ v u Q I rx ry ⟨_, _, c, rfl, rfl, h1, h2, q⟩ hs
  · rcases h with ⟨xs, h1, z, h2, q⟩ | ⟨xs, h1, z, h2, q⟩ | ⟨z, g, q⟩
    · exact ix_list value slice pins s σ H _ _ v u Q I rx ry ⟨_, xs, _, z, rfl, rfl, h1, h2, q⟩ hs
    · exact ix_tup value slice pins s σ H _ _ v u Q I rx ry ⟨_, xs, _, z, rfl, rfl, h1, h2, q⟩ hs
    · cases rx
      exact tail_any (dict_typeIs I g) PySem.F.slot_dict_getitem.lookup (d_getItem hu I g ry fun w' s3 I3 rw' => ⟨z, H, I3, rw', q⟩) hs
  · rcases h with ⟨kvs, e, z, h2, q⟩ | ⟨z, ⟨t, ht, rfl, e⟩, q⟩
    · have g : DGet H _ (.str _) (some z) := .inl ⟨kvs, .inr _, e, rfl, h2.symm⟩
      cases rx
      exact tail_any (dict_typeIs I g) PySem.F.slot_dict_getitem.lookup (d_getItem hu I g ry fun w' s3 I3 rw' => ⟨z, H, I3, rw', q⟩) hs
    · obtain ⟨es, n, D, g⟩ := kg t ht
      obtain ⟨r, er, rr⟩ := g _
      rw [← e] at rr
      obtain ⟨u0, e0, r0⟩ := RelO.some_of rr
      subst e0
      exact ix_kdict value slice pins s σ H _ _ v u Q I rx ry ⟨_, _, z, rfl, rfl, ⟨es, n, u0, D.at_, D.lit, er, r0⟩, q⟩ hs
  · exact h.elim
theorem snd_ix {o i : I} (ho : Snd D C n o) (hi : Snd D C n i) : Snd D C n (.ix o i) := fun X W S G => snd_ofE (f := fun
      | .Subscript x y _ => noSlice y && (chk D o S).e x && (chk D i S).e y
      | _ => false) rfl rfl G.fc.hK fun x hx => by
  cases x <;> first | (cases hx; done) | skip
  rename_i x y pos
  obtain ⟨h1, h3⟩ := b2 (show (noSlice y && (chk D o S).e x && (chk D i S).e y) = true from hx)
  obtain ⟨h1, h2⟩ := b2 h1
  refine ⟨?_, fun _ => rfl⟩
  have := pe_ix (pos := pos) (ix_ok (X := X) (by have := G.un; omega) G.fc.kg) ((ho X W S G).e x h2).1 ((hi X W S G).e y h3).1 (plainIx_ok h1)
  rw [G.fc.hK, G.fc.hw] at this
  exact this
theorem sl_ok {X : Cx} : SlR X (rSlU X.K) := by
  intro pins s σ H x v vl vu lo hi sl Q I rx hs pl pu h
  unfold rSlU at h
  split at h
  · exact sl_str pins s σ H _ v vl vu lo hi sl Q I rx hs pl pu ⟨_, rfl, h⟩
  · rcases h with h | h
    · exact sl_list pins s σ H _ v vl vu lo hi sl Q I rx hs pl pu h
    · exact sl_tupA pins s σ H _ v vl vu lo hi sl Q I rx hs pl pu h
  · exact h.elim
theorem snd_sl {o lo hi : I} (ho : Snd D C n o) (hl : Snd D C n lo) (hh : Snd D C n hi) : Snd D C n (.sl o lo hi) := fun X W S G => snd_ofE (f := fun
      | .Subscript x (.Slice l h none _) _ => (chk D o S).e x && (chk D lo S).o l && (chk D hi S).o h
      | _ => false) rfl rfl G.fc.hK fun x hx => by
  cases x <;> first | (cases hx; done) | skip
  rename_i x y pos
  cases y <;> first | (cases hx; done) | skip
  rename_i l h st p2
  cases st with
  | some => cases hx
  | none =>
    obtain ⟨h1, h3⟩ := b2 (show ((chk D o S).e x && (chk D lo S).o l && (chk D hi S).o h) = true from hx)
    obtain ⟨h1, h2⟩ := b2 h1
    refine ⟨?_, fun _ => rfl⟩
    have := pe_slice (pos := pos) (p2 := p2) (sl_ok (X := X)) ((ho X W S G).e x h1).1 ((hl X W S G).o l h2) ((hh X W S G).o h h3)
    rw [G.fc.hK] at this
    exact this
theorem snd_ostr {a : I} (ha : Snd D C n a) : Snd D C n (.ostr a) := fun X W S G => calmly rfl fun hS hck => snd_ofE (f := fun
      | .Call (.Name x _) [y] [] _ => decide (x = ("str" : Str)) && S.gl x && decide (x ∈ D.frees) && nst y && (chk D a S).e y
      | _ => false) rfl hck G.fc.hK fun x hx => by
  cases x <;> first | (cases hx; done) | skip
  rename_i fe es kws pos
  cases fe <;> first | (cases hx; done) | skip
  rename_i x p
  rcases es with _ | ⟨y, _ | ⟨y2, es⟩⟩ <;> first | (cases hx; done) | skip
  cases kws with
  | cons => cases hx
  | nil =>
    obtain ⟨h1, h5⟩ := b2 (show (decide (x = ("str" : Str)) && S.gl x && decide (x ∈ D.frees) && nst y && (chk D a S).e y) = true from hx)
    obtain ⟨h1, h4⟩ := b2 h1
    obtain ⟨h1, h3⟩ := b2 h1
    obtain ⟨h1, h2⟩ := b2 h1
    obtain rfl := bd h1
    obtain ⟨g1, g2, g3⟩ := gl_ok G.sc h2
    have pa := ((ha X W S G).e y h5).1
    have hcall : CallR X (.type "str") (fun xs H1 Q => ∃ a cn dx fs key, xs = [.ref a] ∧ H1 a = some (.ins (He.ga C.K cn) dx fs) ∧ C.mth cn "__str__" = some key ∧ C.fn key [.ref a] H1 (fun v H2 => match v with | .str z => Q (.str z) H2 | _ => False) fun _ _ _ => False) := by
      intro pins s σ H xs us Q I r h
      obtain ⟨a, cn, dx, fs, key, rfl, ea, em, q⟩ := h
      obtain ⟨u, rfl, ru⟩ := vals1 r
      obtain rfl : u = Value.ref a := ru
      obtain ⟨g, c1, c2, c3, F, _⟩ := G.fc.mth cn _ key em
      rw [← G.fc.hK] at ea
      obtain ⟨mA, O, _, _, _, _⟩ := ins_get I.hok ea
      obtain ⟨od, J, _⟩ := O.look
      have hu := G.un
      refine PySem.W.kso_call (by show X.A.units + 1 + 1 < cLine; omega) I.kIn J c2.at_ c2.fn ?_
      refine wpAny_call (codeAny_mono (F X.A.in1.in1 X.stack s H [.ref a] [] [.ref a] [] _ (fun _ _ _ => False) ((G.calm hS).2.mono (by omega : 5 * n + 1 + 1 + 1 ≤ 5 * n + 3)).in1.in1 I.env0.in1.in1 (.cons rfl .nil) .nil rfl q) fun r s' hq => ?_)
      cases r with
      | error er =>
        obtain ⟨_, _, _, _, _, _, _, _, _, _, _, _, z⟩ := hq
        exact z.elim
      | ok fl =>
        cases fl with
        | ret u =>
          obtain ⟨v, H', I3, rv, q3⟩ := I.after hq
          cases v with
          | str z =>
            obtain ⟨t, rfl⟩ := rv
            exact ⟨.str z, H', I3, ⟨t, rfl⟩, q3⟩
          | _ => exact q3.elim
        | next => exact False.elim hq
        | brk => exact False.elim hq
        | cont => exact False.elim hq
    refine ⟨⟨fun pins s σ H Q I h => ?_⟩, fun _ => rfl⟩
    refine wpAny_Call_Name_kw (ld_blt I g1 (G.fc.fr _ (bd h3)) (by decide +kernel : bootBuiltins "str" = some (.type "str")) ?_ g3 g2)
    refine PyProof.Rows.callWith_type1 ?_ (star_cons h4) rfl
    rw [star_cons h4]
    show wpAny _ _ (spliced ((false, eval y X.env) :: backTo pos (starEach [] X.env))) _ _ s
    refine Calls.spliced_cons (thn (pa.run pins s σ H _ I h) fun u s1 ⟨x, H1, I1, r1, q1⟩ => Calls.spliced_nil ?_)
    cases x with
    | ref a =>
      obtain ⟨cn, dx, fs, key, q⟩ := q1
      exact hcall pins s1 σ H1 _ _ Q I1 (.cons r1 .nil) ⟨a, cn, dx, fs, key, rfl, q⟩
    | _ => exact q1.elim
end
end U

namespace U
open PySem PySem.Spec PyProof.Rows L2
section
variable {D : SD} {C : Ctx} {n : Nat}
/-! ### isinstance -/
abbrev tyNames : List String := ["NoneType", "bool", "int", "str", "list", "tuple", "dict"]
abbrev clNames : List String := ["int", "bool", "str", "list", "tuple", "dict"]
theorem kitB_all : ∀ t ∈ tyNames, ∀ c ∈ clNames, kitB t c = some (subTy t c) := by decide +kernel
def crV (K : PySem.W.Frag) : CR → V
  | .ty n => .ty n
  | .own x => .ref (He.ga K x)
def crU (K : PySem.W.Frag) : CR → Value
  | .ty n => .type n
  | .own x => .ref (He.ga K x)
/-- a class reference of the text -/
def crG (D : SD) : CR → Prop
  | .ty n => n ∈ clNames
  | .own x => x ∈ D.clss
theorem isiT_kit {P : Program} {w : World} {K : PySem.W.Frag} {mg : Str → Option Value} {base : Heap} (F : Fc D C n P w K mg base) {t : String} (ht : t ∈ tyNames) {c : CR} (hc : crG D c) : PySem.W.kitOne K (.type t) (crU K c) = some (isiT t c) := by
  cases c with
  | ty m => exact kit_ty (kitB_all t ht m hc)
  | own x => exact (F.cls x hc).2 t ht
theorem kitAny_of {K : PySem.W.Frag} {t : Value} : ∀ {cs : List CR} {bs : List Bool}, cs.map (fun c => PySem.W.kitOne K t (crU K c)) = bs.map some → PySem.W.kitAny K t (cs.map (crU K)) = some (bs.any id)
  | [], [], _ => rfl
  | [], _ :: _, h => by cases h
  | _ :: _, [], h => by cases h
  | c :: cs, b :: bs, h => by
    obtain ⟨h1, h2⟩ := List.cons.inj h
    refine kitAny_cons h1 (fun e => ?_) (fun e => ?_)
    · subst e
      rw [List.any_cons]
      exact kitAny_of h2
    · subst e
      rfl
theorem crs_len : ∀ {cs : List CR} {es : List Expr} {S : SC}, crsOk D S cs es = true → cs.length = es.length
  | [], [], _, _ => rfl
  | [], _ :: _, _, h => by cases h
  | _ :: _, [], _, h => by cases h
  | c :: cs, e :: es, S, h => by rw [List.length_cons, List.length_cons, crs_len (b2 h).2]
theorem cr_ok {X : Cx} {W : WX} {S : SC} (G : Gd D C n X W S) {c : CR} {e : Expr} (h : crOk D S c e = true) : PE X e (tC (crV X.K c)) ∧ crG D c ∧ nst e = true := by
  cases e <;> first | (cases h; done) | skip
  rename_i x pos
  obtain ⟨h1, h2⟩ := b2 h
  obtain ⟨g1, g2, g3⟩ := gl_ok G.sc h1
  cases c with
  | ty m =>
    obtain ⟨h3, h4⟩ := b2 h2
    obtain ⟨h4, h5⟩ := b2 h4
    exact ⟨pe_bltn g1 (G.fc.fr _ (bd h3)) (bd h4) rfl g3 g2, (show m ∈ clNames from bd h5), rfl⟩
  | own y =>
    obtain ⟨h3, h4⟩ := b2 h2
    obtain rfl := bd h3
    exact ⟨pe_glob g1 (G.fc.cls _ (bd h4)).1 rfl g2, (show x ∈ D.clss from bd h4), rfl⟩
/-- the classes of a display, from the left -/
theorem crs_ok {X : Cx} {W : WX} {S : SC} (G : Gd D C n X W S) : ∀ {cs : List CR} {es : List Expr}, crsOk D S cs es = true → PA X es (fun _ H Q => Q (cs.map (crV X.K)) H) ∧ (∀ c ∈ cs, crG D c) ∧ es.all nst = true
  | [], [], _ => ⟨pa_nil, (fun c hc => nomatch hc), rfl⟩
  | [], _ :: _, h => by cases h
  | _ :: _, [], h => by cases h
  | c :: cs, e :: es, h => by
    obtain ⟨h1, h2⟩ := b2 h
    obtain ⟨p1, p2, p3⟩ := cr_ok G h1
    obtain ⟨q1, q2, q3⟩ := crs_ok G h2
    refine ⟨pa_cons p1 q1 (star_cons p3), fun z hz => ?_, by rw [List.all_cons, p3, q3]; rfl⟩
    rcases List.mem_cons.mp hz with e | hz
    · rw [e]; exact p2
    · exact q2 z hz
theorem clsV_all {K : PySem.W.Frag} : ∀ cs : List CR, Paired ClsV (cs.map (crV K)) (cs.map (crU K))
  | [] => .nil
  | .ty n :: cs => .cons (.ty n) (clsV_all cs)
  | .own x :: cs => .cons (.own _) (clsV_all cs)
/-- what Isi says, for the library's rule -/
theorem isi_look {P : Program} {w : World} {K : PySem.W.Frag} {mg : Str → Option Value} {base : Heap} (F : Fc D C n P w K mg base) {H : Hp} {x : V} {cs : List CR} {Q : VK} (hg : ∀ c ∈ cs, crG D c) (hne : cs ≠ []) (h : Isi C H x cs Q) :
    ∃ (t : Value) (bs : List Bool), TyX K H x t ∧ cs.map (fun c => PySem.W.kitOne K t (crU K c)) = bs.map some ∧ Q (.bl (bs.any id)) H := by
  have byT : ∀ {t : String}, t ∈ tyNames → cs.map (fun c => PySem.W.kitOne K (.type t) (crU K c)) = (cs.map (isiT t)).map some := fun {t} ht => by
    rw [List.map_map]
    exact List.map_congr_left fun c hc => isiT_kit F ht (hg c hc)
  have fin : ∀ {t : String}, Q (.bl (cs.any (isiT t))) H → Q (.bl ((cs.map (isiT t)).any id)) H := fun {t} q => by
    rw [List.any_map]
    exact q
  unfold Isi at h
  cases x with
  | non => exact ⟨_, _, .base .non, byT (by decide), fin h⟩
  | bl b => exact ⟨_, _, .base (.bl b), byT (by decide), fin h⟩
  | int i => exact ⟨_, _, .base (.int i), byT (by decide), fin h⟩
  | str z => exact ⟨_, _, .base (.str z), byT (by decide), fin h⟩
  | byt _ => exact h.elim
  | flt _ => exact h.elim
  | ty _ => exact h.elim
  | ref p =>
    rcases h with ⟨cn, dx, fs, ho, bs, e, q⟩ | ⟨o, ho, t, e, q⟩
    · rw [← F.hK] at ho
      have all : ∀ {cs : List CR} {bs : List Bool}, cs.map (C.isi cn) = bs.map some → cs.map (fun c => PySem.W.kitOne K (.ref (He.ga K cn)) (crU K c)) = bs.map some := by
        intro cs
        induction cs with
        | nil => intro bs e; exact e
        | cons c cs ih =>
          intro bs e
          cases bs with
          | nil => cases e
          | cons b bs =>
            obtain ⟨e1, e2⟩ := List.cons.inj e
            rw [List.map_cons, List.map_cons, ih e2]
            congr 1
            have := (F.isi cn c b e1).2
            cases c <;> exact this
      cases cs with
      | nil => exact absurd rfl hne
      | cons c cs =>
        cases bs with
        | nil => cases e
        | cons b bs =>
          obtain ⟨e1, e2⟩ := List.cons.inj e
          obtain ⟨⟨c1, a1, a2, a3, a4⟩, _⟩ := F.isi cn c b e1
          exact ⟨_, b :: bs, .base (.ins ho c1 a1 a2 a3 a4), all e, q⟩
    · cases o with
      | lst xs =>
        cases e
        rcases ho with ho | ⟨ob, ho⟩
        · exact ⟨_, _, .base (.lst ho), byT (by decide), fin q⟩
        · exact ⟨_, _, .base (.frz ho), byT (by decide), fin q⟩
      | tup xs =>
        cases e
        rcases ho with ho | ⟨ob, ho⟩
        · exact ⟨_, _, .base (.tup ho), byT (by decide), fin q⟩
        · exact ⟨_, _, .fTuple ho, byT (by decide), fin q⟩
      | dK kvs =>
        cases e
        rcases ho with ho | ⟨ob, ho⟩
        · exact ⟨_, _, .base (.dK ho), byT (by decide), fin q⟩
        · exact ⟨_, _, .fDict ho, byT (by decide), fin q⟩
      | _ => cases e
theorem snd_isi {a : I} (cs : List CR) (many : Bool) (ha : Snd D C n a) : Snd D C n (.isi a cs many) := fun X W S G => snd_ofE (f := fun
      | .Call (.Name x _) [y, c] [] _ => decide (x = ("isinstance" : Str)) && S.gl x && decide (x ∈ D.frees) && nst y && !cs.isEmpty && (chk D a S).e y && (match many with
        | false => nst c && crsOk D S cs [c]
        | true => (match c with
          | .Tuple es _ _ => es.all nst && crsOk D S cs es && decide (es.length ≤ 15)
          | _ => false))
      | _ => false) rfl rfl G.fc.hK fun x hx => by
  cases x <;> first | (cases hx; done) | skip
  rename_i fe es kws pos
  cases fe <;> first | (cases hx; done) | skip
  rename_i x p
  rcases es with _ | ⟨y, _ | ⟨c, _ | ⟨y2, es⟩⟩⟩ <;> first | (cases hx; done) | skip
  cases kws with
  | cons => cases hx
  | nil =>
    obtain ⟨h1, h7⟩ := b2 hx
    obtain ⟨h1, h6⟩ := b2 h1
    obtain ⟨h1, h5⟩ := b2 h1
    obtain ⟨h1, h4⟩ := b2 h1
    obtain ⟨h1, h3⟩ := b2 h1
    obtain ⟨h1, h2⟩ := b2 h1
    obtain rfl := bd h1
    obtain ⟨g1, g2, g3⟩ := gl_ok G.sc h2
    have pa := ((ha X W S G).e y h6).1
    have hne : cs ≠ [] := by
      intro z
      rw [z] at h5
      cases h5
    have hnc : nst c = true := by
      cases many with
      | false => exact (b2 h7).1
      | true => cases c <;> first | rfl | (cases h7; done)
    refine ⟨⟨fun pins s σ H Q I h => ?_⟩, fun _ => rfl⟩
    refine wpAny_Call_Name_kw (ld_blt I g1 (G.fc.fr _ (bd h3)) (by decide +kernel : bootBuiltins "isinstance" = some (.builtin "isinstance")) ?_ g3 g2)
    refine PyProof.Rows.callWith_builtin1 ?_ (star_cons h4) (star_none (by rw [List.all_cons, hnc]; rfl))
    rw [star_cons h4]
    show wpAny _ _ (spliced ((false, eval y X.env) :: backTo pos (starEach [c] X.env))) _ _ s
    refine Calls.spliced_cons (thn (pa.run pins s σ H _ I h) fun u s1 ⟨x, H1, I1, r1, q1⟩ => ?_)
    rw [star_cons hnc]
    show wpAny _ _ (spliced ((false, eval c X.env) :: backTo pos (starEach [] X.env))) _ _ s1
    cases many with
    | false =>
      obtain ⟨_, h8⟩ := b2 h7
      rcases cs with _ | ⟨c0, _ | ⟨c1, cs⟩⟩
      · exact absurd rfl hne
      · obtain ⟨h9, _⟩ := b2 h8
        obtain ⟨p1, p2, _⟩ := cr_ok G h9
        have q1 : Isi C H1 x [c0] Q := q1
        obtain ⟨t, bs, ty, e, q⟩ := isi_look G.fc (fun z hz => by rw [List.mem_singleton.mp hz]; exact p2) hne q1
        cases bs with
        | nil => cases e
        | cons b bs =>
        obtain ⟨e1, e2⟩ := List.cons.inj e
        have e3 : bs = [] := by
          cases bs with
          | nil => rfl
          | cons => cases e2
        subst e3
        refine Calls.spliced_cons (thn (p1.run pins s1 σ H1 (fun v H2 => v = crV X.K c0 ∧ H2 = H1) I1 ⟨rfl, rfl⟩) fun u2 s2 ⟨x2, H2, I2, r2, q2⟩ => Calls.spliced_nil ?_)
        obtain ⟨rfl, rfl⟩ := q2
        refine call_isi pins s2 σ H2 [x, crV X.K c0] _ Q I2 (.cons r1 (.cons r2 .nil)) ⟨x, crV X.K c0, t, crU X.K c0, b, rfl, ?_, ty, e1, by simpa using q⟩
        cases c0 with
        | ty m => exact .ty m
        | own z => exact .own _
      · obtain ⟨_, h9⟩ := b2 h8
        cases h9
    | true =>
      cases c <;> first | (cases h7; done) | skip
      rename_i es kk tp
      obtain ⟨h7, h9⟩ := b2 h7
      obtain ⟨_, h8⟩ := b2 h7
      obtain ⟨p1, p2, _⟩ := crs_ok G h8
      have hlen := crs_len h8
      refine Calls.spliced_cons (thn ((pe_tup (x1 := kk) (pos := tp) p1).run pins s1 σ H1 (fun v H2 => ∃ p, H1 p = none ∧ v = .ref p ∧ H2 = upd H1 p (.tup (cs.map (crV X.K)))) I1 ⟨by rw [List.length_map, hlen, sizeLine_eq]; have := bd h9; omega, fun p hp => ⟨p, hp, rfl, rfl⟩⟩) fun u2 s2 ⟨x2, H2, I2, r2, q2⟩ => Calls.spliced_nil ?_)
      obtain ⟨p, hp, rfl, rfl⟩ := q2
      have q1 : Isi C (upd H1 p (.tup (cs.map (crV X.K)))) x cs Q := by
        rw [G.fc.hK]
        exact q1 p hp
      obtain ⟨t, bs, ty, e, q⟩ := isi_look G.fc p2 hne q1
      exact call_isiT pins s2 σ _ [x, .ref p] _ Q I2 (.cons r1 (.cons r2 .nil)) ⟨x, p, _, t, _, _, rfl, upd_same, clsV_all cs, ty, kitAny_of e, q⟩
end
end U

namespace U
open PySem PySem.Spec PyProof.Rows L2
section
variable {D : SD} {C : Ctx} {n : Nat}
theorem callO_kw {M : Model} {A : Around} {E : Value → Shared → Prop} {s : Shared} {a : Addr} {pos : Pos} {Q : Value → Shared → Prop} {args : List (Bool × Sem Value)} {kws : List (Option Str × Sem Value)} (hplain : (args.any (·.1) || kws.any (·.1.isNone)) = false)
    (h : wpAny M A (evalArgs (.ref a) true args kws) (fun z s₁ => (∃ C ox od, PySem.W.InstAt s₁.heap a ox C od ∧ ox.data = .plain) ∧ wpAny M A (call (.ref a) ([] ++ z.pos) z.kw) Q E s₁) E s) : wpAny M A (callWith pos (.ref a) [] args kws) Q E s := by
  unfold callWith
  refine wpAny_bind (wpAny_holding (wpAny_mono h (fun z s₁ h₁ => wpAny_bind (wpAny_standAt ?_)) fun _ _ y => y))
  obtain ⟨⟨C, ox, od, J, hd⟩, h₁⟩ := h₁
  have L := PySem.W.kco_keeper (M := M) J hd
  simp only [hplain]
  refine wpAny_bind (L.here ?_)
  have tail : ∀ {t : Sem Value}, wpAny M A t Q E s₁ → wpAny M A (t >>= fun r => holding [r] point >>= fun _ => pure r) Q E s₁ :=
    fun ht => wpAny_bind (wpAny_mono ht (fun r s₂ hr => wpAny_bind (wpAny_holding (wpAny_point (wpAny_pure hr)))) fun _ _ y => y)
  exact tail (wpAny_operateT h₁)
theorem kw_names {env : Env} {pos : Pos} : ∀ {kws : List Keyword} {ks : List Str}, kws.map (·.arg) = ks.map some →
    (backToKw pos (keywordEach kws env)).all (·.1.isSome) = true ∧ (backToKw pos (keywordEach kws env)).filterMap (·.1) = ks ∧ (backToKw pos (keywordEach kws env)).any (·.1.isNone) = false ∧ kws.length = ks.length
  | [], [], _ => ⟨rfl, rfl, rfl, rfl⟩
  | [], _ :: _, h => by cases h
  | _ :: _, [], h => by cases h
  | ⟨nm, v, p⟩ :: kws, k :: ks, h => by
    obtain ⟨h1, h2⟩ := List.cons.inj h
    obtain ⟨i1, i2, i3, i4⟩ := kw_names (env := env) (pos := pos) h2
    have h1 : nm = some k := h1
    subst h1
    refine ⟨?_, ?_, ?_, by simp [i4]⟩
    · show (true && (backToKw pos (keywordEach kws env)).all (·.1.isSome)) = true
      rw [i1]; rfl
    · show k :: (backToKw pos (keywordEach kws env)).filterMap (·.1) = k :: ks
      rw [i2]
    · show (false || (backToKw pos (keywordEach kws env)).any (·.1.isNone)) = false
      rw [i3]; rfl
theorem call_fe {M : Model} {A : Around} {env : Env} {fe : Expr} {es : List Expr} {kws : List Keyword} {pos : Pos} {Q : Value → Shared → Prop} {E : Value → Shared → Prop} {s : Shared} (hc : calE fe = true)
    (h : wpAny M A (eval fe env) (fun f s' => wpAny M A (callWith pos f [] (backTo pos (starEach es env)) (backToKw pos (keywordEach kws env))) Q E s') E s) : wpAny M A (eval (.Call fe es kws pos) env) Q E s := by
  cases fe <;> first | (cases hc; done) | skip
  · exact wpAny_bind h
  · exact wpAny_bind h
theorem snd_icall {o as zs : I} (ks : List Str) (ho : Snd D C n o) (ha : Snd D C n as) (hz : Snd D C n zs) : Snd D C n (.icall o as ks zs) := fun X W S G => calmly rfl fun hS hck => snd_ofE (f := fun
      | .Call fe es kws pos => calE fe && (chk D o S).e fe && (chk D as S).a es && decide (kws.map (·.arg) = ks.map some) && (chk D zs S).a (kws.map (·.value)) && decide (es.length + kws.length < 12)
      | _ => false) rfl hck G.fc.hK fun x hx => by
  cases x <;> first | (cases hx; done) | skip
  rename_i fe es kws pos
  obtain ⟨h1, h6⟩ := b2 (show (calE fe && (chk D o S).e fe && (chk D as S).a es && decide (kws.map (·.arg) = ks.map some) && (chk D zs S).a (kws.map (·.value)) && decide (es.length + kws.length < 12)) = true from hx)
  obtain ⟨h1, h5⟩ := b2 h1
  obtain ⟨h1, h4⟩ := b2 h1
  obtain ⟨h1, h3⟩ := b2 h1
  obtain ⟨h1, h2⟩ := b2 h1
  have h4 := bd h4
  obtain ⟨k1, k2, k3, k4⟩ := kw_names (env := X.env) (pos := pos) h4
  have po := ((ho X W S G).e _ h2).1
  obtain ⟨pa, pn⟩ := (ha X W S G).a es h3
  have pk := (hz X W S G).k kws h5
  refine ⟨⟨fun pins s σ H Q I h => ?_⟩, fun _ => rfl⟩
  refine call_fe h1 (thn (po.run pins s σ H _ I h) fun u s1 ⟨y, H1, I1, ry, q⟩ => ?_)
  cases y with
  | ref a =>
    obtain rfl : u = Value.ref a := ry
    obtain ⟨cn, _, q⟩ := q
    have fin : ∀ {s3 : Shared} {H3 : Hp} {us ws : List Value} {vs ts : List V}, Inv X pins σ H3 s3 → Vals vs us → Vals ts ws → (∃ dx fs key, H3 a = some (.ins (He.ga C.K cn) dx fs) ∧ C.mth cn "__call__" = some key ∧
          kwRun C key ks (.ref a :: vs) ts H3 Q (fun cls d H' => W cls d σ H')) →
        (∃ C ox od, PySem.W.InstAt s3.heap a ox C od ∧ ox.data = .plain) ∧ wpAny (model X.prog X.w) X.A (call (.ref a) ([] ++ us) (ks.zip ws)) (EP X pins σ Q) X.xe s3 := fun {s3 H3 us ws vs ts} I3 r rt q => by
      obtain ⟨dx, fs, key, ea, em, q⟩ := q
      obtain ⟨g, c1, c2, c3, F, FK⟩ := G.fc.mth cn _ key em
      rw [← G.fc.hK] at ea
      obtain ⟨mA, O, _, _, _, _⟩ := ins_get I3.hok ea
      obtain ⟨od, J, _⟩ := O.look
      refine ⟨⟨_, _, _, J, rfl⟩, ?_⟩
      refine wpAny_call (PySem.W.kco_code I3.kIn J rfl c2.at_ c2.fn c3 ?_)
      cases ks with
      | nil =>
        refine codeAny_mono (F X.A X.stack s3 H3 (.ref a :: us) [] (.ref a :: vs) [] Q _ (room1 G hS) I3.env0 (.cons rfl r) .nil rfl q) fun r s' hq => ?_
        have := ends_of G.tk I3 hq
        cases r with
        | error e => exact this
        | ok fl => cases fl <;> first | exact this | exact this.elim
      | cons k ks =>
        obtain ⟨hl, ord, zs, e1, e2, q⟩ := q
        refine codeAny_mono (FK _ _ ord e1 X.A X.stack s3 H3 (.ref a :: us) ws (.ref a :: vs) ts Q _ (room1 G hS) I3.env0 (.cons rfl r) rt hl ⟨rfl, zs, e2, q⟩) fun r s' hq => ?_
        have := ends_of G.tk I3 hq
        cases r with
        | error e => exact this
        | ok fl => cases fl <;> first | exact this | exact this.elim
    cases es with
    | nil =>
      obtain rfl := a_nil h3
      refine callO_kw (by rw [k3]; rfl) (PyProof.Rows.evalArgs_kw2_nil k1 ?_)
      refine thn (pk.run pos pins s1 σ H1 _ I1 q) fun ws s3 ⟨ts, H3, I3, rt, q3⟩ => ?_
      rw [k2]
      exact fin I3 .nil rt q3
    | cons e es =>
      have pn' := pn
      rw [List.all_cons, Bool.and_eq_true] at pn'
      refine callO_kw (by rw [k3, star_none pn]; rfl) (PyProof.Rows.evalArgs_kw2 k1 ?_ (star_cons pn'.1))
      refine thn (pa.run pos pins s1 σ H1 _ I1 q) fun us s2 ⟨vs, H2, I2, r, q2⟩ => ?_
      refine thn (pk.run pos pins s2 σ H2 _ I2 q2) fun ws s3 ⟨ts, H3, I3, rt, q3⟩ => ?_
      rw [k2]
      exact fin I3 r rt q3
  | _ => exact q.elim
/-! ### lists of parts -/
theorem snd_nil : Snd D C n .nil := fun X W S G => by
  refine ⟨fun x hx => ?_, fun xs hx => ?_, fun xs hx => ?_, fun x hx => ?_, fun x hx => ?_, fun x hx => ?_, fun x hx => ?_, fun tg x hx => ?_, fun ps ks vs hx => ?_, fun x hx => ?_⟩
  · cases hx
  · cases xs with
    | nil => exact ⟨pa_nil, rfl⟩
    | cons => cases hx
  · cases xs with
    | nil => exact pk_nil
    | cons => cases hx
  · cases hx
  · cases x with
    | nil => exact pss_nil
    | cons => cases hx
  · cases hx
  · cases x with
    | nil => exact pgs_nil
    | cons => cases hx
  · cases hx
  · obtain ⟨h1, h2⟩ := b2 (show (ks.isEmpty && vs.isEmpty) = true from hx)
    cases ks with
    | cons => cases h1
    | nil =>
      cases vs with
      | cons => cases h2
      | nil => exact ⟨pps_nil, rfl, rfl⟩
  · cases x with
    | none => exact po_none
    | some => cases hx
theorem asg_cons {env : Env} {e : Expr} {es : List Expr} (h : nst e = true) : assignEach (e :: es) env = (false, assign e env) :: assignEach es env := by
  cases e <;> first | rfl | (cases h; done)
theorem asg_len {env : Env} : ∀ {es : List Expr}, es.all nst = true → (assignEach es env).length = es.length ∧ (assignEach es env).findIdx? (·.1) = none
  | [], _ => ⟨rfl, rfl⟩
  | e :: es, h => by
    rw [List.all_cons, Bool.and_eq_true] at h
    obtain ⟨i1, i2⟩ := asg_len (env := env) h.2
    rw [asg_cons h.1]
    refine ⟨by simp [i1], ?_⟩
    rw [List.findIdx?_cons]
    simp [i2]
theorem snd_cons {a b : I} (ha : Snd D C n a) (hb : Snd D C n b) : Snd D C n (.cons a b) := fun X W S G => by
  refine ⟨fun x hx => ?_, fun xs hx => ?_, fun xs hx => ?_, fun x hx => ?_, fun x hx => ?_, fun x hx => ?_, fun x hx => ?_, fun tg x hx => ?_, fun ps ks vs hx => ?_, fun x hx => ?_⟩
  · cases hx
  · cases xs with
    | nil => cases hx
    | cons e es =>
      obtain ⟨h1, h3⟩ := b2 (show (nst e && (chk D a S).e e && (chk D b S).a es) = true from hx)
      obtain ⟨h1, h2⟩ := b2 h1
      obtain ⟨p1, p2⟩ := (hb X W S G).a es h3
      exact ⟨pa_cons ((ha X W S G).e e h2).1 p1 (star_cons h1), by rw [List.all_cons, h1, p2]; rfl⟩
  · cases xs with
    | nil => cases hx
    | cons e es =>
      obtain ⟨nm, e, kp⟩ := e
      obtain ⟨h1, h3⟩ := b2 (show (nst e && (chk D a S).e e && (chk D b S).a (es.map (·.value))) = true from hx)
      obtain ⟨h1, h2⟩ := b2 h1
      exact pk_cons ((ha X W S G).e e h2).1 ((hb X W S G).k es h3)
  · cases hx
  · cases x with
    | nil => cases hx
    | cons e es =>
      obtain ⟨h1, h2⟩ := b2 (show ((chk D a S).s e && (chk D b S).ss es) = true from hx)
      show PSs X (e :: es) (tSeq (rd C a W).s (rd C b W).s)
      exact pss_cons ((ha X W S G).s e h1) ((hb X W S G).ss es h2)
  · cases hx
  · cases x with
    | nil => cases hx
    | cons e es =>
      obtain ⟨h1, h3⟩ := b2 (show (nst e && (chk D a S).g e && (chk D b S).gs es) = true from hx)
      obtain ⟨h1, h2⟩ := b2 h1
      refine ⟨fun pins s σ H vs us Q I r h => ?_⟩
      refine (pgs_cons ((ha X W S G).g e h2) ((hb X W S G).gs es h3) (by rw [asg_cons h1]; rfl)).run pins s σ H vs us Q I r ?_
      cases vs with
      | nil => exact h.elim
      | cons v vs => exact ⟨v, vs, rfl, h⟩
  · cases hx
  · cases hx
  · cases hx
theorem snd_pair {k v r : I} (hk : Snd D C n k) (hv : Snd D C n v) (hr : Snd D C n r) : Snd D C n (.pair k v r) := fun X W S G => by
  refine ⟨fun x hx => ?_, fun xs hx => ?_, fun xs hx => ?_, fun x hx => ?_, fun x hx => ?_, fun x hx => ?_, fun x hx => ?_, fun tg x hx => ?_, fun ps ks vs hx => ?_, fun x hx => ?_⟩
  case refine_9 =>
    cases ks with
    | nil => cases hx
    | cons x ks =>
      cases x with
      | none => cases hx
      | some x =>
        cases vs with
        | nil => cases hx
        | cons y vs =>
          obtain ⟨h1, h3⟩ := b2 (show ((chk D k S).e x && (chk D v S).e y && (chk D r S).p ks vs) = true from hx)
          obtain ⟨h1, h2⟩ := b2 h1
          obtain ⟨p1, p2, p3⟩ := (hr X W S G).p ps ks vs h3
          exact ⟨pps_cons ((hk X W S G).e x h1).1 ((hv X W S G).e y h2).1 p1, by rw [List.all_cons, p2]; rfl, by show (_ :: _).length = _; rw [List.length_cons, List.length_cons, p3]⟩
  all_goals cases hx
theorem gs_nst {gs : I} {S : SC} : ∀ {es : List Expr}, (chk D gs S).gs es = true → es.all nst = true := by
  induction gs with
  | nil =>
    intro es h
    cases es with
    | nil => rfl
    | cons => cases h
  | cons a b _ ih =>
    intro es h
    cases es with
    | nil => cases h
    | cons e es =>
      obtain ⟨h1, h3⟩ := b2 (show (nst e && (chk D a S).g e && (chk D b S).gs es) = true from h)
      rw [List.all_cons, (b2 h1).1, ih h3]
      rfl
  | _ => intro es h; first | (cases h; done) | (obtain ⟨sN, ssc, stp, sc, slm⟩ := S; cases sc <;> cases stp <;> cases slm <;> cases h)
theorem gs_len {gs : I} {S : SC} : ∀ {es : List Expr} {xs : List V} {σ : St} {H : Hp} {Q : St → Hp → Prop} {W : WX}, (chk D gs S).gs es = true → (rd C gs W).gs xs σ H Q → True := fun _ _ => trivial
end
end U

namespace U
open PySem PySem.Spec PyProof.Rows L2
section
variable {D : SD} {C : Ctx} {n : Nat}
theorem gs_count {gs : I} {S : SC} : ∀ {es : List Expr}, (chk D gs S).gs es = true → es.length = gs.len := by
  induction gs with
  | nil =>
    intro es h
    cases es with
    | nil => rfl
    | cons => cases h
  | cons a b _ ih =>
    intro es h
    cases es with
    | nil => cases h
    | cons e es =>
      obtain ⟨h1, h3⟩ := b2 (show (nst e && (chk D a S).g e && (chk D b S).gs es) = true from h)
      show es.length + 1 = b.len + 1
      rw [ih h3]
  | _ => intro es h; first | (cases h; done) | (obtain ⟨sN, ssc, stp, sc, slm⟩ := S; cases sc <;> cases stp <;> cases slm <;> cases h)
theorem snd_g1 {i : I} {X : Cx} {W : WX} {S : SC} {t : TG} {f : Expr → Bool} (hr : (rd C i W).g = t) (hc : chk D i S = { g := f }) (h : ∀ x, f x = true → PG X x t) : Snd1 D C n i X W S := by
  refine ⟨fun x hx => ?_, fun xs hx => ?_, fun xs hx => ?_, fun x hx => ?_, fun x hx => ?_, fun x hx => ?_, fun x hx => ?_, fun tg x hx => ?_, fun ps ks vs hx => ?_, fun x hx => ?_⟩
  all_goals rw [hc] at hx
  case refine_6 =>
    rw [hr]
    exact h x hx
  all_goals cases hx
theorem snd_tupG {gs : I} (hg : Snd D C n gs) : Snd D C n (.tupG gs) := fun X W S G => calmly rfl fun hS hck => snd_g1 (f := fun
      | .Tuple es _ _ => (chk D gs S).gs es
      | _ => false) rfl hck fun x hx => by
  cases x <;> first | (cases hx; done) | skip
  rename_i es k pos
  have hn := gs_nst (D := D) (S := S) hx
  obtain ⟨a1, a2⟩ := asg_len (env := X.env) hn
  refine ⟨fun pins s σ H v u Q I r h => ?_⟩
  refine (pg_tup (k := k) (pos := pos) (G.calm hS).1 ((hg X W S G).gs es hx) a1 a2).run pins s σ H v u Q I r ?_
  cases v with
  | ref a =>
    obtain ⟨xs, h1, h2, h3⟩ := h
    rw [← G.fc.hK] at h1
    exact ⟨a, xs, rfl, h1, by rw [h2, gs_count hx], h3⟩
  | _ => exact h.elim
theorem set_ok {X : Cx} (hu : X.A.units + 1 < cLine) : PSet X rSetU := by
  intro pins s σ H o i v ov iv u Q I ro ri rv h
  unfold rSetU at h
  split at h
  · rcases h with ⟨xs, h1, m, h2, q⟩ | ⟨kvs, h1, h2, q⟩
    · exact set_list pins s σ H _ _ v ov iv u Q I ro ri rv ⟨_, xs, _, m, rfl, rfl, h1, h2, q⟩
    · cases ro
      exact d_setItem hu I (.inl ⟨kvs, .inl _, h1, rfl, h2, rfl⟩) ri rv fun s' I' => ⟨_, I', q⟩
  · obtain ⟨kvs, h1, h2, q⟩ := h
    cases ro
    exact d_setItem hu I (.inl ⟨kvs, .inr _, h1, rfl, h2, rfl⟩) ri rv fun s' I' => ⟨_, I', q⟩
  · exact h.elim
theorem snd_subG {o i : I} (ho : Snd D C n o) (hi : Snd D C n i) : Snd D C n (.subG o i) := fun X W S G => snd_g1 (f := fun
      | .Subscript x y _ => noSlice y && (chk D o S).e x && (chk D i S).e y
      | _ => false) rfl rfl fun x hx => by
  cases x <;> first | (cases hx; done) | skip
  rename_i x y pos
  obtain ⟨h1, h3⟩ := b2 (show (noSlice y && (chk D o S).e x && (chk D i S).e y) = true from hx)
  obtain ⟨h1, h2⟩ := b2 h1
  exact pg_sub ((ho X W S G).e x h2).1 ((hi X W S G).e y h3).1 (set_ok (by have := G.un; omega)) (fun v => by cases y <;> first | rfl | (cases h1; done))
theorem snd_attG {o : I} (f : Str) (ho : Snd D C n o) : Snd D C n (.attG o f) := fun X W S G => snd_g1 (f := fun
      | .Attribute x f' _ => decide (f = f') && abase x && (chk D o S).e x
      | _ => false) rfl rfl fun x hx => by
  cases x <;> first | (cases hx; done) | skip
  rename_i x f' pos
  obtain ⟨h1, h3⟩ := b2 (show (decide (f = f') && abase x && (chk D o S).e x) = true from hx)
  obtain ⟨h1, h2⟩ := b2 h1
  obtain rfl := bd h1
  have po := ((ho X W S G).e x h3).1
  refine ⟨fun pins s σ H v u Q I r h => ?_⟩
  rw [arm_assign_Attribute]
  refine wpAny_bind (wpAny_holding (thn (po.run pins s σ H _ I h) fun ov s1 ⟨y, H1, I1, r1, q1⟩ => ?_))
  cases y with
  | ref a =>
    obtain rfl : ov = Value.ref a := r1
    obtain ⟨cn, dx, fs, ea, ef, el, q⟩ := q1
    obtain ⟨c1, c2⟩ := G.fc.fld cn f ef
    rw [← G.fc.hK] at ea q
    refine wpAny_bind (wpAny_standAt (wpAny_bind (wpAny_holding (setattr_ok I1 ea c1 c2 el r fun s2 I2 => ?_))))
    exact wpAny_release ⟨σ, _, I2, q⟩
  | _ => exact q1.elim
/-! ### statements -/
theorem snd_set {g e : I} (hg : Snd D C n g) (he : Snd D C n e) : Snd D C n (.set g e) := fun X W S G => snd_ofS (f := fun
      | .Assign [t] x _ => noComp x && (noTup t || noTup x || notSwap S.sc t x) && nst t && (chk D g S).g t && (chk D e S).e x
      | _ => false) rfl rfl fun x hx => by
  cases x <;> first | (cases hx; done) | skip
  rename_i ts x pos
  rcases ts with _ | ⟨t, _ | ⟨t2, ts⟩⟩ <;> first | (cases hx; done) | skip
  obtain ⟨h1, h5⟩ := b2 (show (noComp x && (noTup t || noTup x || notSwap S.sc t x) && nst t && (chk D g S).g t && (chk D e S).e x) = true from hx)
  obtain ⟨h1, h4⟩ := b2 h1
  obtain ⟨h1, h3⟩ := b2 h1
  obtain ⟨h1, h2⟩ := b2 h1
  exact ps_asg ((he X W S G).e x h5).1 ((hg X W S G).g t h4) (noComp_ok h1) (by
    rcases Bool.or_eq_true_iff.mp h2 with h2 | h2
    · exact noTup_ok h2
    · exact notSwap_ok (by rw [G.sc]; exact h2)) (by rw [asg_cons h3]; rfl)
theorem snd_expr {e : I} (he : Snd D C n e) : Snd D C n (.expr e) := fun X W S G => snd_ofS (f := fun
      | .Expr x _ => noComp x && (chk D e S).e x
      | _ => false) rfl rfl fun x hx => by
  cases x <;> first | (cases hx; done) | skip
  rename_i x pos
  obtain ⟨h1, h2⟩ := b2 (show (noComp x && (chk D e S).e x) = true from hx)
  exact ps_expr ((he X W S G).e x h2).1 (noComp_ok h1)
theorem snd_ret {e : I} (he : Snd D C n e) : Snd D C n (.ret e) := fun X W S G => snd_ofS (f := fun
      | .Return (some x) _ => (chk D e S).e x
      | _ => false) rfl rfl fun x hx => by
  cases x <;> first | (cases hx; done) | skip
  rename_i x pos
  cases x with
  | none => cases hx
  | some x => exact ps_ret ((he X W S G).e x hx).1
theorem snd_retN : Snd D C n .retN := fun X W S G => snd_ofS (f := fun
      | .Return none _ => true
      | _ => false) rfl rfl fun x hx => by
  cases x <;> first | (cases hx; done) | skip
  rename_i x pos
  cases x with
  | none => exact ps_retN
  | some x => cases hx
theorem snd_if {c a b : I} (hc : Snd D C n c) (ha : Snd D C n a) (hb : Snd D C n b) : Snd D C n (.if_ c a b) := fun X W S G => snd_ofS (f := fun
      | .If x as bs _ => (chk D c S).e x && (chk D a S).ss as && (chk D b S).ss bs
      | _ => false) rfl rfl fun x hx => by
  cases x <;> first | (cases hx; done) | skip
  rename_i x as bs pos
  obtain ⟨h1, h3⟩ := b2 (show ((chk D c S).e x && (chk D a S).ss as && (chk D b S).ss bs) = true from hx)
  obtain ⟨h1, h2⟩ := b2 h1
  exact ps_if ((hc X W S G).e x h1).2 ((ha X W S G).ss as h2) ((hb X W S G).ss bs h3)
theorem snd_while {c b : I} (hc : Snd D C n c) (hb : Snd D C n b) : Snd D C n (.while_ c b) := fun X W S G => snd_ofS (f := fun
      | .While x bs [] _ => (chk D c S).e x && (chk D b S).ss bs
      | _ => false) rfl rfl fun x hx => by
  cases x <;> first | (cases hx; done) | skip
  rename_i x bs os pos
  cases os with
  | cons => cases hx
  | nil =>
    obtain ⟨h1, h3⟩ := b2 (show ((chk D c S).e x && (chk D b S).ss bs) = true from hx)
    exact ps_while G.own ((hc X W S G).e x h1).2 ((hb X W S G).ss bs h3)
theorem snd_never : Snd D C n .never := fun X W S G => snd_ofS (f := fun _ => true) rfl rfl fun x hx => ps_never
theorem snd_pass : Snd D C n .pass := fun X W S G => snd_ofS (f := fun
      | .Pass _ => true
      | _ => false) rfl rfl fun x hx => by
  cases x <;> first | (cases hx; done) | skip
  exact ps_pass
theorem snd_brk : Snd D C n .brk := fun X W S G => snd_ofS (f := fun
      | .Break _ => true
      | _ => false) rfl rfl fun x hx => by
  cases x <;> first | (cases hx; done) | skip
  exact ps_break
theorem snd_cont : Snd D C n .cont := fun X W S G => snd_ofS (f := fun
      | .Continue _ => true
      | _ => false) rfl rfl fun x hx => by
  cases x <;> first | (cases hx; done) | skip
  exact ps_continue
theorem noStar2 {a b : Expr} (p1 : nst a = true) (p2 : nst b = true) : ([a, b].any fun | .Starred .. => true | _ => false) = false := by
  cases a <;> first | (cases p1; done) | (cases b <;> first | rfl | (cases p2; done))
theorem nd_ne {N : List Str} (nd : N.Nodup) {i j : Nat} {x y : Str} (m1 : N[i]? = some x) (m2 : N[j]? = some y) (h : i ≠ j) : x ≠ y := fun e => by
  subst e
  exact h ((List.getElem?_inj (List.getElem?_eq_some_iff.mp m1).1 nd).mp (m1.trans m2.symm))
theorem snd_par {as : I} (i j : Nat) (ha : Snd D C n as) : Snd D C n (.par i j as) := fun X W S G => calmly rfl fun hS hck => snd_ofS (f := fun
      | .Assign [.Tuple [.Name x px, .Name y py] _ _] (.Tuple [a, b] _ _) _ => decide (S.N[i]? = some x) && decide (S.N[j]? = some y) && decide (i ≠ j) && decide (S.sc.names.lookup x = some .local) && decide (S.sc.names.lookup y = some .local) &&
          (px.line == py.line) && !([a, b].all (foldedForSure 8)) && !([a, b].all (constantsAlone 8)) && (chk D as S).a [a, b]
      | _ => false) rfl hck fun x hx => by
  split at hx
  rotate_left
  · cases hx
  rename_i x px y py kt pt a b k2 pt2 pos
  obtain ⟨h1, h9⟩ := b2 hx
  obtain ⟨h1, h8⟩ := b2 h1
  obtain ⟨h1, h7⟩ := b2 h1
  obtain ⟨h1, h6⟩ := b2 h1
  obtain ⟨h1, h5⟩ := b2 h1
  obtain ⟨h1, h4⟩ := b2 h1
  obtain ⟨h1, h3⟩ := b2 h1
  obtain ⟨h1, h2⟩ := b2 h1
  have h1 := bd h1
  have h2 := bd h2
  have h3 := bd h3
  have h4 := bd h4
  have h5 := bd h5
  obtain ⟨pa, pn⟩ := (ha X W S G).a _ h9
  have lx : X.env.scope.names.lookup x = some .local := by rw [G.sc]; exact h4
  have ly : X.env.scope.names.lookup y = some .local := by rw [G.sc]; exact h5
  have hxy : x ≠ y := nd_ne G.nd h1 h2 h3
  refine ps_par (G.calm hS).1 (by rw [G.hN]; exact G.nd) (by rw [G.hN]; exact h1) (by rw [G.hN]; exact h2) h3 lx ly pa ?_ rfl
  have kx : X.env.kindOf x = some .local := lx
  have ky : X.env.kindOf y = some .local := ly
  have hb : X.env.blockKind = .function := by unfold Env.blockKind; rw [G.kd]; rfl
  rw [List.all_cons, List.all_cons, Bool.and_eq_true, Bool.and_eq_true] at pn
  have hst := noStar2 pn.1 pn.2.1
  have hp : py.line = px.line := (beq_iff_eq.mp h6).symm
  have he : ([x, y] : List Str).eraseDups.length = 2 := by
    have hyx : (y == x) = false := by simpa using Ne.symm hxy
    have hxy' : (x == y) = false := by simpa using hxy
    simp [List.eraseDups, List.eraseDupsBy, List.eraseDupsBy.loop, hyx, hxy']
  unfold swappedStores
  simp only [hb, kx, ky, bn h7, bn h8, Expr.pos, hp, he, List.filterMap_cons, List.filterMap_nil, List.length_cons, List.length_nil, List.head?_cons, Option.map_some, Option.getD_some, beq_self_eq_true, Bool.and_self, if_true, Bool.true_or, Bool.not_true, Bool.false_or, bne_self_eq_false, Bool.or_false, Bool.false_eq_true, if_false]
  exact if_neg (fun z => Bool.false_ne_true (hst.symm.trans z))
theorem snd_raise {as : I} (c : Str) (ha : Snd D C n as) : Snd D C n (.raise c as) := fun X W S G => calmly rfl fun hS hck => snd_ofS (f := fun
      | .Raise (some (.Call (.Name x _) es [] _)) none _ => decide (x = c) && S.gl x && decide (x ∈ D.errs) && !es.isEmpty && (chk D as S).a es
      | _ => false) rfl hck fun x hx => by
  split at hx
  rotate_left
  · cases hx
  rename_i x p es pos p'
  obtain ⟨h1, h5⟩ := b2 hx
  obtain ⟨h1, h4⟩ := b2 h1
  obtain ⟨h1, h3⟩ := b2 h1
  obtain ⟨h1, h2⟩ := b2 h1
  obtain rfl := bd h1
  obtain ⟨fs, fI, e1, e2, T⟩ := G.fc.err x (bd h3)
  obtain ⟨gl, db, _⟩ := gl_ok G.sc h2
  obtain ⟨pa, pn⟩ := (ha X W S G).a es h5
  cases es with
  | nil => cases h4
  | cons e es =>
    have pn' := pn
    rw [List.all_cons, Bool.and_eq_true] at pn'
    refine ps_raise (G.calm hS).1 G.tk (pmk_err (R := fun vs H1 Q => ∃ fs, C.xf x = some fs ∧ vs.length = fs.length ∧ ∀ d, H1 d = none → Q (.ref (He.ga C.K x)) (some d) (upd H1 d (.xd (fs.zip vs).reverse))) (fun vs H1 Q q => ?_) T ((G.calm hS).2.mono (by omega)) gl e2 pa db (star_cons pn'.1) (star_none pn'.2))
    obtain ⟨fs', e3, e4, e5⟩ := q
    rw [e1] at e3
    cases e3
    rw [← G.fc.hK] at e5
    exact ⟨e4, e5⟩
end
end U

namespace U
open PySem PySem.Spec PyProof.Rows L2
section
variable {D : SD} {C : Ctx} {n : Nat} {X : Cx}
/-- a reading closed upwards -/
def up (t : TE) : TE := fun σ H Q => ∃ Q' : VK, t σ H Q' ∧ ∀ v H', Q' v H' → Q v H'
theorem pe_up {e : Expr} {t : TE} (h : PE X e t) : PE X e (up t) := ⟨fun pins s σ H Q I ⟨Q', h1, h2⟩ => thn (h.run pins s σ H Q' I h1) fun _ _ ⟨v, H', I', r, q⟩ => ⟨v, H', I', r, h2 v H' q⟩⟩
theorem pi_imp {tg e : Expr} {w1 w2 : TI} (h : PI X tg e w1) (k : ∀ σ H R, w2 σ H R → w1 σ H R) : PI X tg e w2 := ⟨fun pins s σ H R I q => h.run pins s σ H R I (k σ H R q)⟩
theorem fits_list {K : PySem.W.Frag} {a : Addr} {xs : List V} : Fits (Itl K a) (fun H' => SqL K H' a xs) (xs.map .v) := by
  intro j H' hj ok
  rw [List.getElem?_map]
  cases e : xs[j]? with
  | none => exact ⟨xs, ok, List.getElem?_eq_none_iff.mp e⟩
  | some y =>
    refine ⟨⟨xs, y, ok, e⟩, fun z H2 ⟨h1, h2⟩ => ?_⟩
    have := h2 xs ok
    rw [e] at this
    exact ⟨(Option.some.inj this).symm, h1⟩
theorem fits_tup {K : PySem.W.Frag} {a : Addr} {xs : List V} : Fits (Itt K a) (fun H' => SqT K H' a xs) (xs.map .v) := by
  intro j H' hj ok
  rw [List.getElem?_map]
  cases e : xs[j]? with
  | none => exact ⟨xs, ok, List.getElem?_eq_none_iff.mp e⟩
  | some y =>
    refine ⟨⟨xs, y, ok, e⟩, fun z H2 ⟨h1, h2⟩ => ?_⟩
    have := h2 xs ok
    rw [e] at this
    exact ⟨(Option.some.inj this).symm, h1⟩
theorem fits_range {lo : Int} {m : Nat} : Fits (Itr lo m) (fun _ => True) ((List.range m).map fun k => .v (.int (lo + (k : Nat)))) := by
  intro j H' hj ok
  rw [List.getElem?_map]
  by_cases h : j < m
  · rw [List.getElem?_range h]
    exact ⟨h, fun z H2 ⟨h1, h2⟩ => ⟨h2, h1⟩⟩
  · rw [List.getElem?_eq_none (by simpa using h)]
    exact Nat.le_of_not_lt h
theorem fits_str {x : Str} : Fits (Its x) (fun _ => True) (x.cps.toList.map fun c => .v (.str (S [c]))) := by
  intro j H' hj ok
  rw [List.getElem?_map]
  cases e : x.cps.toList[j]? with
  | none =>
    show x.cps.size ≤ j
    have := List.getElem?_eq_none_iff.mp e
    simpa using this
  | some y =>
    have e' : x.cps[j]? = some y := by simpa using e
    refine ⟨?_, fun z H2 ⟨h1, c, h2, h3⟩ => ?_⟩
    · have := (List.getElem?_eq_some_iff.mp e).1
      show j < x.cps.size
      simpa using this
    · rw [e'] at h2
      cases h2
      exact ⟨h3, h1⟩
theorem fits_enum {K : PySem.W.Frag} {a : Addr} {xs : List V} : Fits (Ite K a) (fun H' => SqL K H' a xs) (xs.zipIdx.map fun p => .t [.int (p.2 : Nat), p.1]) := by
  intro j H' hj ok
  rw [List.getElem?_map, List.getElem?_zipIdx]
  cases e : xs[j]? with
  | none => exact ⟨xs, ok, List.getElem?_eq_none_iff.mp e⟩
  | some y =>
    refine ⟨⟨xs, y, ok, e⟩, fun z H2 ⟨T, x, h1, h2, h3, h4⟩ => ?_⟩
    have := h4 xs ok
    rw [e] at this
    obtain rfl := Option.some.inj this
    exact ⟨T, h1, h2, by simpa using h3⟩
theorem fits_zip {K : PySem.W.Frag} {a b : Addr} {xs ys : List V} : Fits (Itz K a b) (fun H' => SqL K H' a xs ∧ SqL K H' b ys) ((xs.zip ys).map fun z => .t [z.1, z.2]) := by
  intro j H' hj ok
  rw [List.getElem?_map]
  cases e : (xs.zip ys)[j]? with
  | none =>
    have := List.getElem?_eq_none_iff.mp e
    rw [List.length_zip] at this
    exact ⟨xs, ys, ok.1, ok.2, by omega⟩
  | some p =>
    obtain ⟨e1, e2⟩ := List.getElem?_zip_eq_some.mp e
    refine ⟨⟨xs, ys, p.1, p.2, ok.1, ok.2, e1, e2⟩, fun z H2 ⟨T, x, y, h1, h2, h3, h4, h5⟩ => ?_⟩
    have q1 := h4 xs ok.1
    have q2 := h5 ys ok.2
    rw [e1] at q1
    rw [e2] at q2
    obtain rfl := Option.some.inj q1
    obtain rfl := Option.some.inj q2
    exact ⟨T, h1, h2, h3⟩
theorem snd_itL {e : I} (he : Snd D C n e) : Snd D C n (.itL e) := fun X W S G => snd_ofI (f := fun _ x => (chk D e S).e x) rfl rfl fun tg x hx =>
  pi_imp (pi_list (pe_up ((he X W S G).e x hx).1)) fun σ H R ⟨R', h, kk⟩ => ⟨_, h, fun v H' q => by
    cases v with
    | ref a =>
      obtain ⟨xs, h1, q⟩ := q
      rw [G.fc.hK]
      exact ⟨a, rfl, ⟨xs, h1⟩, kk _ _ _ q _ fits_list⟩
    | _ => exact q.elim⟩
theorem snd_itT {e : I} (he : Snd D C n e) : Snd D C n (.itT e) := fun X W S G => snd_ofI (f := fun _ x => (chk D e S).e x) rfl rfl fun tg x hx =>
  pi_imp (pi_tup (pe_up ((he X W S G).e x hx).1)) fun σ H R ⟨R', h, kk⟩ => ⟨_, h, fun v H' q => by
    cases v with
    | ref a =>
      obtain ⟨xs, h1, q⟩ := q
      rw [G.fc.hK]
      exact ⟨a, rfl, ⟨xs, h1⟩, kk _ _ _ q _ fits_tup⟩
    | _ => exact q.elim⟩
theorem snd_itS {e : I} (he : Snd D C n e) : Snd D C n (.itS e) := fun X W S G => snd_ofI (f := fun _ x => (chk D e S).e x) rfl rfl fun tg x hx =>
  pi_imp (pi_str (pe_up ((he X W S G).e x hx).1)) fun σ H R ⟨R', h, kk⟩ => ⟨_, h, fun v H' q => by
    cases v with
    | str z => exact ⟨z, rfl, kk _ _ _ q _ fits_str⟩
    | _ => exact q.elim⟩
theorem snd_itR1 {a : I} (ha : Snd D C n a) : Snd D C n (.itR1 a) := fun X W S G => snd_ofI (f := fun _ x => match x with
      | .Call (.Name f _) [y] [] _ => decide (f = ("range" : Str)) && S.gl f && decide (f ∈ D.frees) && nst y && (chk D a S).e y
      | _ => false) rfl rfl fun tg x hx => by
  split at hx
  rotate_left
  · cases hx
  rename_i f p y pos
  obtain ⟨h1, h5⟩ := b2 hx
  obtain ⟨h1, h4⟩ := b2 h1
  obtain ⟨h1, h3⟩ := b2 h1
  obtain ⟨h1, h2⟩ := b2 h1
  obtain rfl := bd h1
  obtain ⟨g1, g2, g3⟩ := gl_ok G.sc h2
  refine pi_imp (pi_range1 g1 (G.fc.fr _ (bd h3)) (pa_cons (pe_up ((ha X W S G).e y h5).1) pa_nil (star_cons h4)) (star_cons h4)) fun σ H R ⟨R', h, kk⟩ => ⟨_, h, fun v H' q => ?_⟩
  cases v with
  | int j =>
    obtain ⟨q1, q2, q⟩ := q
    refine ⟨j, rfl, q1, q2, kk _ _ _ q _ ?_⟩
    have := fits_range (lo := 0) (m := j.toNat)
    simpa using this
  | _ => exact q.elim
theorem snd_itR2 {a b : I} (ha : Snd D C n a) (hb : Snd D C n b) : Snd D C n (.itR2 a b) := fun X W S G => snd_ofI (f := fun _ x => match x with
      | .Call (.Name f _) [y, z] [] _ => decide (f = ("range" : Str)) && S.gl f && decide (f ∈ D.frees) && nst y && nst z && (chk D a S).e y && (chk D b S).e z
      | _ => false) rfl rfl fun tg x hx => by
  split at hx
  rotate_left
  · cases hx
  rename_i f p y z pos
  obtain ⟨h1, h7⟩ := b2 hx
  obtain ⟨h1, h6⟩ := b2 h1
  obtain ⟨h1, h5⟩ := b2 h1
  obtain ⟨h1, h4⟩ := b2 h1
  obtain ⟨h1, h3⟩ := b2 h1
  obtain ⟨h1, h2⟩ := b2 h1
  obtain rfl := bd h1
  obtain ⟨g1, g2, g3⟩ := gl_ok G.sc h2
  refine pi_imp (pi_range2 g1 (G.fc.fr _ (bd h3)) (pa_cons (pe_up ((ha X W S G).e y h6).1) (pa_cons (pe_up ((hb X W S G).e z h7).1) pa_nil (star_cons h5)) (star_cons h4)) (by rw [star_cons h4, star_cons h5]; rfl) (star_cons h5)) fun σ H R ⟨R', h, kk⟩ => ⟨_, h, fun v H' q => ⟨_, q, fun u H2 q2 => ?_⟩⟩
  cases v with
  | int i =>
    cases u with
    | int j =>
      obtain ⟨q1, q⟩ := q2
      exact ⟨i, j, rfl, q1, kk _ _ _ q _ fits_range⟩
    | _ => exact q2.elim
  | _ => exact q2.elim
theorem snd_itE {e : I} (he : Snd D C n e) : Snd D C n (.itE e) := fun X W S G => snd_ofI (f := fun t x => match t, x with
      | .Tuple _ _ _, .Call (.Name f _) [y] [] _ => decide (f = ("enumerate" : Str)) && S.gl f && decide (f ∈ D.frees) && nst y && (chk D e S).e y
      | _, _ => false) rfl rfl fun tg x hx => by
  split at hx
  rotate_left
  · cases hx
  rename_i es kk tp f p y pos
  obtain ⟨h1, h5⟩ := b2 hx
  obtain ⟨h1, h4⟩ := b2 h1
  obtain ⟨h1, h3⟩ := b2 h1
  obtain ⟨h1, h2⟩ := b2 h1
  obtain rfl := bd h1
  obtain ⟨g1, g2, g3⟩ := gl_ok G.sc h2
  refine pi_imp (pi_enum g1 (G.fc.fr _ (bd h3)) (pa_cons (pe_up ((he X W S G).e y h5).1) pa_nil (star_cons h4)) (star_cons h4)) fun σ H R ⟨R', h, kk⟩ => ⟨_, h, fun v H' q => ?_⟩
  cases v with
  | ref a =>
    obtain ⟨xs, h1, q⟩ := q
    rw [G.fc.hK]
    exact ⟨a, xs, rfl, h1, kk _ _ _ q _ fits_enum⟩
  | _ => exact q.elim
theorem snd_itZ {a b : I} (ha : Snd D C n a) (hb : Snd D C n b) : Snd D C n (.itZ a b) := fun X W S G => snd_ofI (f := fun t x => match t, x with
      | .Tuple _ _ _, .Call (.Name f _) [y, z] [] _ => decide (f = ("zip" : Str)) && S.gl f && decide (f ∈ D.frees) && nst y && nst z && (chk D a S).e y && (chk D b S).e z
      | _, _ => false) rfl rfl fun tg x hx => by
  split at hx
  rotate_left
  · cases hx
  rename_i es kk tp f p y z pos
  obtain ⟨h1, h7⟩ := b2 hx
  obtain ⟨h1, h6⟩ := b2 h1
  obtain ⟨h1, h5⟩ := b2 h1
  obtain ⟨h1, h4⟩ := b2 h1
  obtain ⟨h1, h3⟩ := b2 h1
  obtain ⟨h1, h2⟩ := b2 h1
  obtain rfl := bd h1
  obtain ⟨g1, g2, g3⟩ := gl_ok G.sc h2
  refine pi_imp (pi_zip g1 (G.fc.fr _ (bd h3)) (pa_cons (pe_up ((ha X W S G).e y h6).1) (pa_cons (pe_up ((hb X W S G).e z h7).1) pa_nil (star_cons h5)) (star_cons h4)) (star_cons h4) (star_none (by rw [List.all_cons, h5]; rfl))) fun σ H R ⟨R', h, kk⟩ => ⟨_, h, fun v H' q => ⟨_, q, fun u H2 q2 => ?_⟩⟩
  cases v with
  | ref i =>
    cases u with
    | ref j =>
      obtain ⟨xs, ys, h1, h2, q⟩ := q2
      rw [G.fc.hK]
      exact ⟨i, j, xs, ys, rfl, h1, h2, kk _ _ _ q _ fits_zip⟩
    | _ => exact q2.elim
  | _ => exact q2.elim
/-! ### enumerate(text) -/
def Itn (x : Str) : It := ⟨fun i _ => i < x.cps.size, fun i H v H' => ∃ T c, v = .ref T ∧ H T = none ∧ H' = upd H T (.tup [.int (i : Nat), .str ⟨#[c]⟩]) ∧ x.cps[i]? = some c, fun i _ => x.cps.size = i⟩
theorem turn_enumS {P : Program} {w : World} {K : PySem.W.Frag} {elts : List Expr} {kk : Nat} {tpos : Pos} (x : Str) (t : Tok) (e it : Addr) :
    Turn P w K (.Tuple elts kk tpos) (Itn x) [e, it] e (fun i h => (∃ old, IsEnum h e it ((i : Nat) : Int) old) ∧ h.IsStrIter it (strIterType x) x t i ∧ e ≠ it) where
  mem := by simp
  obj := fun i h st b hb => by
    obtain ⟨⟨old, he⟩, ⟨o, ho, hc, hd⟩, _⟩ := st
    have e' : b = e ∨ b = it := by simpa using hb
    rcases e' with z | z
    · rw [z]; exact ⟨_, he, fun v q => nomatch q⟩
    · rw [z]; exact ⟨o, ho, fun v q => by rw [hd] at q; cases q⟩
  keep := fun i h h' st k => let ⟨⟨old, he⟩, ⟨o, ho, r⟩, hne⟩ := st; ⟨⟨old, k e (by simp) _ he⟩, ⟨o, k it (by simp) o ho, r⟩, hne⟩
  item := by
    intro X hP hw hK hc i pins s σ H E I hf st hg
    subst hP hw hK
    obtain ⟨⟨old, he⟩, hit, hne⟩ := st
    have hel : e < s.heap.objs.size := Heap.lt_size he
    have hil : it < s.heap.objs.size := by obtain ⟨_, q, _⟩ := hit; exact Heap.lt_size q
    have Dr : Draws X.prog X.w X.A.in1 it [it] x.cps.size (fun i v => ∃ c u, x.cps[i]? = some c ∧ v = .str ⟨#[c]⟩ u) (fun i h => h.IsStrIter it (strIterType x) x t i) := by
      unfold strIterType
      cases x.cps.all (· < 128)
      · exact Draws.strWide (A := X.A.in1) (show X.A.in1.handled = none from I.ok.hd hc) it x t
      · exact Draws.strAscii (A := X.A.in1) (show X.A.in1.handled = none from I.ok.hd hc) it x t
    refine wpAny_pyNext_enum_itemD Dr he hit hg hne (by simpa using hne) fun u h' tk hP ho hit' hT hsz hk => ?_
    obtain ⟨c, tu, hcx, rfl⟩ := hP
    refine ⟨_, rfl, wpAny_letOwnedTupleGo_enum (s := { s with heap := h', toks := tk + 1 }) ho fun h'' he' sb => ?_⟩
    have hT2 : h''.get? s.heap.objs.size = some { cls := .type "tuple", data := .seq #[.int i tk, .str ⟨#[c]⟩ tu] } := (sb.2 _ (Nat.ne_of_gt hel)).trans hT
    have new : ObjOk X.prog X.w (upd H s.heap.objs.size (.tup [.int (i : Nat), .str ⟨#[c]⟩])) h'' s.heap.objs.size (.tup [.int (i : Nat), .str ⟨#[c]⟩]) :=
      ⟨by show 2 ≤ sizeLine; decide, [.int i tk, .str ⟨#[c]⟩ tu], .cons ⟨_, rfl⟩ (.cons ⟨_, rfl⟩ .nil), ⟨_, hT2, rfl, _, rfl⟩⟩
    have I1 : Inv X pins σ (upd H s.heap.objs.size (.tup [.int (i : Nat), .str ⟨#[c]⟩])) { s with heap := h'', toks := tk + 1 } :=
      I.turnedNew (ch := [e, it]) (fun b ob hb q => (sb.2 b (fun z => hb (by simp [z]))).trans (hk b ob (fun z => hb (by simp [z])) (fun z => hb (by simp [z])) q)) hf (Nat.le_refl _) new
    refine ⟨.ref s.heap.objs.size, _, I1, rfl, ⟨_, c, rfl, I.hok.fresh (Nat.le_refl _), rfl, hcx⟩, ⟨⟨.str ⟨#[c]⟩ tu, ?_⟩, ?_, hne⟩, fun b hb => ?_⟩
    · have e1 : ((i + 1 : Nat) : Int) = (i : Int) + 1 := by omega
      rw [e1]; exact he'
    · obtain ⟨o, ho', r⟩ := hit'
      exact ⟨o, (sb.2 it (Ne.symm hne)).trans ho', r⟩
    · have hb' : b < s.heap.objs.size := by
        have e' : b = e ∨ b = it := by simpa using hb
        rcases e' with z | z
        · rw [z]; exact hel
        · rw [z]; exact hil
      rw [upd_ne (Nat.ne_of_lt hb')]
      exact (hf b hb).1
  done := by
    intro X hP hw hK hc i pins s σ H E I hf st hg
    subst hP hw hK
    obtain ⟨⟨old, he⟩, hit, hne⟩ := st
    obtain ⟨f0, f1, f2, f3, f4, f5⟩ := hf it (by simp)
    have Dr : Draws X.prog X.w X.A.in1 it [it] x.cps.size (fun i v => ∃ c u, x.cps[i]? = some c ∧ v = .str ⟨#[c]⟩ u) (fun i h => h.IsStrIter it (strIterType x) x t i) := by
      unfold strIterType
      cases x.cps.all (· < 128)
      · exact Draws.strWide (A := X.A.in1) (show X.A.in1.handled = none from I.ok.hd hc) it x t
      · exact Draws.strAscii (A := X.A.in1) (show X.A.in1.handled = none from I.ok.hd hc) it x t
    have hg : x.cps.size = i := hg
    exact wpAny_pyNext_enum_endD Dr he (by rw [hg]; exact hit) fun h' eb => ⟨rfl, I.turned (t' := s.toks) (fun b o hb q => eb b o hb q) f0 f1 f3 f4 f5⟩
  self := fun A i s Q E st h => let ⟨⟨_, he⟩, _⟩ := st; wpAny_pyIter_enum he h
theorem fits_enumS {x : Str} : Fits (Itn x) (fun _ => True) (x.cps.toList.zipIdx.map fun p => .t [.int (p.2 : Nat), .str (S [p.1])]) := by
  intro j H' hj ok
  simp only [List.length_map, List.length_zipIdx, Array.length_toList] at hj
  rw [List.getElem?_map, List.getElem?_zipIdx]
  cases e : x.cps.toList[j]? with
  | none =>
    show x.cps.size = j
    have := List.getElem?_eq_none_iff.mp e
    simp only [Array.length_toList] at this
    omega
  | some y =>
    have e' : x.cps[j]? = some y := by simpa using e
    refine ⟨?_, fun z H2 ⟨T, c, h1, h2, h3, h4⟩ => ?_⟩
    · have := (List.getElem?_eq_some_iff.mp e).1
      show j < x.cps.size
      simpa using this
    · rw [e'] at h4
      cases h4
      exact ⟨T, h1, h2, by simpa using h3⟩
theorem snd_itES {e : I} (he : Snd D C n e) : Snd D C n (.itES e) := fun X W S G => snd_ofI (f := fun t x => match t, x with
      | .Tuple _ _ _, .Call (.Name f _) [y] [] _ => decide (f = ("enumerate" : Str)) && S.gl f && decide (f ∈ D.frees) && nst y && (chk D e S).e y
      | _, _ => false) rfl rfl fun tg x hx => by
  split at hx
  rotate_left
  · cases hx
  rename_i es kk tp f p y pos
  obtain ⟨h1, h5⟩ := b2 hx
  obtain ⟨h1, h4⟩ := b2 h1
  obtain ⟨h1, h3⟩ := b2 h1
  obtain ⟨h1, h2⟩ := b2 h1
  obtain rfl := bd h1
  obtain ⟨g1, g2, g3⟩ := gl_ok G.sc h2
  have po := ((he X W S G).e y h5).1
  refine ⟨fun pins s σ H R I ⟨R', h, k⟩ => ?_⟩
  refine Call_ (ld_blt I g1 (G.fc.fr _ (bd h3)) boot_enumerate (PyProof.Rows.callWith_type1 ?_ (star_cons h4) rfl))
  rw [star_cons h4]
  show wpAny _ _ (spliced ((false, eval y X.env) :: backTo pos (starEach [] X.env))) _ _ s
  refine Calls.spliced_cons (thn (po.run pins s σ H _ I h) fun u s1 ⟨v, H1, I1, r1, q1⟩ => Calls.spliced_nil ?_)
  cases v with
  | str z =>
    obtain ⟨t, rfl⟩ := r1
    refine call_enumerate_str fun h' he hit hsz hk => wpAny_pyIter_enum he ?_
    have I2 : Inv X pins σ H1 { s1 with heap := h' } := I1.kept (t' := s1.toks) hk
    refine ⟨s1.heap.objs.size + 1, [s1.heap.objs.size + 1, s1.heap.objs.size], _, _, H1, rfl, I2, turn_enumS z t (s1.heap.objs.size + 1) s1.heap.objs.size, ⟨⟨.none, he⟩, hit, Nat.succ_ne_self _⟩, fun b hb => ?_, k _ _ _ q1 _ fits_enumS⟩
    have e' : b = s1.heap.objs.size + 1 ∨ b = s1.heap.objs.size := by simpa using hb
    have hle : s1.heap.objs.size ≤ b := by
      rcases e' with z | z
      · rw [z]; exact Nat.le_add_right _ _
      · rw [z]; exact Nat.le_refl _
    exact I1.fpOk hle (I1.hok.fresh hle)
  | _ => exact q1.elim
/-! ### for -/
theorem gs_g {tg : I} {W : WX} {S : SC} {x : Expr} {xs : List V} {σ : St} {H : Hp} {T : Addr} {Q : St → Hp → Prop} (hc : (chk D tg S).g x = true) (h : (rd C tg W).gs xs σ (upd H T (.tup xs)) Q) : (rd C tg W).g (.ref T) σ (upd H T (.tup xs)) Q := by
  cases tg <;> first | (cases hc; done) | exact h.elim | skip
  obtain ⟨h1, h2⟩ := h
  exact ⟨xs, SqT.of upd_same, h1, h2⟩
theorem snd_for {tg it b : I} (hg : Snd D C n tg) (hi : Snd D C n it) (hb : Snd D C n b) : Snd D C n (.for_ tg it b) := fun X W S G => calmly rfl fun hS hck => snd_ofS (f := fun
      | .For t x bs [] _ => noSet x && (chk D tg S).g t && (chk D it S).i t x && (chk D b S).ss bs
      | _ => false) rfl hck fun x hx => by
  split at hx
  rotate_left
  · cases hx
  rename_i t x bs pos
  obtain ⟨h1, h4⟩ := b2 hx
  obtain ⟨h1, h3⟩ := b2 h1
  obtain ⟨h1, h2⟩ := b2 h1
  refine ⟨fun pins s σ H D' I h => ?_⟩
  refine (ps_for (pos := pos) G.own (G.calm hS).1 ((hi X W S G).it t x h3) ((hg X W S G).g t h2) ((hb X W S G).ss bs h4) (fun _ => noSet_ok h1)).run pins s σ H D' I ?_
  refine ⟨_, h, fun ok items H1 q J fit => ?_⟩
  refine ⟨fun i m σ' H' => i + m = items.length ∧ forGo ok (rd C tg W).g (rd C tg W).gs (rd C b W).s D' (items.drop i) σ' H', ⟨items.length, by simp, by simpa using q⟩, ?_⟩
  rintro i m σ' H' ⟨e, q⟩
  cases er : items[i]? with
  | none =>
    have hle := List.getElem?_eq_none_iff.mp er
    rw [List.drop_eq_nil_of_le hle] at q
    obtain ⟨q1, q2⟩ := q
    have f := fit i H' (by omega) q1
    rw [er] at f
    exact .inl ⟨f, q2⟩
  | some y =>
    obtain ⟨hlt, ey⟩ := List.getElem?_eq_some_iff.mp er
    rw [List.drop_eq_getElem_cons hlt, ey] at q
    cases y with
    | v y =>
      obtain ⟨q1, q2⟩ := q
      have f := fit i H' (by omega) q1
      rw [er] at f
      refine .inr ⟨f.1, forGo ok (rd C tg W).g (rd C tg W).gs (rd C b W).s D' (items.drop (i + 1)), fun σ2 H2 z => ⟨m - 1, by omega, by omega, z⟩, fun z H2 yl => ?_⟩
      obtain ⟨rfl, rfl⟩ := f.2 z H2 yl
      exact q2
    | t ys =>
      obtain ⟨q1, q2⟩ := q
      have f := fit i H' (by omega) q1
      rw [er] at f
      refine .inr ⟨f.1, forGo ok (rd C tg W).g (rd C tg W).gs (rd C b W).s D' (items.drop (i + 1)), fun σ2 H2 z => ⟨m - 1, by omega, by omega, z⟩, fun z H2 yl => ?_⟩
      obtain ⟨T, rfl, hT, rfl⟩ := f.2 z H2 yl
      exact gs_g h2 (q2 T hT)
/-! ### comprehensions -/
theorem pe_lcG {own : List (Str × Nat)} {elt tg it cond : I} {hasIf : Bool} (he : Snd D C n elt) (hg : Snd D C n tg) (hi : Snd D C n it) (hc : Snd D C n cond) {X : Cx} {W : WX} {S : SC} (G : Gd D C n X W S) (hS : S.calm = true) {x t it' : Expr} {ifs : List Expr} {sc : Scope} {pos : Pos}
    (h1 : blkC S.N S.sc sc own = true) (h2 : noSet it' = true) (h3 : (chk D it S).i t it' = true) (h4 : (chk D tg ⟨S.N, relS sc S.sc, false, true, false⟩).g t = true)
    (h5 : ifOk hasIf (chk D cond ⟨S.N, relS sc S.sc, false, true, false⟩).e ifs = true) (h6 : (chk D elt ⟨S.N, relS sc S.sc, false, true, false⟩).e x = true) :
    ∃ (wi : TI) (g : TG) (tt : TT) (te : TE), PI X t it' wi ∧ BlkOk X.N X.env.scope sc own ∧ (∀ (s : Shared) (H : Hp) (c : Addr) (cl : List (Str × Addr)) (fp : List Addr), PG (X.blk s H sc (compEnvC sc cl c X.env) fp) t g) ∧
      (∀ (s : Shared) (H : Hp) (c : Addr) (cl : List (Str × Addr)) (fp : List Addr), PTs (X.blk s H sc (compEnvC sc cl c X.env) fp) ifs tt) ∧ (∀ (s : Shared) (H : Hp) (c : Addr) (cl : List (Str × Addr)) (fp : List Addr), PE (X.blk s H sc (compEnvC sc cl c X.env) fp) x te) ∧
      ∀ σ H Q, (rd C (.lc own elt tg it hasIf cond) W).e σ H Q → tLc wi g tt te (own.map (·.2)) σ H Q := by
  have ok : BlkOk X.N X.env.scope sc own := by
    rw [G.hN, G.sc]
    exact blkOk_by h1
  have GB := fun (s : Shared) (H : Hp) (c : Addr) (cl : List (Str × Addr)) (fp : List Addr) => Gd.blk (s := s) (H := H) (cl := cl) (c := c) (fp := fp) G hS ok
  refine ⟨wiOf (rd C it W).i, (rd C tg noW).g, lcIf hasIf (rd C cond noW).t, (rd C elt noW).e, (hi X W S G).it t it' h3, ok, fun s H c cl fp => (hg _ _ _ (GB s H c cl fp)).g t h4, fun s H c cl fp => ?_, fun s H c cl fp => ((he _ _ _ (GB s H c cl fp)).e x h6).1, fun σ H Q h => ?_⟩
  · cases hasIf with
    | false =>
      cases ifs with
      | nil => exact pts_nil
      | cons => cases h5
    | true =>
      rcases ifs with _ | ⟨c0, _ | ⟨c1, ifs⟩⟩ <;> first | (cases h5; done) | skip
      exact pts_one ((hc _ _ _ (GB s H c cl fp)).e c0 h5).2
  · refine ⟨_, h, fun okk items H1 q J fit Dl hDl => ?_⟩
    refine ⟨fun i m H' => i + m = items.length ∧ lcGo okk (rd C tg noW).g (rd C tg noW).gs (lcIf hasIf (rd C cond noW).t) (rd C elt noW).e Dl (own.map (·.2)) σ Q (items.drop i) H', ⟨items.length, by simp, by simpa using q Dl hDl⟩, ?_⟩
    rintro i m H' ⟨e, q⟩
    cases er : items[i]? with
    | none =>
      have hle := List.getElem?_eq_none_iff.mp er
      rw [List.drop_eq_nil_of_le hle] at q
      obtain ⟨q1, q2⟩ := q
      have f := fit i H' (by omega) q1
      rw [er] at f
      exact .inl ⟨f, q2⟩
    | some y =>
      obtain ⟨hlt, ey⟩ := List.getElem?_eq_some_iff.mp er
      rw [List.drop_eq_getElem_cons hlt, ey] at q
      cases y with
      | v y =>
        obtain ⟨q1, q2⟩ := q
        have f := fit i H' (by omega) q1
        rw [er] at f
        refine .inr ⟨f.1, _, fun H2 z => ⟨m - 1, by omega, by omega, z⟩, fun z H2 yl => ?_⟩
        obtain ⟨rfl, rfl⟩ := f.2 z H2 yl
        exact q2
      | t ys =>
        obtain ⟨q1, q2⟩ := q
        have f := fit i H' (by omega) q1
        rw [er] at f
        refine .inr ⟨f.1, _, fun H2 z => ⟨m - 1, by omega, by omega, z⟩, fun z H2 yl => ?_⟩
        obtain ⟨T, rfl, hT, rfl⟩ := f.2 z H2 yl
        exact gs_g h4 (q2 T hT)
theorem snd_lc {elt tg it cond : I} (own : List (Str × Nat)) (hasIf : Bool) (he : Snd D C n elt) (hg : Snd D C n tg) (hi : Snd D C n it) (hc : Snd D C n cond) : Snd D C n (.lc own elt tg it hasIf cond) := fun X W S G => calmly rfl fun hS hck => snd_ofE (f := fun
      | .ListComp x [⟨t, it', ifs, 0⟩] sc _ => blkC S.N S.sc sc own && noSet it' && (chk D it S).i t it' && (chk D tg ⟨S.N, relS sc S.sc, false, true, false⟩).g t && ifOk hasIf (chk D cond ⟨S.N, relS sc S.sc, false, true, false⟩).e ifs && (chk D elt ⟨S.N, relS sc S.sc, false, true, false⟩).e x
      | _ => false) rfl hck G.fc.hK fun x hx => by
  split at hx
  rotate_left
  · cases hx
  rename_i x t it' ifs sc pos
  obtain ⟨h1, h6⟩ := b2 hx
  obtain ⟨h1, h5⟩ := b2 h1
  obtain ⟨h1, h4⟩ := b2 h1
  obtain ⟨h1, h3⟩ := b2 h1
  obtain ⟨h1, h2⟩ := b2 h1
  obtain ⟨wi, g, tt, te, p1, p2, p3, p4, p5, p6⟩ := pe_lcG (own := own) (hasIf := hasIf) he hg hi hc G hS h1 h2 h3 h4 h5 h6 (pos := pos)
  refine ⟨⟨fun pins s σ H Q I h => ?_⟩, fun _ => rfl⟩
  exact (pe_lc (G.calm hS).1 (by rw [G.hN]; exact G.nd) p1 p2 p3 p4 p5 (fun _ => noSet_ok h2)).run pins s σ H Q I (p6 σ H Q h)
theorem lc_inv {elt tg it cond : I} {own : List (Str × Nat)} {hasIf : Bool} {S : SC} (hS : S.calm = true) : ∀ {x : Expr}, (chk D (.lc own elt tg it hasIf cond) S).e x = true → ∃ y t it' ifs sc pos, x = .ListComp y [⟨t, it', ifs, 0⟩] sc pos ∧
    (blkC S.N S.sc sc own && noSet it' && (chk D it S).i t it' && (chk D tg ⟨S.N, relS sc S.sc, false, true, false⟩).g t && ifOk hasIf (chk D cond ⟨S.N, relS sc S.sc, false, true, false⟩).e ifs && (chk D elt ⟨S.N, relS sc S.sc, false, true, false⟩).e y) = true := by
  intro x hx
  simp only [chk, hS, Ck.when, Ck.ofE] at hx
  split at hx
  · exact ⟨_, _, _, _, _, _, rfl, hx⟩
  · cases hx
/-- name = [..], on one line -/
theorem snd_setLc {elt tg it cond : I} (i : Nat) (own : List (Str × Nat)) (hasIf : Bool) (he : Snd D C n elt) (hg : Snd D C n tg) (hi : Snd D C n it) (hc : Snd D C n cond) : Snd D C n (.setLc i (.lc own elt tg it hasIf cond)) := fun X W S G => calmly rfl fun hS hck => snd_ofS (f := fun
      | .Assign [.Name y py] x _ => (match x with
        | .ListComp _ [_] sc pos => decide (S.N[i]? = some y) && decide (S.sc.names.lookup y = some .local) && (py.line == pos.line) && !(sc.names.any fun (n, k) => n == y && (k == .local || k == .cell))
        | _ => false) && (chk D (.lc own elt tg it hasIf cond) S).e x
      | _ => false) rfl hck fun x hx => by
  split at hx
  rotate_left
  · cases hx
  rename_i y py x pos
  obtain ⟨k1, hx⟩ := b2 hx
  obtain ⟨x, t, it', ifs, sc, lpos, rfl, hx2⟩ := lc_inv hS hx
  obtain ⟨k1, k4⟩ := b2 k1
  obtain ⟨k1, k3⟩ := b2 k1
  obtain ⟨k1, k2⟩ := b2 k1
  obtain ⟨h1, h6⟩ := b2 hx2
  obtain ⟨h1, h5⟩ := b2 h1
  obtain ⟨h1, h4⟩ := b2 h1
  obtain ⟨h1, h3⟩ := b2 h1
  obtain ⟨h1, h2⟩ := b2 h1
  obtain ⟨wi, g, tt, te, p1, p2, p3, p4, p5, p6⟩ := pe_lcG (own := own) (hasIf := hasIf) he hg hi hc G hS h1 h2 h3 h4 h5 h6 (pos := lpos)
  have ly : X.env.scope.names.lookup y = some .local := by rw [G.sc]; exact bd k2
  refine ⟨fun pins s σ H D' I h => ?_⟩
  refine (ps_setLc (i := i) (G.calm hS).1 (by rw [G.hN]; exact G.nd) (by rw [G.hN]; exact bd k1) ly (sw_true G.kd ly k3 (bn k4)) p1 p2 p3 p4 p5 (fun _ => noSet_ok h2)).run pins s σ H D' I ?_
  exact p6 σ H _ h
end
end U

namespace U
open PySem PySem.Spec PyProof.Rows L2
section
variable {D : SD} {C : Ctx} {n : Nat}
theorem snd_eatt {o : I} (f : Str) (ho : Snd D C n o) : Snd D C n (.eatt o f) := fun X W S G => snd_ofE (f := fun
      | .Attribute x f' _ => decide (f = f') && abase x && (chk D o S).e x
      | _ => false) rfl rfl G.fc.hK fun x hx => by
  cases x <;> first | (cases hx; done) | skip
  rename_i x f' pos
  obtain ⟨h1, h3⟩ := b2 (show (decide (f = f') && abase x && (chk D o S).e x) = true from hx)
  obtain ⟨h1, h2⟩ := b2 h1
  obtain rfl := bd h1
  have po := ((ho X W S G).e x h3).1
  refine ⟨⟨fun pins s σ H Q I h => ?_⟩, fun _ => rfl⟩
  refine attr_of (abase_ok h2) (thn (po.run pins s σ H _ I h) fun u s1 ⟨y, H1, I1, ry, q⟩ => ?_)
  cases y with
  | ref a =>
    obtain rfl : u = Value.ref a := ry
    obtain ⟨cn, d, fs, ea, ed, ⟨es, e1, e2⟩, v, l, q⟩ := q
    rw [← G.fc.hK] at ea
    obtain ⟨c1, c2⟩ := G.fc.xfc cn es e1
    exact err_get c1 (c2 f e2) I1 ea ed l q
  | _ => exact q.elim
def ecW (K : PySem.W.Frag) : CR → Value
  | .ty n => .type n
  | .own x => .ref (He.ga K x)
theorem ecr_ok {X : Cx} {W : WX} {S : SC} (G : Gd D C n X W S) {c : CR} {e : Expr} (h : ecrOk D S c e = true) {pins : List (Addr × Obj)} {s : Shared} {σ : St} {H : Hp} {Q : Value → Shared → Prop} {E : Value → Shared → Prop} (I : Inv X pins σ H s)
    (q : ∀ s', Inv X pins σ H s' → Q (ecW X.K c) s') : wpAny (model X.prog X.w) X.A (eval e X.env) Q E s := by
  cases e <;> first | (cases h; done) | skip
  rename_i x p
  obtain ⟨h1, h2⟩ := b2 (show (S.gl x && _) = true from h)
  obtain ⟨g1, g2, g3⟩ := gl_ok G.sc h1
  cases c with
  | ty m =>
    obtain ⟨h3, h4⟩ := b2 h2
    exact ld_blt I g1 (G.fc.fr _ (bd h3)) (bd h4) (q _ I) g3 g2
  | own y =>
    obtain ⟨h3, h4⟩ := b2 h2
    obtain rfl := bd h3
    exact ld_glob I g1 (G.fc.ecl _ (bd h4)) (q _ I) g2
theorem snd_eisi {o : I} (c : CR) (ho : Snd D C n o) : Snd D C n (.eisi o c) := fun X W S G => snd_ofE (f := fun
      | .Call (.Name x _) [y, z] [] _ => decide (x = ("isinstance" : Str)) && S.gl x && decide (x ∈ D.frees) && nst y && nst z && (chk D o S).e y && ecrOk D S c z
      | _ => false) rfl rfl G.fc.hK fun x hx => by
  cases x <;> first | (cases hx; done) | skip
  rename_i fe es kws pos
  cases fe <;> first | (cases hx; done) | skip
  rename_i x p
  rcases es with _ | ⟨y, _ | ⟨z, _ | ⟨y2, es⟩⟩⟩ <;> first | (cases hx; done) | skip
  cases kws with
  | cons => cases hx
  | nil =>
    obtain ⟨h1, h7⟩ := b2 hx
    obtain ⟨h1, h6⟩ := b2 h1
    obtain ⟨h1, h5⟩ := b2 h1
    obtain ⟨h1, h4⟩ := b2 h1
    obtain ⟨h1, h3⟩ := b2 h1
    obtain ⟨h1, h2⟩ := b2 h1
    obtain rfl := bd h1
    obtain ⟨g1, g2, g3⟩ := gl_ok G.sc h2
    have pa := ((ho X W S G).e y h6).1
    refine ⟨⟨fun pins s σ H Q I h => ?_⟩, fun _ => rfl⟩
    refine wpAny_Call_Name_kw (ld_blt I g1 (G.fc.fr _ (bd h3)) (by decide +kernel : bootBuiltins "isinstance" = some (.builtin "isinstance")) ?_ g3 g2)
    refine PyProof.Rows.callWith_builtin1 ?_ (star_cons h4) (star_none (by rw [List.all_cons, h5]; rfl))
    rw [star_cons h4]
    show wpAny _ _ (spliced ((false, eval y X.env) :: backTo pos (starEach [z] X.env))) _ _ s
    refine Calls.spliced_cons (thn (pa.run pins s σ H _ I h) fun u s1 ⟨x, H1, I1, r1, q1⟩ => ?_)
    rw [star_cons h5]
    show wpAny _ _ (spliced ((false, eval z X.env) :: backTo pos (starEach [] X.env))) _ _ s1
    cases x with
    | ref a =>
      obtain rfl : u = Value.ref a := r1
      obtain ⟨cn, d, fs, k, ea, ed, e1, q⟩ := q1
      rw [← G.fc.hK] at ea
      obtain ⟨c1, c2⟩ := G.fc.eis cn c k e1
      exact Calls.spliced_cons (ecr_ok G h7 I1 fun s2 I2 => Calls.spliced_nil (err_isi c1 I2 ea ed (cv := ecW X.K c) (b := k) (by cases c <;> exact c2) q))
    | _ => exact q1.elim
theorem snd_try {b su : I} (c : Str) (i : Nat) (hb : Snd D C n b) (hs : Snd D C n su) : Snd D C n (.try_ c i b su) := fun X W S G => calmly rfl fun hS hck => snd_ofS (f := fun
      | .Try body [.ExceptHandler (some (.Name x _)) (some nm) (s0 :: suite) _] [] [] _ => decide (x = c) && S.gl x && decide (x ∈ D.ecls) && S.top && decide (S.N[i]? = some nm) && decide (S.sc.names.lookup nm = some .local) && (chk D b S).ss body && (chk D su ⟨S.N, S.sc, S.top, false, false⟩).ss (s0 :: suite)
      | _ => false) rfl hck fun x hx => by
  split at hx
  rotate_left
  · cases hx
  rename_i body x np nm s0 suite pos' pos
  obtain ⟨h1, h8⟩ := b2 hx
  obtain ⟨h1, h7⟩ := b2 h1
  obtain ⟨h1, h6⟩ := b2 h1
  obtain ⟨h1, h5⟩ := b2 h1
  obtain ⟨h1, h4⟩ := b2 h1
  obtain ⟨h1, h3⟩ := b2 h1
  obtain ⟨h1, h2⟩ := b2 h1
  obtain rfl := bd h1
  obtain ⟨gl, db, _⟩ := gl_ok G.sc h2
  obtain ⟨st1, st2⟩ := G.stk h4
  have em : X.mg x = some (.ref (He.ga X.K x)) := G.fc.ecl _ (bd h3)
  refine ps_try_val (X := X) (n := nm) (i := i) (c := .ref (He.ga X.K x)) (ts := (rd C su noW).s) (Wout := W) (tb := fun W' => (rd C b W').s) (Wf := fun D => _) ?_ st1 st2 (by rw [G.hN]; exact G.nd) (by rw [G.hN]; exact bd h5) ?_ ⟨gl, db, .inl em⟩ G.tk ?_ ?_
  · intro D' cls d σ H ⟨cn, k, e1, e2, e3, e4⟩
    refine ⟨k, ?_, e3, e4⟩
    rw [e1, ← G.fc.hK]
    have := G.fc.exm cn x k e2
    exact this
  · show X.env.scope.names.lookup nm = _
    rw [G.sc]
    exact bd h6
  · intro W' pn xe tk po
    refine (hb (X.tr pn xe) W' S ?_).ss body h7
    exact { fc := G.fc, hN := G.hN, nd := G.nd, sc := G.sc, kd := G.kd, fnt := G.fnt, stk := G.stk, un := G.un, calm := G.calm, big := G.big, tab := G.tab, act := G.act, tk := tk, own := po }
  · intro a pn
    refine (hs (X.suite a pn) noW ⟨S.N, S.sc, S.top, false, false⟩ ?_).ss (s0 :: suite) h8
    exact { fc := G.fc, hN := G.hN, nd := G.nd, sc := G.sc, kd := G.kd, fnt := G.fnt, stk := G.stk, un := G.un, calm := fun z => (by cases z), big := fun z => (by cases z), tab := fun z => (by cases z), act := fun _ z => (by cases z), tk := fun u s' ⟨_, _, _, _, _, _, _, _, _, _, _, _, _, _, _, _, w⟩ => w.elim, own := PassesOwn.never }
end
end U

namespace U
open PySem PySem.Spec PyProof.Rows L2
section
variable {X : Cx} {pins : List (Addr × Obj)} {σ : St} {H : Hp} {s : Shared}
/-- the lambda that a def got is called: what it may raise is wished for at that def's slots -/
theorem act_pe {CXg : CXT} {Eg : XK} {Ng : List Str} {qg a : Str} {sg scope : Scope} {g f c : Addr} {cdg pm ctv : Value} {params : Arguments} {body : Expr} {k i : Nat} {tb : XK → TE}
    (J : Inv X pins σ H s) (L : LamX.LamS X.env.scope scope)
    (fo : s.heap.get? f = some (PySem.W.kla_obj "<lambda>" (X.env.qual ++ "<lambda>") params body scope (cloFrom X.env.cells scope.names []) pm c ctv)) (fH : H f = none) (fS : f ∉ frs X.stack)
    (bnd : bindArgs (PySem.W.kla_fn "<lambda>" (X.env.qual ++ "<lambda>") params body scope (cloFrom X.env.cells scope.names []) pm (.ref c) ctv) ⟨[], []⟩ = pure [])
    (room : Room (k + 1) (X.A.deeper (envOfC qg sg s.heap.objs.size g cdg)))
    (pb : ∀ (E : XK) (B : Around) (o : List Env) (s2 : Shared) (G : Hp), Room k (B.deeper (LamX.lamEnv X scope s2.heap.objs.size f c)) → PE (LamX.lamCx X B o s2 G E scope f c) body (tb E))
    (eN : Ng[i]? = some a) (vis : Vis sg a) (nd : (a == ("__debug__" : Str)) = false) (nc : (a == ("__classdict__" : Str)) = false) :
    ActR (cxOf CXg X.prog X.w X.K X.mg X.base Ng qg sg g cdg X.A X.stack s H Eg) a i f c (X.env.qual ++ "<lambda>") (fun E G R => tb E σ G R) := by
  intro pn xe V pa pb' tk
  refine ⟨fun pinsZ sZ τ G R IZ h => ?_⟩
  obtain ⟨e0, e1, e2⟩ := h
  refine wpAny_Call_Name_kw (thn ((pe_var (pos := pa) (i := i) eN vis nd nc).run pinsZ sZ τ G (fun v H1 => v = .ref f ∧ H1 = G) IZ ⟨.ref f, e0, rfl, rfl⟩) fun u s1 ⟨v, H1, I1, r1, q1⟩ => ?_)
  obtain ⟨rfl, rfl⟩ := q1
  obtain rfl : u = Value.ref f := r1
  have fo1 := I1.base.keep f _ fo fH fS (fun z => nomatch (show f ∈ ([] : List Addr) from z))
  refine PySem.W.callWith_F0 ⟨_, _, _, _, fo1⟩ ?_
  have un : Un (frs X.stack) [] H H1 s.heap s1.heap := I1.base
  obtain ⟨⟨oc, ws, tk', hoc, hdc, hvc⟩, _, _⟩ := I1.hok c _ e1
  refine wpAny_call (codeAny_mono (show codeAny (model X.prog X.w) (X.A.deeper (envOfC qg sg s.heap.objs.size g cdg)) (.call (.ref f) ⟨[], []⟩) (L2.CR (L2.CX X.prog X.w) (envOfC qg sg s.heap.objs.size g cdg :: X.stack) X.prog X.w H1 s1 R (fun cls d G' => V cls d τ G')) s1 from ?_) fun r s' hq => ?_)
  · refine PySem.W.kla_callFunE room.depth fo1 rfl L.co L.gen rfl ⟨c, oc, ws, tk', rfl, hoc, hdc, hvc⟩ ?_
    rw [bnd]
    refine wpAny_pure (wpAny_newFunctionEnv (fun y hy => (L.own y hy).2) (fun y hy => absurd hy (by simp)) (fun h₁ hns hsb => ⟨I1.nolimit.fresh _ hsb, ?_⟩) L.kind)
    have kp : ∀ b o, s1.heap.get? b = some o → h₁.get? b = some o := fun b o e => hsb.extBut b o (Nat.ne_of_lt (Heap.lt_size e)) (Heap.get?_push_of_some _ e)
    have J2 := LamX.lam_start2 (E := fun cls d G' => V cls d τ G') (f := f) (c' := c) (tk := s1.toks + ([] : List (Str × Value)).length) J L I1.env0 room.hd un hns kp
    refine PySem.W.kla_codeExpr (wpAny_mono ((pb _ _ _ s1 H1 (room.deeper _)).run [] _ _ H1 R J2 e2) (fun v s2 ⟨w', G2, J', rv, q⟩ => ?_) fun e s2 hq => hq)
    exact ⟨w', G2, J'.os, J'.bare, J'.base, J'.hok, rv, q⟩
  · cases r with
    | error e => exact tk _ _ (XE.of_call I1 (fun cls d G' z => z) hq)
    | ok fl =>
      cases fl with
      | ret u => exact I1.after hq
      | next | brk | cont => exact False.elim hq
/-- x(lambda: body) -/
theorem pe_lamc {T : List (Addr × Str)} {TT : (XK → Hp → VK → Prop) → Hp → VK → Prop} {x : Str} {c P : Addr} {n : Nat} {params : Arguments} {body : Expr} {scope : Scope} {t : XK → TE} {p lpos pos : Pos}
    (LD : LDef X.prog X.w X.K X.mg X.base n x TT) (hg : Gl X x) (hdb : (x == ("__debug__" : Str)) = false)
    (TB : LamX.TabB X.base X.mg c P) (hcode : X.env.code = .ref c) (hmT : (P, X.env.qual ++ "<lambda>") ∈ T) (hu : ∀ p ∈ T, p.1 = P → p.2 = X.env.qual ++ "<lambda>")
    (hr : Room (5 * n + 5) X.A) (L : LamX.LamS X.env.scope scope) (hdef : defaultsOf params X.env = ([], []))
    (bnd : ∀ (q : Str) (cl : List (Str × Addr)) (pm cv ctv : Value), bindArgs (PySem.W.kla_fn "<lambda>" q params body scope cl pm cv ctv) ⟨[], []⟩ = pure [])
    (pb : ∀ (f c : Addr) (E : XK) (B : Around) (o : List Env) (s2 : Shared) (G : Hp), Room (5 * n + 3) (B.deeper (LamX.lamEnv X scope s2.heap.objs.size f c)) → PE (LamX.lamCx X B o s2 G E scope f c) body (t E)) :
    PE X (.Call (.Name x p) [.Lambda params body scope lpos] [] pos) (fun σ H Q => LamX.Tabs T H ∧ ∀ H1, LamX.ExtN H H1 → LamX.Tabs T H1 → TT (fun E G R => t E σ G R) H1 Q) := by
  refine ⟨fun pins s σ H Q I h => ?_⟩
  obtain ⟨hT, h⟩ := h
  obtain ⟨pg, bg, sg, dV, kV, doc, pm, cdv, ct, oc, an, od, osl, Ng, a, lk, hcd, hb, Sg, hNg, va, ⟨n1, n2⟩, hG⟩ := LD.ex
  refine wpAny_Call_Name_kw (ld_glob I hg LD.at_ ?_ hdb)
  refine PySem.W.callWith_K (h₀ := X.base) I.ok.mod.kin LD.kp ?_ (by rfl) (by rfl)
  refine Calls.spliced_cons (LamX.lam_make2 I TB hcode hmT hu hT hdef (L.has I.ok) fun f c' pm' ctv H1 s' I1 eN T1 hf hfn hfr hco => ?_)
  refine Calls.spliced_nil ⟨I1.kIn, ?_⟩
  refine wpAny_call (codeAny_mono (LamX.run_ofS (CX := C8.CX0) (E := C8.E0) (Q := Q) (N := Ng) (ps := [a]) (us := [.ref f]) (vs := [.ref f]) lk hcd Sg hr I1.env0 (hb s' [.ref f] I1.kIn rfl) (.cons rfl .nil) rfl fun hr' => ?_) fun r s2 hq => ?_)
  · obtain ⟨t', ht', hq'⟩ := hG X (X.env.qual ++ "<lambda>") rfl rfl rfl rfl rfl hr f c' s' H1 Q (fun E G R => t E σ G R) (act_pe (k := 5 * n + 3) (i := 0) I1 L hf hfn hfr (bnd _ _ _ _ _) hr' (fun E B o s2 G hr2 => pb f c' E B o s2 G hr2) hNg va n1 n2) hco (h H1 eN T1)
    exact ⟨t', ht'.nox, hq'⟩
  · cases r with
    | error e => exact (show False from hq).elim
    | ok fl =>
      cases fl with
      | ret u => exact I1.after hq
      | next | brk | cont => exact False.elim hq
end
section
variable {D : SD} {C : Ctx} {n : Nat} {X : Cx} {W : WX} {S : SC}
theorem calmly2 {i : I} {b : Bool} {k : Ck} (hk : chk D i S = Ck.when b k) (h : b = true → chk D i S = k → Snd1 D C n i X W S) : Snd1 D C n i X W S := by
  cases hb : b with
  | true => exact h hb (by rw [hk, hb]; rfl)
  | false =>
    rw [hb] at hk
    have hk : chk D i S = {} := hk
    refine ⟨fun x hx => ?_, fun xs hx => ?_, fun xs hx => ?_, fun x hx => ?_, fun x hx => ?_, fun x hx => ?_, fun x hx => ?_, fun tg x hx => ?_, fun ps ks vs hx => ?_, fun x hx => ?_⟩
    all_goals (rw [hk] at hx; cases hx)
end
section
variable {D : SD} {C : Ctx} {n : Nat}
theorem snd_act (i : Nat) : Snd D C n (.act i) := fun X W S G => calmly2 rfl fun hS hck => snd_ofE (f := fun
      | .Call (.Name x _) [] [] _ => decide (S.N[i]? = some x) && S.vis x && !(x == ("__debug__" : Str)) && !(x == ("__classdict__" : Str))
      | _ => false) rfl hck G.fc.hK fun x hx => by
  obtain ⟨hS1, hS2⟩ := b2 hS
  split at hx
  rotate_left
  · cases hx
  rename_i x p pos
  obtain ⟨h1, h4⟩ := b2 hx
  obtain ⟨h1, h3⟩ := b2 h1
  obtain ⟨h1, h2⟩ := b2 h1
  refine ⟨⟨fun pins s σ H Q I h => ?_⟩, fun _ => rfl⟩
  cases hL : C.lam with
  | none => rw [hL] at h; exact h.elim
  | some L =>
    rw [hL] at h
    obtain ⟨rfl, e1, e2, e3⟩ := h
    exact (G.act hS2 hS1 L hL x (by rw [G.hN]; exact bd h1) X.pn X.xe W p pos G.tk).run pins s σ H Q I ⟨e1, e2, e3⟩
theorem noPar_bind {params : Arguments} (h : noPar params = true) {q : Str} {body : Expr} {scope : Scope} {cl : List (Str × Addr)} {pm cv ctv : Value} : bindArgs (PySem.W.kla_fn "<lambda>" q params body scope cl pm cv ctv) ⟨[], []⟩ = pure [] := by
  obtain ⟨a1, a2, a3, a4, a5, a6, a7⟩ := params
  obtain ⟨h, h7⟩ := b2 h
  obtain ⟨h, h6⟩ := b2 h
  obtain ⟨h, h5⟩ := b2 h
  obtain ⟨h, h4⟩ := b2 h
  obtain ⟨h, h3⟩ := b2 h
  obtain ⟨h1, h2⟩ := b2 h
  obtain rfl := List.isEmpty_iff.mp h1
  obtain rfl := List.isEmpty_iff.mp h2
  obtain rfl := Option.isNone_iff_eq_none.mp h3
  obtain rfl := List.isEmpty_iff.mp h4
  obtain rfl := List.isEmpty_iff.mp h5
  obtain rfl := Option.isNone_iff_eq_none.mp h6
  obtain rfl := List.isEmpty_iff.mp h7
  rfl
theorem noPar_def {params : Arguments} (h : noPar params = true) {env : Env} : defaultsOf params env = ([], []) := by
  obtain ⟨a1, a2, a3, a4, a5, a6, a7⟩ := params
  obtain ⟨h, h7⟩ := b2 h
  obtain ⟨h, h6⟩ := b2 h
  obtain ⟨h, h5⟩ := b2 h
  obtain rfl := List.isEmpty_iff.mp h5
  obtain rfl := List.isEmpty_iff.mp h7
  rfl
theorem snd_lamc {b : I} (f : Str) (hb : Snd D C n b) : Snd D C n (.lamc f b) := fun X W S G => calmly2 rfl fun hS hck => snd_ofE (f := fun
      | .Call (.Name x _) [.Lambda params body scope _] [] _ => decide (x = f) && S.gl x && decide (x ∈ D.lfns) && noPar params && LamX.lamSB S.sc scope && (chk D b ⟨S.N, scope, false, true, false⟩).e body
      | _ => false) rfl hck G.fc.hK fun x hx => by
  obtain ⟨hS, hS3⟩ := b2 hS
  obtain ⟨hS1, hS2⟩ := b2 hS
  split at hx
  rotate_left
  · cases hx
  rename_i x p params body scope lpos pos
  obtain ⟨h1, h6⟩ := b2 hx
  obtain ⟨h1, h5⟩ := b2 h1
  obtain ⟨h1, h4⟩ := b2 h1
  obtain ⟨h1, h3⟩ := b2 h1
  obtain ⟨h1, h2⟩ := b2 h1
  obtain rfl := bd h1
  obtain ⟨gl, db, _⟩ := gl_ok G.sc h2
  obtain ⟨c, P, t1, t2, t3, t4⟩ := G.tab hS3
  have L : LamX.LamS X.env.scope scope := by rw [G.sc]; exact LamX.lamS_by h5
  refine ⟨pe_lamc (n := n) (t := fun E => (rd C b fun cls d _ H2 => E cls d H2).e) (G.fc.lfn x (bd h3)) gl db t1 t2 t3 t4 (G.big hS3) L (noPar_def h4) (fun q cl pm cv ctv => noPar_bind h4) fun f c' E B o s2 G2 hr => ?_, fun _ => rfl⟩
  refine ((hb (LamX.lamCx X B o s2 G2 E scope f c') (fun cls d _ H2 => E cls d H2) ⟨S.N, scope, false, true, false⟩ ?_).e body h6).1
  exact { fc := G.fc, hN := G.hN, nd := G.nd, sc := rfl, kd := L.kind, fnt := fun z => (by cases z), stk := fun z => (by cases z), un := by have := hr.un; show (B.deeper (LamX.lamEnv X scope s2.heap.objs.size f c')).units + 200 < cLine; omega, calm := fun _ => ⟨rfl, hr⟩, big := fun z => (by cases z), tab := fun z => (by cases z), act := fun z => (by cases z), tk := takes_of rfl rfl rfl rfl, own := passes_of rfl }
end
end U

namespace U
open PySem PySem.Spec PyProof.Rows L2
section
variable {D : SD} {C : Ctx} {n : Nat}
/-- a def's call behind its arguments, by place and by name -/
theorem kw_end {X : Cx} {W : WX} {S : SC} (G : Gd D C n X W S) (hS : S.calm = true) {key : Str} {g : Addr} {ks : List Str} {pins : List (Addr × Obj)} {σ : St} {H : Hp} {s : Shared} {us ws : List Value} {vs ts : List V} {Q : VK}
    (F : FnA X.prog X.w X.K X.mg X.base (5 * n + 1) g [] (fun vs _ H Q E => C.fn key vs H Q E)) (FK : ∀ l ks ord, C.kwo key l ks = some ord → FnA X.prog X.w X.K X.mg X.base (5 * n + 1) g ks (fun vs zs H Q E => vs.length = l ∧ ∃ ts, byOrd (vs ++ zs) ord = some ts ∧ C.fn key ts H Q E))
    (I : Inv X pins σ H s) (r : Vals vs us) (rt : Vals ts ws) (q : kwRun C key ks vs ts H Q fun cls d H' => W cls d σ H') : wpAny (model X.prog X.w) X.A (call (.ref g) us (ks.zip ws)) (EP X pins σ Q) X.xe s := by
  cases ks with
  | nil => exact runA (us := us) (ws := []) (vs := vs) (zs := []) F (room1 G hS) G.tk I r .nil rfl q
  | cons k ks =>
    obtain ⟨hl, ord, zs, e1, e2, q⟩ := q
    exact runA (FK _ _ ord e1) (room1 G hS) G.tk I r rt hl ⟨rfl, zs, e2, q⟩
/-- f(es, kws), f kept -/
theorem kw_call {X : Cx} {W : WX} {S : SC} (G : Gd D C n X W S) (hS : S.calm = true) {key : Str} {g : Addr} {ks : List Str} {pins : List (Addr × Obj)} {σ : St} {H : Hp} {s : Shared} {Q : VK} {first : List Value} {fv : List V} {as zs : I} {es : List Expr} {kws : List Keyword} {pos : Pos}
    (F : FnA X.prog X.w X.K X.mg X.base (5 * n + 1) g [] (fun vs _ H Q E => C.fn key vs H Q E)) (FK : ∀ l ks ord, C.kwo key l ks = some ord → FnA X.prog X.w X.K X.mg X.base (5 * n + 1) g ks (fun vs zs H Q E => vs.length = l ∧ ∃ ts, byOrd (vs ++ zs) ord = some ts ∧ C.fn key ts H Q E))
    (kp : PySem.W.keepIn X.K (.ref g) = true) (rf : Vals fv first) (ha : Snd D C n as) (hz : Snd D C n zs) (h3 : (chk D as S).a es = true) (h4 : kws.map (·.arg) = ks.map some) (h5 : (chk D zs S).a (kws.map (·.value)) = true)
    (I : Inv X pins σ H s) (q : (rd C as W).a σ H fun vs H2 => (rd C zs W).a σ H2 fun us H3 => kwRun C key ks (fv ++ vs) us H3 Q fun cls d H' => W cls d σ H') :
    wpAny (model X.prog X.w) X.A (callWith pos (.ref g) first (backTo pos (starEach es X.env)) (backToKw pos (keywordEach kws X.env))) (EP X pins σ Q) X.xe s := by
  obtain ⟨k1, k2, k3, k4⟩ := kw_names (env := X.env) (pos := pos) h4
  obtain ⟨pa, pn⟩ := (ha X W S G).a es h3
  have pk := (hz X W S G).k kws h5
  cases es with
  | nil =>
    obtain rfl := a_nil h3
    refine PySem.W.callWith_KW0 (h₀ := X.base) I.ok.mod.kin kp k1 ?_ (by rw [k3]; rfl)
    refine thn (pk.run pos pins s σ H _ I q) fun ws s3 ⟨ts, H3, I3, rt, q3⟩ => ⟨I3.kIn, ?_⟩
    rw [k2, List.append_nil]
    rw [List.append_nil] at q3
    exact kw_end G hS F FK I3 rf rt q3
  | cons e es =>
    have pn' := pn
    rw [List.all_cons, Bool.and_eq_true] at pn'
    refine PySem.W.callWith_KW (h₀ := X.base) I.ok.mod.kin kp k1 ?_ (by rw [k3, star_none pn]; rfl) (star_cons pn'.1)
    refine thn (pa.run pos pins s σ H _ I q) fun us s2 ⟨vs, H2, I2, r, q2⟩ => ?_
    refine thn (pk.run pos pins s2 σ H2 _ I2 q2) fun ws s3 ⟨ts, H3, I3, rt, q3⟩ => ⟨I3.kIn, ?_⟩
    rw [k2]
    exact kw_end G hS F FK I3 (rf.append r) rt q3
theorem snd_methk {o as zs : I} (m : Str) (ks : List Str) (ho : Snd D C n o) (ha : Snd D C n as) (hz : Snd D C n zs) : Snd D C n (.methk o m as ks zs) := fun X W S G => calmly rfl fun hS hck => snd_ofE (f := fun
      | .Call (.Attribute x f ap) es kws pos => decide (f = m) && abase x && (ap.endLine == pos.line) && decide (es.length + kws.length < 12) && (chk D o S).e x && (chk D as S).a es && decide (kws.map (·.arg) = ks.map some) && (chk D zs S).a (kws.map (·.value))
      | _ => false) rfl hck G.fc.hK fun x hx => by
  split at hx
  rotate_left
  · cases hx
  rename_i x f ap es kws pos
  obtain ⟨h1, h8⟩ := b2 hx
  obtain ⟨h1, h7⟩ := b2 h1
  obtain ⟨h1, h6⟩ := b2 h1
  obtain ⟨h1, h5⟩ := b2 h1
  obtain ⟨h1, h4⟩ := b2 h1
  obtain ⟨h1, h3⟩ := b2 h1
  obtain ⟨h1, h2⟩ := b2 h1
  obtain rfl := bd h1
  have po := ((ho X W S G).e x h5).1
  have pn := ((ha X W S G).a es h6).2
  obtain ⟨k1, k2, k3, k4⟩ := kw_names (env := X.env) (pos := pos) (bd h7)
  refine ⟨⟨fun pins s σ H Q I h => ?_⟩, fun _ => rfl⟩
  refine mcall h2 h3 (by have := bd h4; omega) pn k1 (thn (po.run pins s σ H _ I h) fun u s1 ⟨y, H1, I1, ry, q⟩ => ?_)
  cases y with
  | ref a =>
    obtain rfl : u = Value.ref a := ry
    obtain ⟨cn, dx, fs, key, ea, em, el, q⟩ := q
    obtain ⟨g, c1, c2, c3, F, FK⟩ := G.fc.mth cn _ key em
    rw [← G.fc.hK] at ea
    refine getmeth_ok I1 ea c1 c2 el ?_
    exact kw_call (fv := [.ref a]) (first := [.ref a]) G hS F FK c2.kp (.cons rfl .nil) ha hz h6 (bd h7) h8 I1 q
  | _ => exact q.elim
theorem snd_smeth {as zs : I} (c m : Str) (ks : List Str) (ha : Snd D C n as) (hz : Snd D C n zs) : Snd D C n (.smeth c m as ks zs) := fun X W S G => calmly rfl fun hS hck => snd_ofE (f := fun
      | .Call (.Attribute (.Name x _) f ap) es kws pos => decide (x = c) && S.gl x && decide (x ∈ D.clss) && decide (f = m) && (ap.endLine == pos.line) && decide (es.length + kws.length < 12) && (chk D as S).a es && decide (kws.map (·.arg) = ks.map some) && (chk D zs S).a (kws.map (·.value))
      | _ => false) rfl hck G.fc.hK fun x hx => by
  split at hx
  rotate_left
  · cases hx
  rename_i x p f ap es kws pos
  obtain ⟨h1, h9⟩ := b2 hx
  obtain ⟨h1, h8⟩ := b2 h1
  obtain ⟨h1, h7⟩ := b2 h1
  obtain ⟨h1, h6⟩ := b2 h1
  obtain ⟨h1, h5⟩ := b2 h1
  obtain ⟨h1, h4⟩ := b2 h1
  obtain ⟨h1, h3⟩ := b2 h1
  obtain ⟨h1, h2⟩ := b2 h1
  obtain rfl := bd h1
  obtain rfl := bd h4
  obtain ⟨g1, g2, g3⟩ := gl_ok G.sc h2
  have pn := ((ha X W S G).a es h7).2
  obtain ⟨k1, k2, k3, k4⟩ := kw_names (env := X.env) (pos := pos) (bd h8)
  refine ⟨⟨fun pins s σ H Q I h => ?_⟩, fun _ => rfl⟩
  refine mcall rfl h5 (by have := bd h6; omega) pn k1 (ld_glob I g1 (G.fc.cls x (bd h3)).1 ?_ g2)
  cases hk : C.smt x f with
  | none => rw [hk] at h; exact h.elim
  | some key =>
    rw [hk] at h
    obtain ⟨mc, pp, g, rest, c1, c2, c3, c4, F, FK⟩ := G.fc.smt x f key hk
    refine PySem.W.method_cls I.kIn c1.ga (PySem.W.cls_bind I.kIn c1.rd c2 (wpAny_call (PySem.W.sm_get (s := { s with toks := s.toks + 1 }) I.kIn c3 (PySem.W.handed_on rfl ?_))))
    exact kw_call (fv := []) (first := []) G hS F FK c4 .nil ha hz h7 (bd h8) h9 (I.tok _) h
def isSt : Expr → Bool
  | .Starred .. => true
  | _ => false
theorem isSt_no {a : Expr} (h : nst a = true) : isSt a = false := by
  cases a <;> first | rfl | (cases h; done)
theorem noStar3 {a b c : Expr} (h1 : nst a = true) (h2 : nst b = true) (h3 : nst c = true) : ([a, b, c].any fun | .Starred .. => true | _ => false) = false := by
  show (isSt a || (isSt b || (isSt c || false))) = false
  rw [isSt_no h1, isSt_no h2, isSt_no h3]
  rfl
theorem snd_par3 {as : I} (i j l : Nat) (ha : Snd D C n as) : Snd D C n (.par3 i j l as) := fun X W S G => calmly rfl fun hS hck => snd_ofS (f := fun
      | .Assign [.Tuple [.Name x px, .Name y py, .Name z pz] _ _] (.Tuple [a, b, c] _ _) _ => decide (S.N[i]? = some x) && decide (S.N[j]? = some y) && decide (S.N[l]? = some z) && (decide (i ≠ j) && decide (i ≠ l) && decide (j ≠ l)) && (decide (S.sc.names.lookup x = some .local) && decide (S.sc.names.lookup y = some .local) && decide (S.sc.names.lookup z = some .local)) &&
          ((px.line == py.line) && (py.line == pz.line)) && !([a, b, c].all (foldedForSure 8)) && !([a, b, c].all (constantsAlone 8)) && (chk D as S).a [a, b, c]
      | _ => false) rfl hck fun x hx => by
  split at hx
  rotate_left
  · cases hx
  rename_i x px y py z pz kt pt a b c k2 pt2 pos
  obtain ⟨h1, h9⟩ := b2 hx
  obtain ⟨h1, h8⟩ := b2 h1
  obtain ⟨h1, h7⟩ := b2 h1
  obtain ⟨h1, h6⟩ := b2 h1
  obtain ⟨h1, h5⟩ := b2 h1
  obtain ⟨h1, h4⟩ := b2 h1
  obtain ⟨h1, h3⟩ := b2 h1
  obtain ⟨h1, h2⟩ := b2 h1
  have h1 := bd h1
  have h2 := bd h2
  have h3 := bd h3
  obtain ⟨h4, h43⟩ := b2 h4
  obtain ⟨h41, h42⟩ := b2 h4
  have h41 := bd h41
  have h42 := bd h42
  have h43 := bd h43
  obtain ⟨h5, h53⟩ := b2 h5
  obtain ⟨h51, h52⟩ := b2 h5
  obtain ⟨h61, h62⟩ := b2 h6
  obtain ⟨pa, pn⟩ := (ha X W S G).a _ h9
  have lx : X.env.scope.names.lookup x = some .local := by rw [G.sc]; exact bd h51
  have ly : X.env.scope.names.lookup y = some .local := by rw [G.sc]; exact bd h52
  have lz : X.env.scope.names.lookup z = some .local := by rw [G.sc]; exact bd h53
  have hxy : x ≠ y := nd_ne G.nd h1 h2 h41
  have hxz : x ≠ z := nd_ne G.nd h1 h3 h42
  have hyz : y ≠ z := nd_ne G.nd h2 h3 h43
  refine ps_par3 (G.calm hS).1 (by rw [G.hN]; exact G.nd) (by rw [G.hN]; exact h1) (by rw [G.hN]; exact h2) (by rw [G.hN]; exact h3) h41 h42 h43 lx ly lz pa ?_ rfl
  have kx : X.env.kindOf x = some .local := lx
  have ky : X.env.kindOf y = some .local := ly
  have kz : X.env.kindOf z = some .local := lz
  have hb : X.env.blockKind = .function := by unfold Env.blockKind; rw [G.kd]; rfl
  rw [List.all_cons, List.all_cons, List.all_cons, Bool.and_eq_true, Bool.and_eq_true, Bool.and_eq_true] at pn
  have hst := noStar3 pn.1 pn.2.1 pn.2.2.1
  have hp : py.line = px.line := (beq_iff_eq.mp h61).symm
  have hp2 : pz.line = px.line := (beq_iff_eq.mp h62).symm.trans hp
  have he : ([x, y, z] : List Str).eraseDups.length = 3 := by
    have e1 : (y == x) = false := by simpa using Ne.symm hxy
    have e2 : (x == y) = false := by simpa using hxy
    have e3 : (z == x) = false := by simpa using Ne.symm hxz
    have e4 : (x == z) = false := by simpa using hxz
    have e5 : (z == y) = false := by simpa using Ne.symm hyz
    have e6 : (y == z) = false := by simpa using hyz
    simp [List.eraseDups, List.eraseDupsBy, List.eraseDupsBy.loop, e1, e2, e3, e4, e5, e6]
  unfold swappedStores
  simp only [hb, kx, ky, kz, bn h7, bn h8, Expr.pos, hp, hp2, he, List.filterMap_cons, List.filterMap_nil, List.length_cons, List.length_nil, List.head?_cons, Option.map_some, Option.getD_some, beq_self_eq_true, Bool.and_self, if_true, Bool.true_or, Bool.not_true, Bool.false_or, bne_self_eq_false, Bool.or_false, Bool.false_eq_true, if_false]
  exact if_neg (fun z => Bool.false_ne_true (hst.symm.trans z))
/-- == by an own __eq__ -/
theorem op_oeq {X : Cx} {W : WX} {S : SC} (G : Gd D C n X W S) (hS : S.calm = true) : OpR X (compareOp .Eq) (rOeq C) := by
  intro pins s σ H x y v u Q I rx ry h
  cases x with
  | ref a =>
    obtain rfl : v = Value.ref a := rx
    obtain ⟨cn, dx, fs, key, ea, em, hy, q⟩ := h
    obtain ⟨g, c1, c2, c3, F, _⟩ := G.fc.mth cn _ key em
    have eq := G.fc.eqc cn key em
    rw [← G.fc.hK] at ea hy
    obtain ⟨mA, O, _⟩ := ins_get I.hok ea
    obtain ⟨od, J, _⟩ := O.look
    obtain ⟨m, hF⟩ := I.fr
    have fin : wpAny (model X.prog X.w) X.A (call (.ref g) [.ref a, u]) (PySem.W.CmpBack (EP X pins σ Q)) X.xe s := by
      refine wpAny_call (codeAny_mono (F X.A X.stack s H [.ref a, u] [] [.ref a, y] [] _ _ (room1 G hS) I.env0 (.cons rfl (.cons ry .nil)) .nil rfl q) fun r s' hq => ?_)
      cases r with
      | error e => exact (show False from by obtain ⟨_, _, _, _, _, _, _, _, _, _, _, _, z⟩ := hq; exact z).elim
      | ok fl =>
        cases fl with
        | ret w =>
          obtain ⟨z, H', I', rz, ez⟩ := I.after hq
          cases z with
          | bl k =>
            obtain rfl : w = Value.bool k := rz
            exact ⟨.bl k, H', I', rfl, ez⟩
          | _ => exact ez.elim
        | next | brk | cont => exact False.elim hq
    have run : ∀ {tb : Value}, PySem.W.Looks (model X.prog X.w) s.heap (typeOf u) tb → PySem.W.notFirst X.K (He.ga X.K cn) tb = true → wpAny (model X.prog X.w) X.A (compareOp .Eq (.ref a) u) (EP X pins σ Q) X.xe s := fun {tb} ty nf =>
      PySem.W.cmp_K (op := .Eq) (tb := tb) (by have := G.un; omega) hF I.ok.mod.kin J ty nf c2.at_ c2.fn fin
    have byT : ∀ t ∈ ["NoneType", "bool", "int", "str", "list", "tuple", "dict"], PySem.W.notFirst X.K (He.ga X.K cn) (.type t) = true := fun t ht => by
      unfold PySem.W.notFirst
      rw [eq t ht]
      simp
    rcases hy with hy | ⟨q', dy, gs, rfl, eb⟩
    · cases y with
      | non =>
        cases (show u = Value.none from ry)
        exact run (PySem.W.Looks.of_pure rfl) (byT "NoneType" (by decide))
      | bl b =>
        cases (show u = Value.bool b from ry)
        exact run (PySem.W.Looks.of_pure rfl) (byT "bool" (by decide))
      | int i =>
        obtain ⟨t, rfl⟩ := ry
        exact run (PySem.W.Looks.of_pure rfl) (byT "int" (by decide))
      | str z =>
        obtain ⟨t, rfl⟩ := ry
        exact run (PySem.W.Looks.of_pure rfl) (byT "str" (by decide))
      | _ => cases hy
    · obtain rfl : u = Value.ref q' := ry
      obtain ⟨mB, O', _⟩ := ins_get I.hok eb
      obtain ⟨od', J', _⟩ := O'.look
      exact run J'.type (by simp [PySem.W.notFirst])
  | _ => exact h.elim
theorem snd_oeq {a b : I} (ha : Snd D C n a) (hb : Snd D C n b) : Snd D C n (.oeq a b) := fun X W S G => calmly rfl fun hS hck => snd_ofET (f := fun
      | .Compare x ops ys _ => (match ops, ys with
        | [op'], [y] => decide (op' = .Eq) && !behindInMarks .Eq y && (chk D a S).e x && (chk D b S).e y
        | _, _ => false)
      | _ => false) rfl hck fun x hx => by
  cases x <;> first | (cases hx; done) | skip
  rename_i x ops ys pos
  rcases ops with _ | ⟨op', _ | ⟨op2, ops⟩⟩ <;> first | (cases hx; done) | skip
  rcases ys with _ | ⟨y, _ | ⟨y2, ys⟩⟩ <;> first | (cases hx; done) | skip
  obtain ⟨h1, h4⟩ := b2 (show (decide (op' = .Eq) && !behindInMarks .Eq y && (chk D a S).e x && (chk D b S).e y) = true from hx)
  obtain ⟨h1, h3⟩ := b2 h1
  obtain ⟨h1, h2⟩ := b2 h1
  obtain rfl := bd h1
  exact ⟨pe_cmpR (op_oeq G hS) ((ha X W S G).e x h3).1 ((hb X W S G).e y h4).1 (bn h2), pt_bl (op_oeq G hS) ((ha X W S G).e x h3).1 ((hb X W S G).e y h4).1 (bn h2)⟩
end
end U

namespace U
open PySem PySem.Spec PyProof.Rows L2
section
variable {D : SD} {C : Ctx} {n : Nat}
/-- a new instance: __init__ by place and by name -/
theorem mk_core {X : Cx} {W : WX} {S : SC} (G : Gd D C n X W S) (hS : S.calm = true) {y : Str} (hy : y ∈ D.mks) {ks : List Str} {pins : List (Addr × Obj)} {σ : St} {H1 : Hp} {s1 : Shared} {us ws : List Value} {vs ts : List V} {Q : VK}
    (I1 : Inv X pins σ H1 s1) (r : Vals vs us) (rt : Vals ts ws) (q : ∀ x dx, H1 x = none → H1 dx = none → dx ≠ x →
      ∃ key, C.mth y "__init__" = some key ∧ kwRun C key ks (.ref x :: vs) ts (upd (upd H1 dx (.own x)) x (.ins (He.ga C.K y) dx [])) (fun v H2 => v = .non ∧ Q (.ref x) H2) fun cls d H' => W cls d σ H') :
    wpAny (model X.prog X.w) X.A (call (.ref (He.ga X.K y)) us (ks.zip ws)) (EP X pins σ Q) X.xe s1 := by
  obtain ⟨m1, m2, m3⟩ := G.fc.mks y hy
  obtain ⟨key, e1, q⟩ := q (s1.heap.objs.size + 1) s1.heap.objs.size (I1.hok.fresh (Nat.le_succ _)) (I1.hok.fresh (Nat.le_refl _)) (Nat.ne_of_lt (Nat.lt_succ_self _))
  obtain ⟨f, c1, c2, c3, F, FK⟩ := G.fc.mth y _ key e1
  have I2 := Inv.made (C := He.ga X.K y) I1
  rw [← G.fc.hK] at q
  have fin : ∀ {k : List Str} {w' : List Value} {t' : List V} {sp : List V → List V → Hp → VK → XK → Prop}, FnA X.prog X.w X.K X.mg X.base (5 * n + 1) f k sp → Vals t' w' → t'.length = k.length → sp (V.ref (s1.heap.objs.size + 1) :: vs) t' (upd (upd H1 s1.heap.objs.size (.own (s1.heap.objs.size + 1))) (s1.heap.objs.size + 1) (.ins (He.ga X.K y) s1.heap.objs.size [])) (fun v H2 => v = .non ∧ Q (.ref (s1.heap.objs.size + 1)) H2) (fun cls d H' => W cls d σ H') →
      wpAny (model X.prog X.w) X.A (call (.ref (He.ga X.K y)) us (k.zip w')) (EP X pins σ Q) X.xe s1 := fun {k w' t' sp} F rt hl q => by
    refine wpAny_call (make_map (f := f) I1.kIn m2 c2.at_ (beq_iff_eq.mp c2.fn) (codeAny_mono (F _ X.stack _ _ (Value.ref (s1.heap.objs.size + 1) :: us) w' (V.ref (s1.heap.objs.size + 1) :: vs) t' _ _ (((G.calm hS).2.mono (by omega : 5 * n + 1 + 1 ≤ 5 * n + 3)).make (He.ga X.K y) us (k.zip w')) (I2.env0.make (He.ga X.K y) us (k.zip w')) (.cons rfl r) rt hl q) fun r s' hq' => ?_))
    cases r with
    | error e => exact G.tk _ _ (XE.of_call I2 (fun _ _ _ h => h) hq')
    | ok fl =>
      cases fl with
      | ret u =>
        obtain ⟨v, H', I3, rv, ev, q3⟩ := I2.after hq'
        subst ev
        exact ⟨rv, ⟨V.ref (s1.heap.objs.size + 1), H', I3, rfl, q3⟩⟩
      | next => exact False.elim hq'
      | brk => exact False.elim hq'
      | cont => exact False.elim hq'
  cases ks with
  | nil => exact fin F (w' := []) (t' := []) .nil rfl q
  | cons k ks =>
    obtain ⟨hl, ord, zs, e1, e2, q⟩ := q
    exact fin (FK _ _ ord e1) rt hl ⟨rfl, zs, e2, q⟩
theorem snd_mkk {as zs : I} (c : Str) (ks : List Str) (ha : Snd D C n as) (hz : Snd D C n zs) : Snd D C n (.mkk c as ks zs) := fun X W S G => calmly rfl fun hS hck => snd_ofE (f := fun
      | .Call (.Name x _) es kws pos => decide (x = c) && S.gl x && decide (x ∈ D.mks) && (chk D as S).a es && decide (kws.map (·.arg) = ks.map some) && (chk D zs S).a (kws.map (·.value))
      | _ => false) rfl hck G.fc.hK fun x hx => by
  split at hx
  rotate_left
  · cases hx
  rename_i y p es kws pos
  obtain ⟨h1, h6⟩ := b2 hx
  obtain ⟨h1, h5⟩ := b2 h1
  obtain ⟨h1, h4⟩ := b2 h1
  obtain ⟨h1, h3⟩ := b2 h1
  obtain ⟨h1, h2⟩ := b2 h1
  obtain rfl := bd h1
  obtain ⟨g1, g2, g3⟩ := gl_ok G.sc h2
  obtain ⟨pa, pn⟩ := (ha X W S G).a es h4
  have pk := (hz X W S G).k kws h6
  obtain ⟨m1, m2, m3⟩ := G.fc.mks y (bd h3)
  obtain ⟨k1, k2, k3, k4⟩ := kw_names (env := X.env) (pos := pos) (bd h5)
  refine ⟨⟨fun pins s σ H Q I h => ?_⟩, fun _ => rfl⟩
  refine wpAny_Call_Name_kw (ld_glob I g1 m1 ?_ g2)
  cases es with
  | nil =>
    obtain rfl := a_nil h4
    refine PySem.W.callWith_KW0 (h₀ := X.base) I.ok.mod.kin m3 k1 ?_ (by rw [k3]; rfl)
    refine thn (pk.run pos pins s σ H _ I h) fun ws s3 ⟨ts, H3, I3, rt, q3⟩ => ⟨I3.kIn, ?_⟩
    rw [k2]
    exact mk_core G hS (bd h3) I3 .nil rt q3
  | cons e es =>
    have pn' := pn
    rw [List.all_cons, Bool.and_eq_true] at pn'
    refine PySem.W.callWith_KW (h₀ := X.base) I.ok.mod.kin m3 k1 ?_ (by rw [k3, star_none pn]; rfl) (star_cons pn'.1)
    refine thn (pa.run pos pins s σ H _ I h) fun us s2 ⟨vs, H2, I2, r, q2⟩ => ?_
    refine thn (pk.run pos pins s2 σ H2 _ I2 q2) fun ws s3 ⟨ts, H3, I3, rt, q3⟩ => ⟨I3.kIn, ?_⟩
    rw [k2]
    exact mk_core G hS (bd h3) I3 r rt q3
theorem snd_mkv {a as : I} (cs : List Str) (ho : Snd D C n a) (ha : Snd D C n as) : Snd D C n (.mkv cs a as) := fun X W S G => calmly rfl fun hS hck => snd_ofE (f := fun
      | .Call fe es [] pos => calE fe && (chk D a S).e fe && cs.all (fun c => decide (c ∈ D.mks)) && (chk D as S).a es
      | _ => false) rfl hck G.fc.hK fun x hx => by
  split at hx
  rotate_left
  · cases hx
  rename_i fe es pos
  obtain ⟨h1, h4⟩ := b2 hx
  obtain ⟨h1, h3⟩ := b2 h1
  obtain ⟨h1, h2⟩ := b2 h1
  have po := ((ho X W S G).e _ h2).1
  obtain ⟨pa, pn⟩ := (ha X W S G).a es h4
  refine ⟨⟨fun pins s σ H Q I h => ?_⟩, fun _ => rfl⟩
  refine call_fe h1 (thn (po.run pins s σ H _ I h) fun u s1 ⟨y, H1, I1, ry, q⟩ => ?_)
  obtain ⟨c, hc, rfl, q⟩ := q
  obtain rfl : u = Value.ref (He.ga C.K c) := ry
  have hm := of_decide_eq_true (List.all_eq_true.mp h3 c hc)
  obtain ⟨m1, m2, m3⟩ := G.fc.mks c hm
  rw [G.fc.hK] at m3
  cases es with
  | nil =>
    obtain rfl := a_nil h4
    refine PySem.W.callWith_K0 I1.kIn (by rw [G.fc.hK]; exact m3) ?_
    have := mk_core (us := []) (ws := []) G hS hm I1 .nil .nil q
    rw [G.fc.hK] at this
    exact this
  | cons e es =>
    rw [List.all_cons, Bool.and_eq_true] at pn
    refine PySem.W.callWith_K (h₀ := X.base) I1.ok.mod.kin (by rw [G.fc.hK]; exact m3) (thn (pa.run pos pins s1 σ H1 _ I1 q) fun us s2 ⟨vs, H2, I2, r, q2⟩ => ⟨I2.kIn, ?_⟩) (star_cons pn.1) (star_none pn.2)
    have := mk_core (ws := []) G hS hm I2 r .nil q2
    rw [G.fc.hK] at this
    exact this
theorem runC {X : Cx} {W : WX} {k : Nat} {f : Addr} {ks : List Str} {sp : List V → List V → Hp → VK → XK → Prop} {pins : List (Addr × Obj)} {σ : St} {H : Hp} {s : Shared} {us ws : List Value} {vs zs : List V} {Q : VK} (F : FnA X.prog X.w X.K X.mg X.base k f ks sp) (hr : Room k X.A) (tk : Takes X W) (I : Inv X pins σ H s) (r : Vals vs us) (rz : Vals zs ws) (hl : zs.length = ks.length) (h : sp vs zs H Q fun cls d H' => W cls d σ H') :
    codeAny (model X.prog X.w) X.A (.call (.ref f) ⟨us, ks.zip ws⟩) (fun r s' => match r with | .ok (.ret v) => EP X pins σ Q v s' | .ok _ => False | .error e => X.xe e s') s := by
  refine codeAny_mono (F X.A X.stack s H us ws vs zs Q _ hr I.env0 r rz hl h) fun r s' hq => ?_
  have := ends_of tk I hq
  cases r with
  | error e => exact this
  | ok fl => cases fl <;> first | exact this | exact this.elim
/-- the call of a bound class method -/
theorem cm_end {X : Cx} {W : WX} {S : SC} (G : Gd D C n X W S) (hS : S.calm = true) {key : Str} {c g q : Addr} {ks : List Str} {pins : List (Addr × Obj)} {σ : St} {H : Hp} {s : Shared} {us ws : List Value} {vs ts : List V} {Q : VK}
    (F : FnA X.prog X.w X.K X.mg X.base (5 * n + 1) g [] (fun vs _ H Q E => C.fn key vs H Q E)) (FK : ∀ l ks ord, C.kwo key l ks = some ord → FnA X.prog X.w X.K X.mg X.base (5 * n + 1) g ks (fun vs zs H Q E => vs.length = l ∧ ∃ ts, byOrd (vs ++ zs) ord = some ts ∧ C.fn key ts H Q E))
    (I : Inv X ((q, PySem.W.methodObj (.ref g) (.ref c)) :: pins) σ H s) (r : Vals vs us) (rt : Vals ts ws) (k : kwRun C key ks (.ref c :: vs) ts H Q fun cls d H' => W cls d σ H') : wpAny (model X.prog X.w) X.A (call (.ref q) us (ks.zip ws)) (EP X pins σ Q) X.xe s := by
  have z : wpAny (model X.prog X.w) X.A (call (.ref q) us (ks.zip ws)) (EP X ((q, PySem.W.methodObj (.ref g) (.ref c)) :: pins) σ Q) X.xe s := by
    cases ks with
    | nil => exact wpAny_call (PySem.W.method_call (ClX.pin_at I) (runC (us := .ref c :: us) (ws := []) (vs := .ref c :: vs) (zs := []) F (room1 G hS) G.tk I (.cons rfl r) .nil rfl k))
    | cons k' ks =>
      obtain ⟨hl, ord, zs, e1, e2, k⟩ := k
      exact wpAny_call (PySem.W.method_call (ClX.pin_at I) (runC (us := .ref c :: us) (vs := .ref c :: vs) (FK _ _ ord e1) (room1 G hS) G.tk I (.cons rfl r) rt hl ⟨rfl, zs, e2, k⟩))
  exact thn z fun _ _ y => ClX.unpinE y
theorem snd_cmeth {as zs : I} (c m : Str) (ks : List Str) (ha : Snd D C n as) (hz : Snd D C n zs) : Snd D C n (.cmeth c m as ks zs) := fun X W S G => calmly rfl fun hS hck => snd_ofE (f := fun
      | .Call (.Attribute (.Name x _) f ap) es kws pos => decide (x = c) && S.gl x && decide (x ∈ D.clss) && decide (f = m) && (ap.endLine == pos.line) && decide (es.length + kws.length < 12) && (chk D as S).a es && decide (kws.map (·.arg) = ks.map some) && (chk D zs S).a (kws.map (·.value))
      | _ => false) rfl hck G.fc.hK fun x hx => by
  split at hx
  rotate_left
  · cases hx
  rename_i x p f ap es kws pos
  obtain ⟨h1, h9⟩ := b2 hx
  obtain ⟨h1, h8⟩ := b2 h1
  obtain ⟨h1, h7⟩ := b2 h1
  obtain ⟨h1, h6⟩ := b2 h1
  obtain ⟨h1, h5⟩ := b2 h1
  obtain ⟨h1, h4⟩ := b2 h1
  obtain ⟨h1, h3⟩ := b2 h1
  obtain ⟨h1, h2⟩ := b2 h1
  obtain rfl := bd h1
  obtain rfl := bd h4
  obtain ⟨g1, g2, g3⟩ := gl_ok G.sc h2
  obtain ⟨pa, pn⟩ := (ha X W S G).a es h7
  have pk := (hz X W S G).k kws h9
  obtain ⟨k1, k2, k3, k4⟩ := kw_names (env := X.env) (pos := pos) (bd h8)
  refine ⟨⟨fun pins s σ H Q I h => ?_⟩, fun _ => rfl⟩
  refine mcall rfl h5 (by have := bd h6; omega) pn k1 (ld_glob I g1 (G.fc.cls x (bd h3)).1 ?_ g2)
  cases hk : C.cmt x f with
  | none => rw [hk] at h; exact h.elim
  | some key =>
    rw [hk] at h
    rw [← G.fc.hK] at h
    obtain ⟨mc, pp, g, c1, c2, F, FK⟩ := G.fc.cmt x f key hk
    refine ClX.getmethcm_ok I c1 c2 fun s2 I2 => ?_
    have kp := fun {h : Heap} (z : PySem.W.MethP X.K s.heap.objs.size g (.ref (He.ga X.K x)) h) => PySem.W.keeps_M (M := model X.prog X.w) c2.fi h z
    cases es with
    | nil =>
      obtain rfl := a_nil h7
      refine PySem.W.callWith_of (P := PySem.W.MethP X.K s.heap.objs.size g (.ref (He.ga X.K x))) (by rw [k3]; rfl) (fun h z => kp z) (PyProof.Rows.evalArgs_kw2_nil k1 ?_)
      refine thn (pk.run pos _ s2 σ H _ I2 h) fun ws s3 ⟨ts, H3, I3, rt, q3⟩ => ⟨⟨ClX.pin_at I3, I3.kIn⟩, ?_⟩
      rw [k2, List.append_nil]
      exact cm_end G hS F FK I3 .nil rt q3
    | cons e es =>
      have pn' := pn
      rw [List.all_cons, Bool.and_eq_true] at pn'
      refine PySem.W.callWith_of (P := PySem.W.MethP X.K s.heap.objs.size g (.ref (He.ga X.K x))) (by rw [k3, star_none pn]; rfl) (fun h z => kp z) (PyProof.Rows.evalArgs_kw2 k1 ?_ (star_cons pn'.1))
      refine thn (pa.run pos _ s2 σ H _ I2 h) fun us s3 ⟨vs, H2, I3, r, q2⟩ => ?_
      refine thn (pk.run pos _ s3 σ H2 _ I3 q2) fun ws s4 ⟨ts, H3, I4, rt, q3⟩ => ⟨⟨ClX.pin_at I4, I4.kIn⟩, ?_⟩
      rw [k2]
      exact cm_end G hS F FK I4 r rt q3
end
end U

namespace U
open PySem PySem.Spec PyProof.Rows L2
section
variable {D : SD} {C : Ctx} {n : Nat}
theorem snd_no {i : I} (h : ∀ S, chk D i S = {}) : Snd D C n i := fun X W S G => by
  refine ⟨fun x hx => ?_, fun xs hx => ?_, fun xs hx => ?_, fun x hx => ?_, fun x hx => ?_, fun x hx => ?_, fun x hx => ?_, fun tg x hx => ?_, fun ps ks vs hx => ?_, fun x hx => ?_⟩
  all_goals (rw [h S] at hx; cases hx)
theorem snd_setE {i : Nat} {e : I} (h : ∀ own elt tg it b c, e ≠ .lc own elt tg it b c) : Snd D C n (.setLc i e) := fun X W S G => calmly rfl fun hS hck => snd_ofS (f := fun
      | .Assign [.Name y py] x _ => (match x with
        | .ListComp _ [_] sc pos => decide (S.N[i]? = some y) && decide (S.sc.names.lookup y = some .local) && (py.line == pos.line) && !(sc.names.any fun (n, k) => n == y && (k == .local || k == .cell))
        | _ => false) && (chk D e S).e x
      | _ => false) rfl hck fun x hx => by
  split at hx
  rotate_left
  · cases hx
  rename_i y py x pos
  obtain ⟨k1, k2⟩ := b2 hx
  split at k1
  rotate_left
  · cases k1
  cases e <;> first | (cases k2; done) | (exact absurd rfl (h _ _ _ _ _ _)) | (obtain ⟨sN, ssc, stp, sc, slm⟩ := S; cases sc <;> cases stp <;> cases slm <;> cases k2)
def SndP (D : SD) (C : Ctx) (n : Nat) (i : I) : Prop := Snd D C n i ∧ ∀ own elt tg it b c, i = .lc own elt tg it b c → Snd D C n elt ∧ Snd D C n tg ∧ Snd D C n it ∧ Snd D C n c
theorem snd_all (i : I) : SndP D C n i := by
  induction i with
  | lc own elt tg it b c h1 h2 h3 h4 => exact ⟨snd_lc own b h1.1 h2.1 h3.1 h4.1, fun _ _ _ _ _ _ e => by cases e; exact ⟨h1.1, h2.1, h3.1, h4.1⟩⟩
  | setLc i e h =>
    refine ⟨?_, fun _ _ _ _ _ _ e => nomatch e⟩
    by_cases hl : ∃ own elt tg it b c, e = .lc own elt tg it b c
    · obtain ⟨own, elt, tg, it, b, c, rfl⟩ := hl
      obtain ⟨h1, h2, h3, h4⟩ := h.2 _ _ _ _ _ _ rfl
      exact snd_setLc i own b h1 h2 h3 h4
    · exact snd_setE fun own elt tg it b c e => hl ⟨own, elt, tg, it, b, c, e⟩
  | k v => exact ⟨snd_k v, fun _ _ _ _ _ _ e => nomatch e⟩
  | v i => exact ⟨snd_v i, fun _ _ _ _ _ _ e => nomatch e⟩
  | g x => exact ⟨snd_g x, fun _ _ _ _ _ _ e => nomatch e⟩
  | bop op a b h1 h2 => exact ⟨snd_bop op h1.1 h2.1, fun _ _ _ _ _ _ e => nomatch e⟩
  | uop op a h1 => exact ⟨snd_uop op h1.1, fun _ _ _ _ _ _ e => nomatch e⟩
  | not a h1 => exact ⟨snd_not h1.1, fun _ _ _ _ _ _ e => nomatch e⟩
  | and a b h1 h2 => exact ⟨snd_and h1.1 h2.1, fun _ _ _ _ _ _ e => nomatch e⟩
  | or a b h1 h2 => exact ⟨snd_or h1.1 h2.1, fun _ _ _ _ _ _ e => nomatch e⟩
  | ite c a b h1 h2 h3 => exact ⟨snd_ite h1.1 h2.1 h3.1, fun _ _ _ _ _ _ e => nomatch e⟩
  | cmp op a b h1 h2 => exact ⟨snd_cmp op h1.1 h2.1, fun _ _ _ _ _ _ e => nomatch e⟩
  | cmp2 op op' a b c h1 h2 h3 => exact ⟨snd_cmp2 op op' h1.1 h2.1 h3.1, fun _ _ _ _ _ _ e => nomatch e⟩
  | lst a h1 => exact ⟨snd_lst h1.1, fun _ _ _ _ _ _ e => nomatch e⟩
  | tup a h1 => exact ⟨snd_tup h1.1, fun _ _ _ _ _ _ e => nomatch e⟩
  | dic a h1 => exact ⟨snd_dic h1.1, fun _ _ _ _ _ _ e => nomatch e⟩
  | call f a h1 => exact ⟨snd_call f h1.1, fun _ _ _ _ _ _ e => nomatch e⟩
  | mk f a h1 => exact ⟨snd_mk f h1.1, fun _ _ _ _ _ _ e => nomatch e⟩
  | bi f a h1 => exact ⟨snd_bi f h1.1, fun _ _ _ _ _ _ e => nomatch e⟩
  | isi a cs m h1 => exact ⟨snd_isi cs m h1.1, fun _ _ _ _ _ _ e => nomatch e⟩
  | meth o m a h1 h2 => exact ⟨snd_meth m h1.1 h2.1, fun _ _ _ _ _ _ e => nomatch e⟩
  | bm m o a h1 h2 => exact ⟨snd_bm m h1.1 h2.1, fun _ _ _ _ _ _ e => nomatch e⟩
  | icall o a ks zs h1 h2 h3 => exact ⟨snd_icall ks h1.1 h2.1 h3.1, fun _ _ _ _ _ _ e => nomatch e⟩
  | ostr a h1 => exact ⟨snd_ostr h1.1, fun _ _ _ _ _ _ e => nomatch e⟩
  | att o f h1 => exact ⟨snd_att f h1.1, fun _ _ _ _ _ _ e => nomatch e⟩
  | ix a b h1 h2 => exact ⟨snd_ix h1.1 h2.1, fun _ _ _ _ _ _ e => nomatch e⟩
  | sl o a b h1 h2 h3 => exact ⟨snd_sl h1.1 h2.1 h3.1, fun _ _ _ _ _ _ e => nomatch e⟩
  | nil => exact ⟨snd_nil, fun _ _ _ _ _ _ e => nomatch e⟩
  | cons a b h1 h2 => exact ⟨snd_cons h1.1 h2.1, fun _ _ _ _ _ _ e => nomatch e⟩
  | pair a b c h1 h2 h3 => exact ⟨snd_pair h1.1 h2.1 h3.1, fun _ _ _ _ _ _ e => nomatch e⟩
  | tupG a h1 => exact ⟨snd_tupG h1.1, fun _ _ _ _ _ _ e => nomatch e⟩
  | subG a b h1 h2 => exact ⟨snd_subG h1.1 h2.1, fun _ _ _ _ _ _ e => nomatch e⟩
  | attG a f h1 => exact ⟨snd_attG f h1.1, fun _ _ _ _ _ _ e => nomatch e⟩
  | itL a h1 => exact ⟨snd_itL h1.1, fun _ _ _ _ _ _ e => nomatch e⟩
  | itT a h1 => exact ⟨snd_itT h1.1, fun _ _ _ _ _ _ e => nomatch e⟩
  | itS a h1 => exact ⟨snd_itS h1.1, fun _ _ _ _ _ _ e => nomatch e⟩
  | itR1 a h1 => exact ⟨snd_itR1 h1.1, fun _ _ _ _ _ _ e => nomatch e⟩
  | itR2 a b h1 h2 => exact ⟨snd_itR2 h1.1 h2.1, fun _ _ _ _ _ _ e => nomatch e⟩
  | itE a h1 => exact ⟨snd_itE h1.1, fun _ _ _ _ _ _ e => nomatch e⟩
  | itES a h1 => exact ⟨snd_itES h1.1, fun _ _ _ _ _ _ e => nomatch e⟩
  | itZ a b h1 h2 => exact ⟨snd_itZ h1.1 h2.1, fun _ _ _ _ _ _ e => nomatch e⟩
  | set a b h1 h2 => exact ⟨snd_set h1.1 h2.1, fun _ _ _ _ _ _ e => nomatch e⟩
  | par i j a h1 => exact ⟨snd_par i j h1.1, fun _ _ _ _ _ _ e => nomatch e⟩
  | par3 i j l a h1 => exact ⟨snd_par3 i j l h1.1, fun _ _ _ _ _ _ e => nomatch e⟩
  | aug i op a h1 => exact ⟨snd_no fun _ => rfl, fun _ _ _ _ _ _ e => nomatch e⟩
  | expr a h1 => exact ⟨snd_expr h1.1, fun _ _ _ _ _ _ e => nomatch e⟩
  | ret a h1 => exact ⟨snd_ret h1.1, fun _ _ _ _ _ _ e => nomatch e⟩
  | retN => exact ⟨snd_retN, fun _ _ _ _ _ _ e => nomatch e⟩
  | if_ a b c h1 h2 h3 => exact ⟨snd_if h1.1 h2.1 h3.1, fun _ _ _ _ _ _ e => nomatch e⟩
  | while_ a b h1 h2 => exact ⟨snd_while h1.1 h2.1, fun _ _ _ _ _ _ e => nomatch e⟩
  | for_ a b c h1 h2 h3 => exact ⟨snd_for h1.1 h2.1 h3.1, fun _ _ _ _ _ _ e => nomatch e⟩
  | raise c a h1 => exact ⟨snd_raise c h1.1, fun _ _ _ _ _ _ e => nomatch e⟩
  | try_ c i b s h1 h2 => exact ⟨snd_try c i h1.1 h2.1, fun _ _ _ _ _ _ e => nomatch e⟩
  | eatt o f h1 => exact ⟨snd_eatt f h1.1, fun _ _ _ _ _ _ e => nomatch e⟩
  | eisi o c h1 => exact ⟨snd_eisi c h1.1, fun _ _ _ _ _ _ e => nomatch e⟩
  | lamc f b h1 => exact ⟨snd_lamc f h1.1, fun _ _ _ _ _ _ e => nomatch e⟩
  | act i => exact ⟨snd_act i, fun _ _ _ _ _ _ e => nomatch e⟩
  | methk o m a ks z h1 h2 h3 => exact ⟨snd_methk m ks h1.1 h2.1 h3.1, fun _ _ _ _ _ _ e => nomatch e⟩
  | smeth c m a ks z h1 h2 => exact ⟨snd_smeth c m ks h1.1 h2.1, fun _ _ _ _ _ _ e => nomatch e⟩
  | cmeth c m a ks z h1 h2 => exact ⟨snd_cmeth c m ks h1.1 h2.1, fun _ _ _ _ _ _ e => nomatch e⟩
  | mkv cs a b h1 h2 => exact ⟨snd_mkv cs h1.1 h2.1, fun _ _ _ _ _ _ e => nomatch e⟩
  | mkk c a ks z h1 h2 => exact ⟨snd_mkk c ks h1.1 h2.1, fun _ _ _ _ _ _ e => nomatch e⟩
  | oeq a b h1 h2 => exact ⟨snd_oeq h1.1 h2.1, fun _ _ _ _ _ _ e => nomatch e⟩
  | never => exact ⟨snd_never, fun _ _ _ _ _ _ e => nomatch e⟩
  | pass => exact ⟨snd_pass, fun _ _ _ _ _ _ e => nomatch e⟩
  | brk => exact ⟨snd_brk, fun _ _ _ _ _ _ e => nomatch e⟩
  | cont => exact ⟨snd_cont, fun _ _ _ _ _ _ e => nomatch e⟩
end
/-! ### the program's defs -/
/-- where a def stands: a name of the module, a method, a property's getter -/
inductive Pth where
  | glo (x : Str) | meth (c m : Str) | getr (c f : Str) | smt (c m : Str) | cmt (c m : Str)
  deriving DecidableEq
def Pth.ad (K : PySem.W.Frag) : Pth → Addr
  | .glo x => He.ga K x
  | .meth c m => He.ma K (He.ga K c) m
  | .getr c f => match PySem.W.recIn K (He.ma K (He.ga K c) f) "property" with
    | some (.ref g :: _) => g
    | _ => 0
  | .smt c f => match PySem.W.recIn K (He.ma K (He.ga K c) f) "staticmethod" with
    | some (.ref g :: _) => g
    | _ => 0
  | .cmt c f => match PySem.W.recIn K (He.ma K (He.ga K c) f) "classmethod" with
    | some (.ref g :: _) => g
    | _ => 0
/-- a def of the text, and how its body is read -/
structure DefI where
  key : Str
  at_ : Pth
  name : Str
  qual : Str
  st : Stmt
  N : List Str
  ps : List Str
  body : I
  lam : Bool := false
/-- the program: its defs, and what of the classes is known -/
structure Pg where
  defs : List DefI
  sd : SD
  gv : PySem.W.Frag → Str → Option V
  tabs : List KTab
  mth : Str → Str → Option Str
  prp : Str → Str → Option Str
  fld : Str → Str → Bool
  isi : Str → CR → Option Bool
  xf : Str → Option (List Str)
  kwo : Str → Nat → List Str → Option (List Nat)
  exm : Str → Str → Option Bool
  eis : Str → CR → Option Bool
  smt : Str → Str → Option Str
  cmt : Str → Str → Option Str
/-- a def's code object, its table, its lambdas' name -/
def codeA (K : PySem.W.Frag) (d : DefI) : Addr := match K.lookup (d.at_.ad K) with
  | some ⟨_, _, .func fd, _⟩ => (match fd.code with
    | .ref c => c
    | _ => 0)
  | _ => 0
def tabA (K : PySem.W.Frag) (d : DefI) : Addr := He.tabOf K (codeA K d)
def DefI.lq (d : DefI) : Str := d.qual ++ ".<locals>." ++ "<lambda>"
def Pg.lt (p : Pg) (K : PySem.W.Frag) : List (Addr × Str) := (p.defs.filter (·.lam)).map fun d => (tabA K d, d.lq)
def Pg.find (p : Pg) (key : Str) : Option DefI := p.defs.find? fun d => d.key == key
def Pg.ctx0 (p : Pg) (K : PySem.W.Frag) (w : World) (fn : Str → Sp) (L : Option LamT) : Ctx := ⟨K, w, fn, p.gv K, p.tabs, p.mth, p.prp, p.fld, p.isi, p.xf, p.kwo, p.exm, p.eis, p.lt K, fun _ _ _ _ => False, L, p.smt, p.cmt⟩
/-- what a def makes of the lambda tl that it gets -/
def Pg.lrun (p : Pg) (K : PySem.W.Frag) (w : World) (fn : Str → Sp) (x : Str) (tl : XK → Hp → VK → Prop) (H : Hp) (Q : VK) : Prop := match p.find x with
  | none => False
  | some d => ∀ f c q, H c = some (LamX.CodeO c q) → (rd (p.ctx0 K w fn (some ⟨f, c, q, 0, tl⟩)) d.body noW).s { nx := fun _ H' => Q .non H', rt := Q } (start d.N [.ref f]) H
def Pg.ctx (p : Pg) (K : PySem.W.Frag) (w : World) (fn : Str → Sp) : Ctx := ⟨K, w, fn, p.gv K, p.tabs, p.mth, p.prp, p.fld, p.isi, p.xf, p.kwo, p.exm, p.eis, p.lt K, p.lrun K w fn, none, p.smt, p.cmt⟩
def stepP (p : Pg) (K : PySem.W.Frag) (w : World) (fn : Str → Sp) (key : Str) : Sp := fun vs H Q E => match p.find key with
    | none => False
    | some d => vs.length = d.ps.length ∧ (rd (p.ctx K w fn) d.body fun cls dd _ H' => E cls dd H').s { nx := fun _ H' => Q .non H', rt := Q } (start d.N vs) H
/-- what a def promises: what its own text says, n calls deep at most -/
@[irreducible] def run (p : Pg) (K : PySem.W.Frag) (w : World) (n : Nat) : Str → Sp := Nat.rec (fun _ _ _ _ _ => False) (fun _ ih => stepP p K w ih) n
theorem run_succ (p : Pg) (K : PySem.W.Frag) (w : World) (n : Nat) : run p K w (n + 1) = stepP p K w (run p K w n) := by
  unfold run
  rfl
theorem run_zero (p : Pg) (K : PySem.W.Frag) (w : World) : run p K w 0 = fun _ _ _ _ _ => False := by
  unfold run
  rfl
theorem run_of {p : Pg} {K : PySem.W.Frag} {w : World} {n : Nat} {key : Str} {d : DefI} (h : p.find key = some d) {vs : List V} {H : Hp} {Q : VK} {E : XK} (hl : vs.length = d.ps.length)
    (hb : (rd (p.ctx K w (run p K w n)) d.body fun cls dd _ H' => E cls dd H').s { nx := fun _ H' => Q .non H', rt := Q } (start d.N vs) H) : run p K w (n + 1) key vs H Q E := by
  rw [run_succ]
  unfold stepP
  rw [h]
  exact ⟨hl, hb⟩
/-- what must be shown of the program's tables -/
structure PgOk (p : Pg) (P : Program) (w : World) (K : PySem.W.Frag) (mg : Str → Option Value) : Prop where
  defs : ∀ d ∈ p.defs, (∃ fd, FunD K d.name d.qual (defArgs d.st) (defBody d.st) (defScope d.st) [] [] (d.at_.ad K) fd ∧ Binds K fd d.ps [] ∧
      ∀ l ks ord, p.kwo d.key l ks = some ord → ∀ (s : Shared) (us ws : List Value) , K.In s.heap → us.length = l → ws.length = ks.length → ∃ ts, ord.mapM (fun i => (us ++ ws)[i]?) = some ts ∧ BindsTo s fd ⟨us, ks.zip ws⟩ (d.ps.zip ts)) ∧
    FnScope d.N d.ps (defScope d.st) ∧ (chk p.sd d.body ⟨d.N, defScope d.st, true, true, d.lam⟩).ss (defBody d.st) = true
  kg : KGood K w p.tabs
  fr : ∀ x ∈ p.sd.frees, mg x = none
  gl : ∀ x ∈ p.sd.globs, ∃ v u, p.gv K x = some v ∧ mg x = some u ∧ RelV v u
  fn : ∀ x ∈ p.sd.fns, mg x = some (.ref (He.ga K x)) ∧ ∃ d, p.find x = some d ∧ d.at_ = .glo x
  cls : ∀ c ∈ p.sd.clss, mg c = some (.ref (He.ga K c)) ∧ (∀ t ∈ ["NoneType", "bool", "int", "str", "list", "tuple", "dict"], PySem.W.kitOne K (.type t) (.ref (He.ga K c)) = some false)
  mks : ∀ c ∈ p.sd.mks, mg c = some (.ref (He.ga K c)) ∧ PySem.W.makesIn K (He.ga K c) = true ∧ PySem.W.keepIn K (.ref (He.ga K c)) = true
  err : ∀ c ∈ p.sd.errs, ∃ fs fI, p.xf c = some fs ∧ mg c = some (.ref (He.ga K c)) ∧ ErrI P K mg (He.ga K c) fI fs
  smt : ∀ c m key, p.smt c m = some key → ∃ d mc q rest, p.find key = some d ∧ ClX.CRead K (He.ga K c) mc ∧ PySem.W.findCls K (.ref (He.ga K c)) mc m = some (.get (.builtin "staticmethod.__get__") (.ref q) .none (.ref (He.ga K c))) ∧ PySem.W.recIn K q "staticmethod" = some (.ref (d.at_.ad K) :: rest)
  cmt : ∀ c m key, p.cmt c m = some key → ∃ d mc q, p.find key = some d ∧ ClX.CRead K (He.ga K c) mc ∧ ClX.CMet K (He.ga K c) mc m q (d.at_.ad K)
  eqc : ∀ c key, p.mth c "__eq__" = some key → ∀ t ∈ ["NoneType", "bool", "int", "str", "list", "tuple", "dict"], PySem.W.subIn K (.type t) (.ref (He.ga K c)) = some false
  lfn : ∀ x ∈ p.sd.lfns, mg x = some (.ref (He.ga K x)) ∧ ∃ d a, p.find x = some d ∧ d.at_ = .glo x ∧ d.name = x ∧ d.qual = x ∧ d.ps = [a] ∧ d.N[0]? = some a ∧ Vis (defScope d.st) a ∧ ((a == ("__debug__" : Str)) = false ∧ (a == ("__classdict__" : Str)) = false) ∧ d.lam = false
  lamU : ∀ d ∈ p.defs, d.lam = true → ∀ d' ∈ p.defs, d'.lam = true → tabA K d' = tabA K d → d'.qual = d.qual
  ecl : ∀ c ∈ p.sd.ecls, mg c = some (.ref (He.ga K c))
  exm : ∀ cn c k, p.exm cn c = some k → PySem.W.exmOne K (.ref (He.ga K cn)) (.ref (He.ga K c)) = some k
  eis : ∀ cn c k, p.eis cn c = some k → ExcC K (He.ga K cn) ∧ PySem.W.kitOne K (.ref (He.ga K cn)) (match c with | .ty n => .type n | .own x => .ref (He.ga K x)) = some k
  xfc : ∀ cn es, p.xf cn = some es → XfC K (He.ga K cn) ∧ ∀ f ∈ es, PySem.W.findIn K (.ref (He.ga K cn)) f = some none
  mth : ∀ c m key, p.mth c m = some key → ∃ d, p.find key = some d ∧ Cls K (He.ga K c) ∧ Meth K (He.ga K c) m (d.at_.ad K)
  prp : ∀ c f key, p.prp c f = some key → ∃ d, p.find key = some d ∧ Cls K (He.ga K c) ∧ ∃ q, PropOf K (He.ga K c) f q (d.at_.ad K)
  fld : ∀ c f, p.fld c f = true → Cls K (He.ga K c) ∧ NoAttr K (He.ga K c) f
  isi : ∀ c r b, p.isi c r = some b → (∃ (_ : Cls K (He.ga K c)), PySem.W.findIn K (.ref (He.ga K c)) "__class__" = some (some (.builtin "object.__class__")) ∧
    PySem.W.specialIn K (.builtin "object.__class__") "__get__" = some (some (.builtin "getset_descriptor.__get__")) ∧ PySem.W.takesIn K (.builtin "object.__class__") = some true ∧ PySem.W.mroIn K (He.ga K c) (.type "object") = some true) ∧
    PySem.W.kitOne K (.ref (He.ga K c)) (match r with | .ty n => .type n | .own x => .ref (He.ga K x)) = some b
theorem byOrd_vals {vs : List V} {us : List Value} (r : Vals vs us) : ∀ {ord : List Nat} {ts : List V} {zs : List Value}, byOrd vs ord = some ts → ord.mapM (fun i => us[i]?) = some zs → Vals ts zs := by
  intro ord
  unfold byOrd
  induction ord with
  | nil => intro ts zs h1 h2; cases h1; cases h2; exact .nil
  | cons i ord ih =>
    intro ts zs h1 h2
    rw [List.mapM_cons] at h1 h2
    cases e1 : vs[i]? with
    | none => rw [e1] at h1; cases h1
    | some a =>
      cases e2 : us[i]? with
      | none => rw [e2] at h2; cases h2
      | some b =>
        rw [e1] at h1
        rw [e2] at h2
        obtain ⟨u, hu, ru⟩ := r.get e1
        rw [e2] at hu
        cases hu
        cases e3 : ord.mapM (fun i => vs[i]?) with
        | none => rw [e3] at h1; cases h1
        | some ts' =>
          cases e4 : ord.mapM (fun i => us[i]?) with
          | none => rw [e4] at h2; cases h2
          | some zs' =>
            rw [e3] at h1
            rw [e4] at h2
            cases h1
            cases h2
            exact .cons ru (ih e3 e4)
theorem find_mem {p : Pg} {key : Str} {d : DefI} (h : p.find key = some d) : d ∈ p.defs ∧ d.key = key := ⟨List.mem_of_find?_eq_some h, by simpa using List.find?_some h⟩
section
variable {p : Pg} {P : Program} {w : World} {K : PySem.W.Frag} {mg : Str → Option Value}
theorem fnIn_of {x qual : Str} {params : Arguments} {body : List Stmt} {scope : Scope} {f : Addr} {fd : FuncData} (F : FunD K x qual params body scope [] [] f fd) : PySem.W.fnIn K f = true := by
  obtain ⟨oc, od, dV, kV, doc, pm, an, cdv, ct, osl, _, lk, _⟩ := F.ex
  unfold PySem.W.fnIn
  rw [lk]
/-- what is known of a def: n calls deep -/
def Keeps (p : Pg) (P : Program) (w : World) (K : PySem.W.Frag) (mg : Str → Option Value) (base : Heap) (n : Nat) : Prop :=
    ∀ key d, p.find key = some d → ∃ fd, FnOk P w K mg base (CX P w) (5 * n + 1) (d.at_.ad K) fd d.ps (run p K w n key) ∧ Binds K fd d.ps [] ∧ PySem.W.keepIn K (.ref (d.at_.ad K)) = true ∧ PySem.W.fnIn K (d.at_.ad K) = true ∧
      (∀ l ks ord, p.kwo key l ks = some ord → FnA P w K mg base (5 * n + 1) (d.at_.ad K) ks (fun vs zs H Q E => vs.length = l ∧ ∃ ts, byOrd (vs ++ zs) ord = some ts ∧ run p K w n key ts H Q E)) ∧
      ∃ o, K.lookup (d.at_.ad K) = some o ∧ o.data = .func fd
theorem ldef_of (ok : PgOk p P w K mg) {base : Heap} {n : Nat} (kp : Keeps p P w K mg base n) {TT : (XK → Hp → VK → Prop) → Hp → VK → Prop} (x : Str) (hx : x ∈ p.sd.lfns)
    (h : ∀ (X : Cx) (q : Str) (d : DefI) (a : Str) (cdv : Value), p.find x = some d → d.ps = [a] → d.N[0]? = some a → d.lam = false → FnScope d.N [a] (defScope d.st) → X.prog = P → X.w = w → X.K = K → X.mg = mg → X.base = base → Room (5 * n + 5) X.A → Gives X d.N x (defScope d.st) (He.ga K x) cdv (defBody d.st) a q TT) : LDef P w K mg base n x TT := by
  obtain ⟨h1, d, a, h2, h3, h4, h5, h6, h7, h8, h9, h10⟩ := ok.lfn x hx
  obtain ⟨fd, k1, k2, k3, k4, k5, o, k6, k7⟩ := kp x d h2
  obtain ⟨⟨fd', F, B, kw⟩, S, hc⟩ := ok.defs d (find_mem h2).1
  obtain ⟨oc, od, dV, kV, doc, pm, an, cdv, ct, osl, e, lk, hcd, _, _⟩ := F.ex
  rw [h6] at B S
  subst e
  rw [h3] at lk k3
  rw [h4, h5] at lk B
  rw [h5] at hcd
  exact ⟨h1, k3, _, _, _, _, _, _, _, _, _, _, _, _, _, _, _, lk, hcd, B, S, h7, h8, h9, fun X q e1 e2 e3 e4 e5 hr => h X q d a cdv h2 h6 h7 h10 S e1 e2 e3 e4 e5 hr⟩
theorem fc_of0 (ok : PgOk p P w K mg) {base : Heap} {n : Nat} (kp : Keeps p P w K mg base n) (L : Option LamT) : Fc p.sd (p.ctx0 K w (run p K w n) L) n P w K mg base where
  hK := rfl
  hw := rfl
  kg := ok.kg
  fr := ok.fr
  gl := ok.gl
  fn := fun x hx => by
    obtain ⟨h1, d, h2, h3⟩ := ok.fn x hx
    obtain ⟨fd, k1, k2, k3, k4, k5, _⟩ := kp x d h2
    rw [h3] at k1 k3
    exact ⟨h1, k3, fnA_of k1 k2⟩
  cls := ok.cls
  mks := ok.mks
  err := ok.err
  smt := fun c m key h => by
    obtain ⟨d, mc, q, rest, h1, h2, h3, h4⟩ := ok.smt c m key h
    obtain ⟨fd, k1, k2, k3, k4, k5, _⟩ := kp key d h1
    exact ⟨mc, q, _, rest, h2, h3, h4, k3, fnA_of k1 k2, k5⟩
  cmt := fun c m key h => by
    obtain ⟨d, mc, q, h1, h2, h3⟩ := ok.cmt c m key h
    obtain ⟨fd, k1, k2, k3, k4, k5, _⟩ := kp key d h1
    exact ⟨mc, q, _, h2, h3, fnA_of k1 k2, k5⟩
  eqc := ok.eqc
  lfn := fun x hx => ldef_of ok kp x hx fun X q d a cdv _ _ _ _ _ _ _ _ _ _ _ f c s H Q tl ha hc ht => ht.elim
  ecl := ok.ecl
  exm := ok.exm
  eis := ok.eis
  xfc := ok.xfc
  mth := fun c m key h => by
    obtain ⟨d, h2, h3, h4⟩ := ok.mth c m key h
    obtain ⟨fd, k1, k2, k3, k4, k5, _⟩ := kp key d h2
    exact ⟨_, h3, h4, k4, fnA_of k1 k2, k5⟩
  prp := fun c f key h => by
    obtain ⟨d, h2, h3, q, h4⟩ := ok.prp c f key h
    obtain ⟨fd, k1, k2, k3, k4, k5, _⟩ := kp key d h2
    exact ⟨h3, q, _, h4, fnA_of k1 k2⟩
  fld := ok.fld
  isi := ok.isi
theorem fc_of (ok : PgOk p P w K mg) {base : Heap} {n : Nat} (kp : Keeps p P w K mg base n) : Fc p.sd (p.ctx K w (run p K w n)) n P w K mg base :=
  { fc_of0 ok kp none with
    lfn := fun x hx => ldef_of ok kp x hx fun X q d a cdv h2 h6 h7 h10 S e1 e2 e3 e4 e5 hr f c s H Q tl ha hc ht => by
      subst e1 e2 e3 e4 e5
      have ht : p.lrun X.K X.w (run p X.K X.w n) x tl H Q := ht
      unfold Pg.lrun at ht
      rw [h2] at ht
      obtain ⟨_, _, hck⟩ := ok.defs d (find_mem h2).1
      rw [h10] at hck
      have hr2 : Room (5 * n + 4) (X.A.deeper (envOfC x (defScope d.st) s.heap.objs.size (He.ga X.K x) cdv)) := hr.deeper _
      refine ⟨_, ((snd_all (D := p.sd) (C := p.ctx0 X.K X.w (run p X.K X.w n) (some ⟨f, c, q, 0, tl⟩)) (n := n) d.body).1 (cxOf C8.CX0 X.prog X.w X.K X.mg X.base d.N x (defScope d.st) (He.ga X.K x) cdv X.A X.stack s H C8.E0).nox noW ⟨d.N, defScope d.st, true, true, false⟩ ?_).ss _ hck, ht f c q hc⟩
      exact { fc := fc_of0 ok kp _, hN := rfl, nd := S.nd, sc := rfl, kd := S.kind, fnt := fun _ _ => rfl, stk := fun _ => ⟨rfl, rfl⟩, un := by have := hr2.un; show (X.A.deeper (envOfC x (defScope d.st) s.heap.objs.size (He.ga X.K x) cdv)).units + 200 < cLine; omega, calm := fun _ => ⟨rfl, hr2.mono (by omega)⟩, big := fun z => (by cases z), tab := fun z => (by cases z), act := fun _ _ L hL a' ha' => (by
          cases hL
          have e : some a' = some a := ha'.symm.trans h7
          cases e
          exact ha), tk := fun u s' ⟨_, _, _, _, _, _, _, _, _, _, _, _, _, _, _, _, w⟩ => w.elim, own := PassesOwn.never } }
theorem keeps_of (ok : PgOk p P w K mg) {base : Heap} {n : Nat}
    (h : ∀ key d fd, p.find key = some d → FunD K d.name d.qual (defArgs d.st) (defBody d.st) (defScope d.st) [] [] (d.at_.ad K) fd → FnOk P w K mg base (CX P w) (5 * n + 1) (d.at_.ad K) fd d.ps (run p K w n key)) : Keeps p P w K mg base n := by
  intro key d hd
  obtain ⟨⟨fd, F, B, kw⟩, S, hc⟩ := ok.defs d (find_mem hd).1
  have F1 := h key d fd hd F
  refine ⟨fd, F1, B, F.kp, fnIn_of F, fun l ks ord ho => ?_, by
    obtain ⟨oc, od, dV, kV, doc, pm, an, cdv, ct, osl, e, lk, _⟩ := F.ex
    exact ⟨_, lk, rfl⟩⟩
  rw [← (find_mem hd).2] at ho
  intro A outer s H us ws vs zs Q E hr e0 r rz hl hq
  obtain ⟨h1, ts, h2, h3⟩ := hq
  have KX : K.In s.heap := e0.mod.kin.keeps fun b o e => (e0.bs b o e).1
  obtain ⟨us', g1, g2⟩ := kw l ks ord ho s us ws KX (by rw [← r.length, h1]) (by rw [← rz.length, hl])
  exact F1.run A outer s H ⟨us, ks.zip ws⟩ us' ts Q E hr e0 g2 (byOrd_vals (r.append rz) h2 g1) h3
/-- every def keeps its promise -/
theorem run_ok (ok : PgOk p P w K mg) (base : Heap) (tb : ∀ d ∈ p.defs, d.lam = true → LamX.TabB base mg (codeA K d) (tabA K d)) : ∀ n, Keeps p P w K mg base n := by
  intro n
  induction n with
  | zero =>
    refine keeps_of ok fun key d fd hd F => ?_
    rw [run_zero]
    exact ⟨fun _ _ _ _ h => h.elim, fun _ _ _ _ _ _ _ _ _ _ _ _ _ h => h.elim⟩
  | succ n ih =>
    refine keeps_of ok fun key d fd hd F => ?_
    obtain ⟨_, S, hc⟩ := ok.defs d (find_mem hd).1
    have hs : ∀ vs H Q E, run p K w (n + 1) key vs H Q E → vs.length = d.ps.length ∧ (rd (p.ctx K w (run p K w n)) d.body fun cls dd _ H' => E cls dd H').s { nx := fun _ H' => Q .non H', rt := Q } (start d.N vs) H := by
      intro vs H Q E h
      rw [run_succ] at h
      unfold stepP at h
      rw [hd] at h
      exact h
    obtain ⟨oc, od, dV, kV, doc, pm, an, cdv, ct, osl, e, lk, hcd, _, _⟩ := F.ex
    subst e
    refine fn_of (k := 5 * n + 5) lk hcd S (fun vs H Q E h => (hs vs H Q E h).1) fun A outer s H vs Q E hr hsp => ?_
    obtain ⟨hl, hb⟩ := hs vs H Q E hsp
    refine ⟨_, ((snd_all (D := p.sd) (C := p.ctx K w (run p K w n)) (n := n) d.body).1 (cxOf (CX P w) P w K mg base d.N d.qual (defScope d.st) (d.at_.ad K) cdv A outer s H E) (fun cls dd _ H' => E cls dd H') ⟨d.N, defScope d.st, true, true, d.lam⟩ ?_).ss _ hc, hb⟩
    exact { fc := fc_of ok ih, hN := rfl, nd := S.nd, sc := rfl, kd := S.kind, fnt := fun _ _ => rfl, stk := fun _ => ⟨rfl, rfl⟩, un := show (A.deeper (envOfC d.qual (defScope d.st) s.heap.objs.size (d.at_.ad K) cdv)).units + 200 < cLine from by have := hr.un; omega, calm := fun _ => ⟨rfl, hr.mono (by omega)⟩, big := fun _ => hr, tab := fun hL => (by
        have hm := (find_mem hd).1
        obtain ⟨c, rfl⟩ := He.codeIn_ref hcd
        have ec : codeA K d = c := by
          unfold codeA
          rw [lk]
        have t := tb d hm hL
        rw [ec] at t
        refine ⟨c, tabA K d, t, rfl, List.mem_map.mpr ⟨d, List.mem_filter.mpr ⟨hm, hL⟩, rfl⟩, fun q hq e => ?_⟩
        obtain ⟨d', h1, rfl⟩ := List.mem_map.mp hq
        obtain ⟨h2, h3⟩ := List.mem_filter.mp h1
        show d'.qual ++ ".<locals>." ++ "<lambda>" = d.qual ++ ".<locals>." ++ "<lambda>"
        rw [ok.lamU d hm hL d' h2 h3 e]), act := fun _ _ L hL => (by cases hL), tk := takes_of rfl rfl rfl rfl, own := passes_of rfl }
end
end U

namespace U
open PySem PySem.Spec PyProof.Rows L2
/-! ### errors: what the head looks at -/
/-- an error: its class, its fields; its __init__ in the text: the name of self, the other parameters -/
structure ErrD where
  c : Str
  fs : List Str
  slf : Str
  ys : List Str
  qual : Str
  st : Stmt
def stoB (slf : Str) : List Stmt → List Str → List Str → Bool
  | [], [], [] => true
  | .Assign [.Attribute (.Name x _) g _] (.Name z _) _ :: r, f :: fs, y :: ys => decide (x = slf) && (decide (g = f) && (decide (z = y) && stoB slf r fs ys))
  | _, _, _ => false
theorem stoB_ok {slf : Str} {st : List Stmt} {fs ys : List Str} (h : stoB slf st fs ys = true) : Sto slf st (fs.zip ys) ∧ fs.length = ys.length := by
  fun_induction stoB slf st fs ys with
  | case1 => exact ⟨.nil, rfl⟩
  | case2 x p1 g p2 z p3 p4 r f fs y ys ih =>
    obtain ⟨h1, h⟩ := He.ba h
    obtain ⟨h2, h⟩ := He.ba h
    obtain ⟨h3, h⟩ := He.ba h
    obtain ⟨k1, k2⟩ := ih h
    rw [of_decide_eq_true h1, of_decide_eq_true h2, of_decide_eq_true h3]
    exact ⟨.cons k1, by simp [k2]⟩
  | case3 => cases h
def supB : Stmt → Bool
  | .Expr (.Call (.Attribute (.Call (.Name x _) [] [] _) i p2) [.Constant (.str _) _ _] [] p4) _ => decide (x = ("super" : Str)) && (decide (i = ("__init__" : Str)) && (p2.endLine == p4.line))
  | _ => false
theorem supB_ok {st : Stmt} (h : supB st = true) : ∃ p0 p1 p2 p3 p4 p5 txt k, st = .Expr (.Call (.Attribute (.Call (.Name "super" p0) [] [] p1) "__init__" p2) [.Constant (.str txt) k p3] [] p4) p5 ∧ (p2.endLine == p4.line) = true := by
  unfold supB at h
  split at h
  · obtain ⟨h1, h⟩ := He.ba h
    obtain ⟨h2, h3⟩ := He.ba h
    rw [of_decide_eq_true h1, of_decide_eq_true h2]
    exact ⟨_, _, _, _, _, _, _, _, rfl, h3⟩
  · cases h
/-- judged of the text -/
def ErrD.stat (e : ErrD) : Bool := (match defBody e.st with
    | s :: r => supB s && stoB e.slf r e.fs e.ys
    | [] => false) && (!e.fs.isEmpty && (decide (e.fs.length ≤ 800) && ((e.slf :: e.ys).all (fun z => (match (defScope e.st).names.lookup z with | some .local => true | _ => false) && !(z == ("__debug__" : Str))) && (decide ((e.slf :: e.ys).Nodup) &&
  ((defScope e.st).names.all (fun z => match z.2 with | .cell => false | _ => true) && (!(defScope e.st).isCoroutine && (!(defScope e.st).isGenerator && ((match (defScope e.st).kind with | .function => true | _ => false) &&
  ((match (defScope e.st).names.lookup ("super" : Str) with | some .globalImplicit => true | _ => false) && ((match (defScope e.st).names.lookup ("__class__" : Str) with | some .free => true | _ => false) &&
  (match ((defArgs e.st).posonlyargs ++ (defArgs e.st).args).head? with | some ar => decide (ar.arg = e.slf) | none => false)))))))))))
abbrev ErrW : Type := Option (Str × Str × Arguments × FuncBody × Scope × Addr × List Str × Addr)
def ErrD.obs (K : PySem.W.Frag) (e : ErrD) : ErrW := match K.lookup (He.ma K (He.ga K e.c) "__init__") with
  | some ⟨_, _, .func fd, _⟩ => some (fd.name, fd.qualname, fd.params, fd.body, fd.scope, fd.globals, fd.closure.map (·.1), fd.builtins)
  | _ => none
def ErrD.val (e : ErrD) : ErrW := some ("__init__", e.qual, defArgs e.st, .stmts (defBody e.st), defScope e.st, mainGlobals, ["__class__"], builtinsNs)
def codB (K : PySem.W.Frag) (file : Str) : Value → Bool
  | .ref cda => (match K.lookup cda with
    | some ⟨_, _, .fields vs, _⟩ => (match (vs[2]? : Option Value) with
      | some (.str z _) => decide (z = file)
      | _ => false)
    | _ => false)
  | _ => false
def celB (K : PySem.W.Frag) (C : Addr) : List (Str × Addr) → Bool
  | [(_, cc)] => (match K.lookup cc with
    | some ⟨_, _, .cell (some (.ref D)), _⟩ => decide (D = C)
    | _ => false)
  | _ => false
def tailB (K : PySem.W.Frag) (C : Addr) : Bool := match PySem.W.clsIn K C with
  | some cd => cd.hasDict && (match cd.mro with
    | _ :: bm => PySem.HandSPX.refsVE bm
    | [] => false)
  | none => false
/-- judged of what stands behind the top -/
def ErrD.ok (K : PySem.W.Frag) (file : Str) (e : ErrD) : Bool :=
  (He.Fa.glo e.c).ok K && (PySem.W.excInitIn K (He.ga K e.c) veT "ValueError.__new__" && (tailB K (He.ga K e.c) && (He.eqO (PySem.W.findIn K (.ref (He.ga K e.c)) "__setattr__") (some (some (.builtin "object.__setattr__"))) &&
  (decide (PySem.W.subIn K (.ref (He.ga K e.c)) (.type "BaseException") = some true) && (decide (PySem.W.typeIn K (.ref (He.ga K e.c)) = some (.type "type")) && (PySem.W.keepIn K (.ref (He.ga K e.c)) &&
  (He.eqO (PySem.W.findIn K (.ref (He.ga K e.c)) "__init__") (some (some (.ref (He.ma K (He.ga K e.c) "__init__")))) && (decide (PySem.W.typeIn K (.ref (He.ma K (He.ga K e.c) "__init__")) = some (.type "function")) &&
  (e.fs.all (fun g => (He.Fa.noat e.c g).ok K) && (decide (PySem.W.mroIn K (He.ga K e.c) (.ref (He.ga K e.c)) = some true) && ((He.Fa.free "super").ok K && (He.eqO (PySem.W.nsIn K cStatics "thirdparty.any") (some none) &&
  (He.eqO (PySem.W.ks_superIn K (He.ga K e.c) (He.ga K e.c) "__init__") (some (some (.builtin "ValueError.__init__"))) && (decide (PySem.W.subIn K (.ref (He.ga K e.c)) (.type "ValueError") = some true) &&
  (match K.lookup (He.ma K (He.ga K e.c) "__init__") with
    | some ⟨_, _, .func fd, _⟩ => PySem.W.codeIn K fd.code e.qual && (codB K file fd.code && (celB K (He.ga K e.c) fd.closure && He.dflB K fd.defaults []))
    | _ => false)))))))))))))))
/-- how an error's arguments are bound -/
def ErrD.Bnd (e : ErrD) : Prop := ∀ (kV doc pm : Value) (an : Option Addr) (cdv ct : Value) (cc : Addr) (us : List Value) (x : Value), us.length = e.ys.length → bindArgs (PySem.W.ksFn "__init__" e.qual (defArgs e.st) (defBody e.st) (defScope e.st) .none kV doc pm an cdv ct cc) ⟨x :: us, []⟩ = pure ((e.slf :: e.ys).zip (x :: us))
theorem errI_of {P : Program} {K : PySem.W.Frag} {mg : Str → Option Value} {hp : Heap} {e : ErrD} (st : e.stat = true) (bn : e.Bnd) (KX : K.In hp) (G : hp.Ns mainGlobals mg) (o : e.obs K = e.val) (k : e.ok K P.main.file = true) (top : (P.main.scope.names.lookup ("super" : Str)).isSome = false) :
    mg e.c = some (.ref (He.ga K e.c)) ∧ ErrI P K mg (He.ga K e.c) (He.ma K (He.ga K e.c) "__init__") e.fs := by
  unfold ErrD.ok at k
  obtain ⟨k1, k⟩ := He.ba k
  obtain ⟨k2, k⟩ := He.ba k
  obtain ⟨k3, k⟩ := He.ba k
  obtain ⟨k4, k⟩ := He.ba k
  obtain ⟨k5, k⟩ := He.ba k
  obtain ⟨k6, k⟩ := He.ba k
  obtain ⟨k7, k⟩ := He.ba k
  obtain ⟨k8, k⟩ := He.ba k
  obtain ⟨k9, k⟩ := He.ba k
  obtain ⟨k10, k⟩ := He.ba k
  obtain ⟨k11, k⟩ := He.ba k
  obtain ⟨k12, k⟩ := He.ba k
  obtain ⟨k13, k⟩ := He.ba k
  obtain ⟨k14, k⟩ := He.ba k
  obtain ⟨k15, k16⟩ := He.ba k
  unfold ErrD.stat at st
  obtain ⟨t1, st⟩ := He.ba st
  obtain ⟨t2, st⟩ := He.ba st
  obtain ⟨t3, st⟩ := He.ba st
  obtain ⟨t4, st⟩ := He.ba st
  obtain ⟨t5, st⟩ := He.ba st
  obtain ⟨t6, st⟩ := He.ba st
  obtain ⟨t7, st⟩ := He.ba st
  obtain ⟨t8, st⟩ := He.ba st
  obtain ⟨t9, st⟩ := He.ba st
  obtain ⟨t10, st⟩ := He.ba st
  obtain ⟨t11, t12⟩ := He.ba st
  have hcls : ∃ cd, PySem.W.clsIn K (He.ga K e.c) = some cd := by
    unfold tailB at k3
    cases z : PySem.W.clsIn K (He.ga K e.c) with
    | none => rw [z] at k3; cases k3
    | some cd => exact ⟨cd, rfl⟩
  refine ⟨He.glo_ok KX G k1, ⟨?_, He.eqO_ok k4, of_decide_eq_true k5, of_decide_eq_true k6, k7⟩, He.eqO_ok k8, of_decide_eq_true k9, fun g hg => He.noat_ok (List.all_eq_true.mp k10 g hg), ?_⟩
  · have x2 := k2
    unfold PySem.W.excInitIn at x2
    split at x2
    rotate_left
    · cases x2
    rename_i dd cd sl ho
    split at x2
    rotate_left
    · cases x2
    rename_i C' bm s0 s1 s2 s3 n s5 hm hs
    simp only [Bool.and_eq_true, beq_iff_eq, Bool.not_eq_true'] at x2
    obtain ⟨⟨⟨hC', hn'⟩, hdel⟩, _⟩ := x2
    have hc : PySem.W.clsIn K (He.ga K e.c) = some cd := by unfold PySem.W.clsIn; rw [ho]
    unfold tailB at k3
    rw [hc] at k3
    obtain ⟨d1, d2⟩ := He.ba k3
    rw [hm] at d2
    obtain ⟨nm, bs, mro, ns, qn, hd, sn, sub, ab, col, del⟩ := cd
    dsimp only at hm hdel d1
    obtain ⟨sll⟩ := sl
    rw [show sll = [s0, s1, s2, s3, some (.builtin n), s5] from hs, hm, hdel, d1, hC', hn'] at ho
    exact ⟨nm, qn, ns, bs, bm, sn, sub, ab, col, dd, s0, s1, s2, s3, s5, ho, d2⟩
  · cases q : K.lookup (He.ma K (He.ga K e.c) "__init__") with
    | none => rw [q] at k16; cases k16
    | some ob =>
      obtain ⟨oc, od, dt, osl⟩ := ob
      unfold ErrD.obs at o
      rw [q] at k16 o
      cases dt with
      | func fd =>
        obtain ⟨n1, n2, n3, n4, n5, n6, n7, n8, n9, n10, n11, n12, n13, n14, n15⟩ := fd
        have o' := Option.some.inj o
        simp only [Prod.mk.injEq] at o'
        obtain ⟨h1, h2, h3, h4, h5, h6, h7, h8⟩ := o'
        subst h1 h2 h3 h4 h5 h6 h8
        dsimp only at k16
        obtain ⟨c1, c5⟩ := He.ba k16
        obtain ⟨c2, c6⟩ := He.ba c5
        obtain ⟨c3, c4⟩ := He.ba c6
        clear c5 c6 k16
        obtain ⟨cc, rfl, cl, cld, csl, hcell⟩ : ∃ cc : Addr, n7 = [(("__class__" : Str), cc)] ∧ ∃ cl cld csl, K.lookup cc = some ⟨cl, cld, .cell (some (.ref (He.ga K e.c))), csl⟩ := by
          unfold celB at c3
          split at c3
          · rename_i nm cc
            split at c3
            · rename_i cl cld D csl z
              rw [of_decide_eq_true c3] at z
              have hnm : nm = ("__class__" : Str) := by simpa using h7
              exact ⟨cc, by rw [hnm], cl, cld, csl, z⟩
            · cases c3
          · cases c3
        obtain ⟨cda, rfl, ccl, cdd, vs, ccs, tf, hcode, hvs⟩ : ∃ cda, n13 = .ref cda ∧ ∃ ccl cdd vs ccs tf, K.lookup cda = some ⟨ccl, cdd, .fields vs, ccs⟩ ∧ vs[2]? = some (.str P.main.file tf) := by
          unfold codB at c2
          split at c2
          · rename_i cda
            split at c2
            · rename_i ccl cdd vs ccs z
              split at c2
              · rename_i y tf z2
                rw [of_decide_eq_true c2] at z2
                exact ⟨cda, rfl, ccl, cdd, vs, ccs, tf, z, z2⟩
              · cases c2
            · cases c2
          · cases c2
        obtain rfl : n8 = .none := by
          rcases He.dflB_ok c4 with ⟨_, z⟩ | ⟨z, _⟩
          · exact z
          · exact absurd rfl z
        cases eb : defBody e.st with
        | nil => rw [eb] at t1; cases t1
        | cons s0 r =>
          rw [eb] at t1
          obtain ⟨u1, u2⟩ := He.ba t1
          obtain ⟨p0, p1, p2, p3, p4, p5, txt, k, rfl, hl⟩ := supB_ok u1
          obtain ⟨hsto, hlen⟩ := stoB_ok u2
          cases ea : ((defArgs e.st).posonlyargs ++ (defArgs e.st).args).head? with
          | none => rw [ea] at t12; cases t12
          | some ar =>
            rw [ea] at t12
            have kd : (defScope e.st).kind = .function := by
              split at t9
              · assumption
              · cases t9
            have ks : (defScope e.st).names.lookup ("super" : Str) = some .globalImplicit := by
              split at t10
              · assumption
              · cases t10
            have kc : (defScope e.st).names.lookup ("__class__" : Str) = some .free := by
              split at t11
              · assumption
              · cases t11
            have loc : ∀ z ∈ e.slf :: e.ys, (defScope e.st).names.lookup z = some .local ∧ (z == ("__debug__" : Str)) = false := by
              intro z hz
              obtain ⟨a1, a2⟩ := He.ba (List.all_eq_true.mp t4 z hz)
              refine ⟨?_, by simpa using a2⟩
              split at a1
              · assumption
              · cases a1
            rw [eb] at q
            refine ⟨cc, cda, defScope e.st, e.slf, "__init__", e.qual, defArgs e.st, .none, n9, n10, n11, n14, n12, r, e.fs.zip e.ys, p0, p1, p2, p3, p4, p5, txt, k, e.ys, ?_, hsto, c1, ?_, loc, of_decide_eq_true t5, ?_, hl, by simpa using t7, by simpa using t8, ?_, ?_, List.map_fst_zip (Nat.le_of_eq hlen), List.map_snd_zip (Nat.le_of_eq hlen.symm)⟩
            · exact ⟨⟨oc, od, osl, q⟩, ⟨ar, ea, of_decide_eq_true t12⟩, ⟨ccl, cdd, vs, ccs, _, tf, hcode, hvs, beq_self_eq_true _⟩, ⟨cl, cld, csl, hcell⟩, hcls, of_decide_eq_true k11, He.free_ok KX G k12, ks, kc, (loc _ (List.mem_cons_self ..)).1, kd, top, He.eqO_ok k13, He.eqO_ok k14, of_decide_eq_true k15, k2⟩
            · intro s us _ hu x
              have := bn n9 n10 n11 n12 (.ref cda) n14 cc us (.ref x) hu
              rw [eb] at this
              exact .of_eq this
            · intro z hz hcz
              have := List.all_eq_true.mp t6 z hz
              rw [hcz] at this
              cases this
            · rw [List.length_zip, hlen, Nat.min_self, ← hlen]
              exact of_decide_eq_true t3
            · intro hz
              cases hf : e.fs with
              | nil => rw [hf] at t2; cases t2
              | cons a b =>
                cases hy : e.ys with
                | nil => rw [hf, hy] at hlen; cases hlen
                | cons a' b' => rw [hf, hy] at hz; cases hz
      | _ => cases k16
end U

namespace U
open PySem PySem.Spec PyProof.Rows L2
/-! ### the head: what is looked at behind the top -/
/-- what is said of the program: lists, so that all of it is judged at once -/
structure Hd where
  defs : List DefI
  frees : List Str
  globs : List (Str × He.Dv)
  fns : List Str
  clss : List Str
  mks : List Str
  mth : List ((Str × Str) × Str)
  prp : List ((Str × Str) × Str)
  fld : List (Str × Str)
  isi : List ((Str × CR) × Bool)
  tabs : List (Str × List (Str × V))
  errs : List ErrD
  kwo : List ((Str × Nat × List Str) × List Nat)
  ecls : List Str
  exm : List ((Str × Str) × Bool)
  eis : List ((Str × CR) × Bool)
  lfns : List Str
  smt : List ((Str × Str) × Str)
  cmt : List ((Str × Str) × Str) := []
def Hd.pg (h : Hd) : Pg where
  defs := h.defs
  sd := ⟨h.frees, h.globs.map (·.1), h.fns, h.clss, h.mks, h.errs.map (·.c), h.ecls, h.lfns⟩
  gv := fun K x => (h.globs.lookup x).map (He.Dv.v K)
  tabs := h.tabs.map fun t => ⟨fun K => He.ga K t.1, t.2⟩
  mth := fun c m => h.mth.lookup (c, m)
  prp := fun c m => h.prp.lookup (c, m)
  fld := fun c f => h.fld.elem (c, f)
  isi := fun c r => h.isi.lookup (c, r)
  xf := fun c => (h.errs.find? fun e => e.c == c).map (·.fs)
  kwo := fun k l ks => h.kwo.lookup (k, l, ks)
  exm := fun cn c => h.exm.lookup (cn, c)
  eis := fun cn c => h.eis.lookup (cn, c)
  smt := fun c m => h.smt.lookup (c, m)
  cmt := fun c m => h.cmt.lookup (c, m)
/-! #### tables -/
def tabL : List DictEntry → List (Str × V) → Bool
  | [], [] => true
  | e :: es, (k, v) :: r => (match e.key with
    | .str x _ => decide (x = k) && He.relB v e.val
    | _ => false) && tabL es r
  | _, _ => false
def tabB (K : PySem.W.Frag) (a : Addr) (kvs : List (Str × V)) : Bool := match K.lookup a with
  | some ⟨_, _, .dict es _, _⟩ => tabL es.toList kvs
  | _ => false
theorem tabL_ref : ∀ {es : List DictEntry} {kvs : List (Str × V)}, tabL es kvs = true → es.any (·.refKey) = false
  | [], _, _ => rfl
  | e :: es, [], h => by cases h
  | e :: es, (k, v) :: r, h => by
    unfold tabL at h
    obtain ⟨h1, h2⟩ := He.ba h
    rw [List.any_cons, tabL_ref h2, Bool.or_false]
    split at h1
    · rename_i x t ek
      unfold DictEntry.refKey
      rw [ek]
    · cases h1
theorem tabL_ok (z : Str) : ∀ {es : List DictEntry} {kvs : List (Str × V)}, tabL es kvs = true → RelO (kvs.lookup z) ((es.find? (·.key.isStr z)).map (·.val))
  | [], [], _ => trivial
  | [], _ :: _, h => by cases h
  | e :: es, [], h => by cases h
  | e :: es, (k, v) :: r, h => by
    unfold tabL at h
    obtain ⟨h1, h2⟩ := He.ba h
    split at h1
    · rename_i x t ek
      obtain ⟨h3, h4⟩ := He.ba h1
      have ex : x = k := of_decide_eq_true h3
      rw [List.lookup_cons, List.find?_cons]
      have es' : e.key.isStr z = (x == z) := by rw [ek] <;> rfl
      rw [es', ex]
      by_cases hz : z = k
      · rw [hz, beq_self_eq_true]
        exact He.relB_ok h4
      · have e1 : (z == k) = false := beq_false_of_ne hz
        have e2 : (k == z) = false := beq_false_of_ne fun q => hz q.symm
        rw [e1, e2]
        exact tabL_ok z h2
    · cases h1
theorem tabB_ok {K : PySem.W.Frag} {a : Addr} {kvs : List (Str × V)} (h : tabB K a kvs = true) (z : Str) : ∃ r, PySem.W.nsIn K a z = some r ∧ RelO (kvs.lookup z) r := by
  unfold tabB at h
  unfold PySem.W.nsIn
  split at h
  · rename_i es n sl e
    rw [e]
    have k := tabL_ok z h
    dsimp only
    cases q : es.toList.find? (·.key.isStr z) with
    | some u =>
      rw [q] at k
      exact ⟨_, rfl, k⟩
    | none =>
      rw [q] at k
      rw [tabL_ref h]
      exact ⟨_, rfl, k⟩
  · cases h
/-! #### defs -/
def fnV (K : PySem.W.Frag) (a : Addr) : He.FnW := match K.lookup a with
  | some ⟨_, _, .func fd, _⟩ => some (fd.name, fd.qualname, fd.params, fd.body, fd.scope, fd.globals, fd.closure, fd.builtins)
  | _ => none
def DefI.val (d : DefI) : He.FnW := some (d.name, d.qual, defArgs d.st, .stmts (defBody d.st), defScope d.st, mainGlobals, [], builtinsNs)
def DefI.ok (K : PySem.W.Frag) (d : DefI) : Bool := PySem.W.keepIn K (.ref (d.at_.ad K)) && (match K.lookup (d.at_.ad K) with
  | some ⟨_, _, .func fd, _⟩ => PySem.W.codeIn K fd.code d.qual && He.dflB K fd.defaults []
  | _ => false)
theorem DefI.funD {K : PySem.W.Frag} {d : DefI} (e : fnV K (d.at_.ad K) = d.val) (c : d.ok K = true) : ∃ fd, FunD K d.name d.qual (defArgs d.st) (defBody d.st) (defScope d.st) [] [] (d.at_.ad K) fd := by
  obtain ⟨kp, c2⟩ := He.ba c
  unfold fnV at e
  cases q : K.lookup (d.at_.ad K) with
  | none => rw [q] at c2; cases c2
  | some o =>
    obtain ⟨oc, od, dt, osl⟩ := o
    rw [q] at c2 e
    cases dt with
    | func fd =>
      obtain ⟨n1, n2, n3, n4, n5, n6, n7, n8, n9, n10, n11, n12, n13, n14, n15⟩ := fd
      have e' := Option.some.inj e
      simp only [Prod.mk.injEq] at e'
      obtain ⟨h1, h2, h3, h4, h5, h6, h7, h8⟩ := e'
      rw [h1, h2, h3, h4, h5, h6, h7, h8] at q
      obtain ⟨k1, k2⟩ := He.ba c2
      exact ⟨_, ⟨oc, od, n8, n9, n10, n11, n12, n13, n14, osl, rfl, q, k1, He.dflB_ok k2, .inl rfl⟩, kp⟩
    | _ => cases c2
/-! #### the check -/
def tyL : List String := ["NoneType", "bool", "int", "str", "list", "tuple", "dict"]
def crW (K : PySem.W.Frag) (r : CR) : Value := match r with | .ty n => .type n | .own x => .ref (He.ga K x)
def gloB (K : PySem.W.Frag) (x : Str) : Bool := (He.Fa.glo x).ok K
def excB (K : PySem.W.Frag) (D : Addr) : Bool := He.eqO (PySem.W.findIn K (.ref D) "__getattribute__") (some (some (.builtin "BaseException.__getattribute__"))) && (decide (PySem.W.findIn K (.ref D) "__getattr__" = some none) && (decide (PySem.W.subIn K (.ref D) (.type "BaseException") = some true) && (PySem.W.hasDictIn K D &&
  (He.eqO (PySem.W.findIn K (.ref D) "__class__") (some (some (.builtin "object.__class__"))) && (He.eqO (PySem.W.specialIn K (.builtin "object.__class__") "__get__") (some (some (.builtin "getset_descriptor.__get__"))) && (decide (PySem.W.takesIn K (.builtin "object.__class__") = some true) && decide (PySem.W.mroIn K D (.type "object") = some true)))))))
theorem excB_ok {K : PySem.W.Frag} {D : Addr} (h : excB K D = true) : ExcC K D := by
  unfold excB at h
  obtain ⟨h1, h⟩ := He.ba h
  obtain ⟨h2, h⟩ := He.ba h
  obtain ⟨h3, h⟩ := He.ba h
  obtain ⟨h4, h⟩ := He.ba h
  obtain ⟨h5, h⟩ := He.ba h
  obtain ⟨h6, h⟩ := He.ba h
  obtain ⟨h7, h8⟩ := He.ba h
  exact ⟨He.eqO_ok h1, of_decide_eq_true h2, of_decide_eq_true h3, h4, He.eqO_ok h5, He.eqO_ok h6, of_decide_eq_true h7, of_decide_eq_true h8⟩
def smtB (K : PySem.W.Frag) (C p : Addr) (m : Str) (g : Addr) : Bool := PySem.W.readsIn K C (.type "type") && (He.eqO (PySem.W.specialIn K (.ref C) "__getattribute__") (some (some (.builtin "type.__getattribute__"))) && ((match PySem.W.findCls K (.ref C) (.type "type") m with
    | some (.get (.builtin b) (.ref p') .none (.ref C')) => decide (b = "staticmethod.__get__") && (decide (p' = p) && decide (C' = C))
    | _ => false) && (match PySem.W.recIn K p "staticmethod" with
    | some (.ref g' :: _) => decide (g' = g)
    | _ => false)))
theorem smtB_ok {K : PySem.W.Frag} {C p : Addr} {m : Str} {g : Addr} (h : smtB K C p m g = true) : ∃ mc q rest, ClX.CRead K C mc ∧ PySem.W.findCls K (.ref C) mc m = some (.get (.builtin "staticmethod.__get__") (.ref q) .none (.ref C)) ∧ PySem.W.recIn K q "staticmethod" = some (.ref g :: rest) := by
  unfold smtB at h
  obtain ⟨h1, h⟩ := He.ba h
  obtain ⟨h2, h⟩ := He.ba h
  obtain ⟨h3, h4⟩ := He.ba h
  split at h3
  · rename_i b p' C' e
    obtain ⟨q1, q⟩ := He.ba h3
    obtain ⟨q2, q3⟩ := He.ba q
    rw [of_decide_eq_true q1, of_decide_eq_true q2, of_decide_eq_true q3] at e
    split at h4
    · rename_i g' rest e'
      rw [of_decide_eq_true h4] at e'
      exact ⟨.type "type", p, rest, ⟨h1, He.eqO_ok h2⟩, e, e'⟩
    · cases h4
  · cases h3
def cmtB (K : PySem.W.Frag) (C p : Addr) (m : Str) (g : Addr) : Bool := PySem.W.readsIn K C (.type "type") && (He.eqO (PySem.W.specialIn K (.ref C) "__getattribute__") (some (some (.builtin "type.__getattribute__"))) && ((match PySem.W.findCls K (.ref C) (.type "type") m with
    | some (.get (.builtin b) (.ref p') .none (.ref C')) => decide (b = "classmethod.__get__") && (decide (p' = p) && decide (C' = C))
    | _ => false) && ((match PySem.W.recIn K p "classmethod" with
    | some (.ref g' :: _) => decide (g' = g)
    | _ => false) && PySem.W.fnIn K g)))
theorem cmtB_ok {K : PySem.W.Frag} {C p : Addr} {m : Str} {g : Addr} (h : cmtB K C p m g = true) : ∃ mc q, ClX.CRead K C mc ∧ ClX.CMet K C mc m q g := by
  unfold cmtB at h
  obtain ⟨h1, h⟩ := He.ba h
  obtain ⟨h2, h⟩ := He.ba h
  obtain ⟨h3, h4⟩ := He.ba h
  obtain ⟨h4, h5⟩ := He.ba h4
  split at h3
  · rename_i b p' C' e
    obtain ⟨q1, q⟩ := He.ba h3
    obtain ⟨q2, q3⟩ := He.ba q
    rw [of_decide_eq_true q1, of_decide_eq_true q2, of_decide_eq_true q3] at e
    split at h4
    · rename_i g' rest e'
      rw [of_decide_eq_true h4] at e'
      exact ⟨.type "type", p, ⟨h1, He.eqO_ok h2⟩, ⟨e, ⟨rest, e'⟩, h5⟩⟩
    · cases h4
  · cases h3
def Hd.okB (h : Hd) (K : PySem.W.Frag) : Bool :=
  h.defs.all (·.ok K) && (h.frees.all (fun x => (He.Fa.free x).ok K) && (h.globs.all (fun q => match PySem.W.nsIn K mainGlobals q.1 with
    | some (some u) => He.relB (q.2.v K) u
    | _ => false) && (h.fns.all (gloB K) && (h.clss.all (fun c => gloB K c && tyL.all fun t => decide (PySem.W.kitOne K (.type t) (.ref (He.ga K c)) = some false)) &&
  (h.mks.all (fun c => gloB K c && (PySem.W.makesIn K (He.ga K c) && PySem.W.keepIn K (.ref (He.ga K c)))) &&
  (h.mth.all (fun q => match h.pg.find q.2 with
    | some d => (He.Fa.cls q.1.1).ok K && ((He.Fa.meth q.1.1 q.1.2).ok K && decide (d.at_.ad K = He.ma K (He.ga K q.1.1) q.1.2))
    | none => false) &&
  (h.prp.all (fun q => match h.pg.find q.2 with
    | some d => (He.Fa.cls q.1.1).ok K && (He.eqO (PySem.W.findIn K (.ref (He.ga K q.1.1)) q.1.2) (some (some (.ref (He.ma K (He.ga K q.1.1) q.1.2)))) &&
      (He.eqO (PySem.W.specialIn K (.ref (He.ma K (He.ga K q.1.1) q.1.2)) "__get__") (some (some (.builtin "property.__get__"))) && (decide (PySem.W.takesIn K (.ref (He.ma K (He.ga K q.1.1) q.1.2)) = some true) &&
      (match PySem.W.recIn K (He.ma K (He.ga K q.1.1) q.1.2) "property" with
        | some (.ref g :: _) => decide (g = d.at_.ad K)
        | _ => false))))
    | none => false) &&
  (h.fld.all (fun q => (He.Fa.cls q.1).ok K && (He.Fa.noat q.1 q.2).ok K) &&
  (h.isi.all (fun q => (He.Fa.cls q.1.1).ok K && (He.eqO (PySem.W.findIn K (.ref (He.ga K q.1.1)) "__class__") (some (some (.builtin "object.__class__"))) &&
      (He.eqO (PySem.W.specialIn K (.builtin "object.__class__") "__get__") (some (some (.builtin "getset_descriptor.__get__"))) && (decide (PySem.W.takesIn K (.builtin "object.__class__") = some true) &&
      (decide (PySem.W.mroIn K (He.ga K q.1.1) (.type "object") = some true) && decide (PySem.W.kitOne K (.ref (He.ga K q.1.1)) (crW K q.1.2) = some q.2)))))) &&
  (h.tabs.all (fun t => tabB K (He.ga K t.1) t.2) && (h.ecls.all (gloB K) && (h.exm.all (fun q => decide (PySem.W.exmOne K (.ref (He.ga K q.1.1)) (.ref (He.ga K q.1.2)) = some q.2)) && (h.eis.all (fun q => excB K (He.ga K q.1.1) && decide (PySem.W.kitOne K (.ref (He.ga K q.1.1)) (crW K q.1.2) = some q.2)) &&
  (h.errs.all (fun e => xfB K (He.ga K e.c) && e.fs.all fun f => decide (PySem.W.findIn K (.ref (He.ga K e.c)) f = some none)) && (h.lfns.all (gloB K) && (h.smt.all (fun q => match h.pg.find q.2 with
    | some d => smtB K (He.ga K q.1.1) (He.ma K (He.ga K q.1.1) q.1.2) q.1.2 (d.at_.ad K)
    | none => false) && (h.cmt.all (fun q => match h.pg.find q.2 with
    | some d => cmtB K (He.ga K q.1.1) (He.ma K (He.ga K q.1.1) q.1.2) q.1.2 (d.at_.ad K)
    | none => false) && (h.mth.all (fun q => !decide (q.1.2 = ("__eq__" : Str)) || tyL.all fun t => decide (PySem.W.subIn K (.type t) (.ref (He.ga K q.1.1)) = some false)) &&
  (h.defs.filter (·.lam)).all fun d => (h.defs.filter (·.lam)).all fun d' => !decide (tabA K d' = tabA K d) || decide (d'.qual = d.qual)))))))))))))))))))
abbrev AlU : Type := Bool × List He.FnW × List (Option (List (Option (Str × Int)))) × List ErrW
def Hd.obs (h : Hd) (file : Str) (K : PySem.W.Frag) : AlU := (h.okB K && h.errs.all fun e => e.ok K file, h.defs.map fun d => fnV K (d.at_.ad K), h.tabs.map fun t => He.dicW K (He.ga K t.1), h.errs.map fun e => e.obs K)
def Hd.val (h : Hd) (w : World) : AlU := (true, h.defs.map DefI.val, h.tabs.map (fun t => some (He.keysIn w.params (t.2.map (·.1)))), h.errs.map ErrD.val)
/-- the tables of the defs that make lambdas: empty, not in K -/
structure Hd.Tab (h : Hd) (hp : Heap) (K : PySem.W.Frag) : Prop where
  hd : ∀ d ∈ h.defs, d.lam = true → PySem.W.codeHdIn K (codeA K d) (tabA K d) = true
  out : ∀ d ∈ h.defs, d.lam = true → K.lookup (tabA K d) = none
  empty : ∀ d ∈ h.defs, d.lam = true → hp.get? (tabA K d) = some { cls := .none, data := .fields #[] }
def Hd.tabG (h : Hd) (g : Addr → Option Obj) (K : PySem.W.Frag) : Bool := (h.defs.filter (·.lam)).all fun d => PySem.W.codeHdIn K (codeA K d) (tabA K d) && (match g (tabA K d) with
  | some o => He.emptyTab o
  | none => false)
def Hd.obsG (h : Hd) (file : Str) (n : Nat) (g : Addr → Option Obj) : AlU × Bool := (h.obs file (He.frT g (cStatics :: He.asD g n)), h.tabG g (He.frT g (cStatics :: He.asD g n)))
theorem Hd.tab_of {h : Hd} {hp : Heap} {as : List Addr} (e : h.tabG hp.get? (He.frT hp.get? as) = true) : h.Tab hp (He.frT hp.get? as) := by
  have key : ∀ d ∈ h.defs, d.lam = true → PySem.W.codeHdIn (He.frT hp.get? as) (codeA (He.frT hp.get? as) d) (tabA (He.frT hp.get? as) d) = true ∧ ∃ o, hp.get? (tabA (He.frT hp.get? as) d) = some o ∧ He.emptyTab o = true := fun d h1 h2 => by
    obtain ⟨h3, h4⟩ := He.ba (List.all_eq_true.mp e d (List.mem_filter.mpr ⟨h1, h2⟩))
    refine ⟨h3, ?_⟩
    cases q : hp.get? (tabA (He.frT hp.get? as) d) with
    | none => rw [q] at h4; cases h4
    | some o => rw [q] at h4; exact ⟨o, rfl, h4⟩
  refine ⟨fun d h1 h2 => (key d h1 h2).1, fun d h1 h2 => ?_, fun d h1 h2 => ?_⟩
  · obtain ⟨_, o, q, z⟩ := key d h1 h2
    exact He.frT_none q z
  · obtain ⟨_, o, q, z⟩ := key d h1 h2
    rw [q, He.emptyTab_eq z]
def Hd.hook (h : Hd) (file : Str) (n : Nat) : PySem.W.Hook where
  α := AlU × Bool
  obs := fun s => h.obsG file n s.heap.get?
  val := fun w => (h.val w, true)
  says := fun w hp => ∃ K : PySem.W.Frag, K.In hp ∧ h.obs file K = h.val w ∧ h.Tab hp K
  of := fun w s e => ⟨_, He.frT_in, congrArg Prod.fst e, Hd.tab_of (congrArg Prod.snd e)⟩
  keeps := fun _ _ _ ⟨K, hK, c, t⟩ k => ⟨K, PySem.W.Frag.In.keeps hK k, c, t.hd, t.out, fun d h1 h2 => k _ _ (t.empty d h1 h2)⟩
def Hd.ob (h : Hd) (file : Str) (n : Nat) (s : PySem.W.SharedT) : AlU × Bool := h.obsG file n (HandSHeadRun.getT s)
theorem Hd.ob_eq (h : Hd) (file : Str) (n : Nat) (s : PySem.W.SharedT) : h.ob file n s = (h.hook file n).obs s.abs := by
  have e : HandSHeadRun.getT s = s.abs.heap.get? := funext (HandSHeadRun.getT_eq s)
  unfold Hd.ob
  rw [e] <;> rfl
/-! #### what is judged of the text alone -/
def scB (N ps : List Str) (sc : Scope) : Bool := (match sc.kind with | .function => true | _ => false) && (!sc.isCoroutine && (!sc.isGenerator && (decide N.Nodup && (decide (N.take ps.length = ps) &&
  (ps.all (fun x => match sc.names.lookup x with | some .local => true | some .cell => true | _ => false) && sc.names.all fun y => match y.2 with | .free => false | _ => true)))))
theorem scB_ok {N ps : List Str} {sc : Scope} (h : scB N ps sc = true) : FnScope N ps sc := by
  unfold scB at h
  obtain ⟨h1, h⟩ := He.ba h
  obtain ⟨h2, h⟩ := He.ba h
  obtain ⟨h3, h⟩ := He.ba h
  obtain ⟨h4, h⟩ := He.ba h
  obtain ⟨h5, h⟩ := He.ba h
  obtain ⟨h6, h7⟩ := He.ba h
  refine ⟨?_, by simpa using h2, by simpa using h3, of_decide_eq_true h4, of_decide_eq_true h5, fun x hx => ?_, fun y hy e => ?_⟩
  · split at h1
    · assumption
    · cases h1
  · have := List.all_eq_true.mp h6 x hx
    split at this
    · rename_i e; exact .inl e
    · rename_i e; exact .inr e
    · cases this
  · have := List.all_eq_true.mp h7 y hy
    rw [e] at this
    cases this
def visB (sc : Scope) (x : Str) : Bool := match sc.names.lookup x with
  | some .local => true | some .cell => true | some .free => true | _ => false
theorem visB_ok {sc : Scope} {x : Str} (h : visB sc x = true) : Vis sc x := by
  unfold visB at h
  split at h
  · rename_i e; exact .inl e
  · rename_i e; exact .inr (.inl e)
  · rename_i e; exact .inr (.inr e)
  · cases h
def lfnB (h : Hd) (x : Str) : Bool := match h.pg.find x with
  | none => false
  | some d => (match d.ps with
    | [a] => decide (d.at_ = .glo x) && (decide (d.name = x) && (decide (d.qual = x) && (decide (d.N[0]? = some a) && (visB (defScope d.st) a && (!(a == ("__debug__" : Str)) && (!(a == ("__classdict__" : Str)) && !d.lam))))))
    | _ => false)
theorem lfnB_ok {h : Hd} {x : Str} (e : lfnB h x = true) : ∃ d a, h.pg.find x = some d ∧ d.at_ = .glo x ∧ d.name = x ∧ d.qual = x ∧ d.ps = [a] ∧ d.N[0]? = some a ∧ Vis (defScope d.st) a ∧ ((a == ("__debug__" : Str)) = false ∧ (a == ("__classdict__" : Str)) = false) ∧ d.lam = false := by
  unfold lfnB at e
  cases q : h.pg.find x with
  | none => rw [q] at e; cases e
  | some d =>
    rw [q] at e
    dsimp only at e
    split at e
    · rename_i a ea
      obtain ⟨h1, e⟩ := He.ba e
      obtain ⟨h2, e⟩ := He.ba e
      obtain ⟨h3, e⟩ := He.ba e
      obtain ⟨h4, e⟩ := He.ba e
      obtain ⟨h5, e⟩ := He.ba e
      obtain ⟨h6, e⟩ := He.ba e
      obtain ⟨h7, h8⟩ := He.ba e
      exact ⟨d, a, rfl, of_decide_eq_true h1, of_decide_eq_true h2, of_decide_eq_true h3, ea, of_decide_eq_true h4, visB_ok h5, ⟨by simpa using h6, by simpa using h7⟩, by simpa using h8⟩
    · cases e
def Hd.stat (h : Hd) : Bool := h.defs.all (fun d => scB d.N d.ps (defScope d.st) && (chk h.pg.sd d.body ⟨d.N, defScope d.st, true, true, d.lam⟩).ss (defBody d.st)) &&
  h.fns.all (fun x => match h.pg.find x with
    | some d => decide (d.at_ = .glo x)
    | none => false) && (h.errs.all (·.stat) && (decide ((h.errs.map (·.c)).Nodup) && h.lfns.all (lfnB h)))
/-- how a def's arguments are bound -/
structure DefI.Bnd (h : Hd) (d : DefI) : Prop where
  all : ∀ (kV doc pm : Value) (an : Option Addr) (cdv ct : Value) (us : List Value), us.length = d.ps.length → bindArgs (PySem.W.fnOf d.name d.qual (defArgs d.st) (defBody d.st) (defScope d.st) .none kV doc pm an cdv ct) ⟨us, []⟩ = pure (d.ps.zip us)
  kw : ∀ l ks ord, ((d.key, l, ks), ord) ∈ h.kwo → ∀ (kV doc pm : Value) (an : Option Addr) (cdv ct : Value) (us ws : List Value), us.length = l → ws.length = ks.length →
    ∃ ts, ord.mapM (fun i => (us ++ ws)[i]?) = some ts ∧ bindArgs (PySem.W.fnOf d.name d.qual (defArgs d.st) (defBody d.st) (defScope d.st) .none kV doc pm an cdv ct) ⟨us, ks.zip ws⟩ = pure (d.ps.zip ts)
theorem find_err {l : List ErrD} (hn : (l.map (·.c)).Nodup) {e : ErrD} (he : e ∈ l) : (l.find? fun e' => e'.c == e.c) = some e := by
  induction l with
  | nil => cases he
  | cons a r ih =>
    rw [List.map_cons, List.nodup_cons] at hn
    rw [List.find?_cons]
    rcases List.mem_cons.mp he with rfl | he
    · simp
    · have : (a.c == e.c) = false := beq_false_of_ne fun z => hn.1 (z ▸ List.mem_map.mpr ⟨e, he, rfl⟩)
      rw [this]
      exact ih hn.2 he
theorem pgOk_of {h : Hd} {P : Program} {w : World} {K : PySem.W.Frag} {mg : Str → Option Value} {hp : Heap} (st : h.stat = true) (bn : ∀ d ∈ h.defs, d.Bnd h) (be : ∀ e ∈ h.errs, e.Bnd) (top : (P.main.scope.names.lookup ("super" : Str)).isSome = false) (KX : K.In hp) (G : hp.Ns mainGlobals mg) (c : h.obs P.main.file K = h.val w) : PgOk h.pg P w K mg := by
  obtain ⟨c1, ce⟩ := He.ba (show (h.okB K && h.errs.all fun e => e.ok K P.main.file) = true from congrArg (fun z : AlU => z.1) c)
  have c2 : (h.defs.map fun d => fnV K (d.at_.ad K)) = h.defs.map DefI.val := congrArg (fun z : AlU => z.2.1) c
  have c3 : (h.tabs.map fun t => He.dicW K (He.ga K t.1)) = h.tabs.map fun t => some (He.keysIn w.params (t.2.map (·.1))) := congrArg (fun z : AlU => z.2.2.1) c
  have c4 : (h.errs.map fun e => e.obs K) = h.errs.map ErrD.val := congrArg (fun z : AlU => z.2.2.2) c
  unfold Hd.okB at c1
  obtain ⟨k1, c1⟩ := He.ba c1
  obtain ⟨k2, c1⟩ := He.ba c1
  obtain ⟨k3, c1⟩ := He.ba c1
  obtain ⟨k4, c1⟩ := He.ba c1
  obtain ⟨k5, c1⟩ := He.ba c1
  obtain ⟨k6, c1⟩ := He.ba c1
  obtain ⟨k7, c1⟩ := He.ba c1
  obtain ⟨k8, c1⟩ := He.ba c1
  obtain ⟨k9, c1⟩ := He.ba c1
  obtain ⟨k10, c1⟩ := He.ba c1
  obtain ⟨k11, c1⟩ := He.ba c1
  obtain ⟨k12, c1⟩ := He.ba c1
  obtain ⟨k13, c1⟩ := He.ba c1
  obtain ⟨k14, c1⟩ := He.ba c1
  obtain ⟨k15, c1⟩ := He.ba c1
  obtain ⟨k16, c1⟩ := He.ba c1
  obtain ⟨k18, c1⟩ := He.ba c1
  obtain ⟨k20, c1⟩ := He.ba c1
  obtain ⟨k19, k17⟩ := He.ba c1
  obtain ⟨s1', s3⟩ := He.ba st
  obtain ⟨s1, s2⟩ := He.ba s1'
  obtain ⟨s3, s4⟩ := He.ba s3
  obtain ⟨s4, s5⟩ := He.ba s4
  refine ⟨fun d hd => ?_, fun t ht => ?_, fun x hx => ?_, fun x hx => ?_, fun x hx => ?_, fun x hx => ?_, fun x hx => ?_, fun x hx => ?_, fun c m key hx => ?_, fun c m key hx => ?_, fun c key hx => ?_, fun x hx => ?_, fun d hd1 hd2 d' hd3 hd4 e => ?_, fun x hx => ?_, fun cn x k hx => ?_, fun cn x k hx => ?_, fun cn es hx => ?_, fun x m key hx => ?_, fun x m key hx => ?_, fun x f hx => ?_, fun x r b hx => ?_⟩
  · have e : fnV K (d.at_.ad K) = d.val := List.map_inj_left.mp c2 d hd
    obtain ⟨fd, F⟩ := DefI.funD e (List.all_eq_true.mp k1 d hd)
    obtain ⟨s3, s4⟩ := He.ba (List.all_eq_true.mp s1 d hd)
    refine ⟨⟨fd, F, F.bindsN (bn d hd).all, fun l ks ord ho s us ws _ hl hz => ?_⟩, scB_ok s3, s4⟩
    obtain ⟨oc, od, dV, kV, doc, pm, an, cdv, ct, osl, rfl, lk, hcd, hD, hK⟩ := F.ex
    rcases hD with ⟨_, rfl⟩ | ⟨e, _⟩
    · obtain ⟨ts, g1, g2⟩ := (bn d hd).kw l ks ord (lookup_mem ho) kV doc pm an cdv ct us ws hl hz
      exact ⟨ts, g1, .of_eq g2⟩
    · exact absurd rfl e
  · obtain ⟨q, hq, rfl⟩ := List.mem_map.mp ht
    have e : He.dicW K (He.ga K q.1) = some (He.keysIn w.params (q.2.map (·.1))) := List.map_inj_left.mp c3 q hq
    obtain ⟨es, n, D⟩ := He.dicW_ok e
    exact ⟨es, n, D, tabB_ok (List.all_eq_true.mp k11 q hq)⟩
  · exact He.free_ok KX G (List.all_eq_true.mp k2 x hx)
  · obtain ⟨v, hv⟩ := lookup_of_mem hx
    have k := List.all_eq_true.mp k3 _ (lookup_mem hv)
    dsimp only at k
    cases e : PySem.W.nsIn K mainGlobals x with
    | none => rw [e] at k; cases k
    | some r =>
      rw [e] at k
      cases r with
      | none => cases k
      | some u =>
        refine ⟨v.v K, u, ?_, PySem.W.mg_of KX G e, He.relB_ok k⟩
        show (h.globs.lookup x).map (He.Dv.v K) = _
        rw [hv] <;> rfl
  · refine ⟨He.glo_ok KX G (List.all_eq_true.mp k4 x hx), ?_⟩
    have k := List.all_eq_true.mp s2 x hx
    cases e : h.pg.find x with
    | none => rw [e] at k; cases k
    | some d => rw [e] at k; exact ⟨d, rfl, of_decide_eq_true k⟩
  · obtain ⟨k, k'⟩ := He.ba (List.all_eq_true.mp k5 x hx)
    exact ⟨He.glo_ok KX G k, fun t ht => of_decide_eq_true (List.all_eq_true.mp k' t ht)⟩
  · obtain ⟨k, k'⟩ := He.ba (List.all_eq_true.mp k6 x hx)
    obtain ⟨k', k''⟩ := He.ba k'
    exact ⟨He.glo_ok KX G k, k', k''⟩
  · obtain ⟨e, he, rfl⟩ := List.mem_map.mp hx
    obtain ⟨q1, q2⟩ := errI_of (List.all_eq_true.mp s3 e he) (be e he) KX G (List.map_inj_left.mp c4 e he) (List.all_eq_true.mp ce e he) top
    refine ⟨e.fs, _, ?_, q1, q2⟩
    show (h.errs.find? fun e' => e'.c == e.c).map (·.fs) = some e.fs
    rw [find_err (of_decide_eq_true s4) he]
    rfl
  · have k := List.all_eq_true.mp k18 _ (lookup_mem hx)
    cases e : h.pg.find key with
    | none => rw [e] at k; cases k
    | some d =>
      rw [e] at k
      obtain ⟨mc, q, rest, z1, z2, z3⟩ := smtB_ok k
      exact ⟨d, mc, q, rest, rfl, z1, z2, z3⟩
  · have k := List.all_eq_true.mp k20 _ (lookup_mem hx)
    cases e : h.pg.find key with
    | none => rw [e] at k; cases k
    | some d =>
      rw [e] at k
      obtain ⟨mc, q, z1, z2⟩ := cmtB_ok k
      exact ⟨d, mc, q, rfl, z1, z2⟩
  · intro t ht
    have k := List.all_eq_true.mp k19 _ (lookup_mem hx)
    have k2 : (!decide (("__eq__" : Str) = ("__eq__" : Str)) || tyL.all fun t => decide (PySem.W.subIn K (.type t) (.ref (He.ga K c)) = some false)) = true := k
    rw [decide_eq_true rfl, Bool.not_true, Bool.false_or] at k2
    exact of_decide_eq_true (List.all_eq_true.mp k2 t ht)
  · exact ⟨He.glo_ok KX G (List.all_eq_true.mp k16 x hx), lfnB_ok (List.all_eq_true.mp s5 x hx)⟩
  · have z := List.all_eq_true.mp (List.all_eq_true.mp k17 d (List.mem_filter.mpr ⟨hd1, hd2⟩)) d' (List.mem_filter.mpr ⟨hd3, hd4⟩)
    rw [decide_eq_true e] at z
    exact of_decide_eq_true (by simpa using z)
  · exact He.glo_ok KX G (List.all_eq_true.mp k12 x hx)
  · exact of_decide_eq_true (List.all_eq_true.mp k13 _ (lookup_mem hx))
  · obtain ⟨q1, q2⟩ := He.ba (List.all_eq_true.mp k14 _ (lookup_mem hx))
    exact ⟨excB_ok q1, of_decide_eq_true q2⟩
  · have hx : (h.errs.find? fun e' => e'.c == cn).map (·.fs) = some es := hx
    cases z : (h.errs.find? fun e' => e'.c == cn) with
    | none => rw [z] at hx; cases hx
    | some e =>
      rw [z] at hx
      obtain rfl : e.fs = es := Option.some.inj hx
      have ec : e.c = cn := by simpa using List.find?_some z
      obtain ⟨q1, q2⟩ := He.ba (List.all_eq_true.mp k15 _ (List.mem_of_find?_eq_some z))
      rw [ec] at q1 q2
      exact ⟨xfB_ok q1, fun f hf => of_decide_eq_true (List.all_eq_true.mp q2 f hf)⟩
  · have k := List.all_eq_true.mp k7 _ (lookup_mem hx)
    cases e : h.pg.find key with
    | none => rw [e] at k; cases k
    | some d =>
      rw [e] at k
      obtain ⟨q1, q⟩ := He.ba k
      obtain ⟨q2, q3⟩ := He.ba q
      refine ⟨d, rfl, He.cls_ok q1, ?_⟩
      rw [of_decide_eq_true q3]
      exact He.meth_ok q2
  · have k := List.all_eq_true.mp k8 _ (lookup_mem hx)
    cases e : h.pg.find key with
    | none => rw [e] at k; cases k
    | some d =>
      rw [e] at k
      obtain ⟨q1, q⟩ := He.ba k
      obtain ⟨q2, q⟩ := He.ba q
      obtain ⟨q3, q⟩ := He.ba q
      obtain ⟨q4, q5⟩ := He.ba q
      refine ⟨d, rfl, He.cls_ok q1, _, He.eqO_ok q2, He.eqO_ok q3, of_decide_eq_true q4, ?_⟩
      split at q5
      · rename_i g rest e
        rw [← of_decide_eq_true q5]
        exact ⟨rest, e⟩
      · cases q5
  · obtain ⟨q1, q2⟩ := He.ba (List.all_eq_true.mp k9 _ (by simpa [Hd.pg] using hx))
    exact ⟨He.cls_ok q1, He.noat_ok q2⟩
  · obtain ⟨q1, q⟩ := He.ba (List.all_eq_true.mp k10 _ (lookup_mem hx))
    obtain ⟨q2, q⟩ := He.ba q
    obtain ⟨q3, q⟩ := He.ba q
    obtain ⟨q4, q⟩ := He.ba q
    obtain ⟨q5, q6⟩ := He.ba q
    exact ⟨⟨He.cls_ok q1, He.eqO_ok q2, He.eqO_ok q3, of_decide_eq_true q4, of_decide_eq_true q5⟩, of_decide_eq_true q6⟩
/-! ### the end -/
theorem walk_end {l : PySem.W.OpenLaw} {n k : Nat} {q : Program} {loose : List Str} {XP : (Str → Option Value) → Heap → Prop} {YP : World → Heap → Prop} {d : DefRec} {x : Str}
    (hn : l.most = some n) (hn2 : n ≤ sizeLine) (hdf : d.params.defaults = []) (hr : Room k callerA)
    (F : ∀ (w : World) (mg : Str → Option Value) (fa : Addr) (h : Heap), YP w h → h.Ns mainGlobals mg → mg d.name = some (.ref fa) →
      ∃ (K : PySem.W.Frag) (cs : List (Addr × Addr)) (fd : FuncData) (sp : Sp), K.In h ∧ (∀ p ∈ cs, h.get? p.2 = some { cls := .none, data := .fields #[] }) ∧ (∀ p ∈ cs, K.lookup p.2 = none) ∧ (∀ p ∈ cs, PySem.W.CodeHd h p.1 p.2) ∧ (∀ (s : Shared) (u : Value), BindsTo s fd ⟨[u], []⟩ [(x, u)]) ∧
        (∀ (H : Hp) (a : Addr) (ns : List Int), ns.length ≤ n → (∀ z ∈ ns, Builtin.Int.intBits z ≤ 1048576) → (∀ p ∈ cs, H p.2 = some (.tbl #[])) → SqL K H a (ns.map V.int) → sp [.ref a] H (fun v _ => v = .bl true) fun _ _ _ => False) ∧
        ∀ base : Heap, K.In base → base.Ns mainGlobals mg → (∀ p ∈ cs, LamX.TabB base mg p.1 p.2) → FnOk l.prog w K mg base (CX l.prog w) k fa fd [x] sp) :
    PySem.W.WalkO q loose XP YP l.row.toRowW d [] (fun f vs => PySem.call f vs) := by
  refine Att.attach_callB hn hdf fun w s₀ s₁ mg mb fa o pm cd doc a vs ns G Y ho hd hcd hmg hobj hints hlen hbits hg => ?_
  obtain ⟨K, cs, fd, sp, KX, t1, t2, t3, hb, hsp, hF⟩ := F w mg fa _ Y G.T.g hmg
  refine LamX.law_callTs KX G.T.g G.T.b G.T.builtins G.T.nolimit hg t1 t2 t3 G.T.bmain hobj hints (Nat.le_trans hlen hn2) hr hF hb (fun H hH hS => hsp H a ns hlen hbits hH hS) ?_
  intro H e s' ⟨_, _, _, _, _, _, _, _, _, _, _, _, z⟩
  exact z
/-- the promise that must be shown: the law's own text, n calls deep at most -/
def Goal (h : Hd) (n : Nat) : Prop := ∀ (w : World) (K : PySem.W.Frag) (H : Hp) (a : Addr) (ns : List Int), ns.length ≤ 63 → (∀ z ∈ ns, Builtin.Int.intBits z ≤ 1048576) → LamX.Tabs (h.pg.lt K) H → SqL K H a (ns.map V.int) →
  run h.pg K w n "law" [.ref a] H (fun v _ => v = .bl true) fun _ _ _ => False
def Hd.cs (h : Hd) (K : PySem.W.Frag) : List (Addr × Addr) := (h.defs.filter (·.lam)).map fun d => (codeA K d, tabA K d)
theorem law_end {h : Hd} {l : PySem.W.OpenLaw} {q : Program} {loose : List Str} {XP : (Str → Option Value) → Heap → Prop} {d : DefRec} {m n : Nat} {x : Str} {di : DefI} (hn : l.most = some 63) (hdf : d.params.defaults = []) (hnm : d.name = "law") (st : h.stat = true) (bn : ∀ d ∈ h.defs, d.Bnd h) (be : ∀ e ∈ h.errs, e.Bnd) (top : (l.prog.main.scope.names.lookup ("super" : Str)).isSome = false)
    (hr : Room (5 * n + 1) callerA) (hf : h.pg.find "law" = some di) (hps : di.ps = [x]) (hat : di.at_ = .glo "law") (hfn : ("law" : Str) ∈ h.fns) (g : Goal h n) : PySem.W.WalkO q loose XP (h.hook l.prog.main.file m).says l.row.toRowW d [] (fun f vs => PySem.call f vs) := by
  refine walk_end (n := 63) (k := 5 * n + 1) (x := x) hn (by decide) hdf hr fun w mg fa hp Y G hmg => ?_
  obtain ⟨K, KX, c, t⟩ := Y
  have ok : PgOk h.pg l.prog w K mg := pgOk_of st bn be top KX G c
  obtain ⟨e1, _⟩ := ok.fn "law" hfn
  rw [hnm, e1] at hmg
  cases hmg
  obtain ⟨⟨fd, F, _⟩, _⟩ := ok.defs di (find_mem hf).1
  have b := FunD.bindsA (ps := di.ps) F (bn di (find_mem hf).1).all
  have mem : ∀ p ∈ h.cs K, ∃ d ∈ h.defs, d.lam = true ∧ (codeA K d, tabA K d) = p := fun p hp => by
    obtain ⟨d, h1, h2⟩ := List.mem_map.mp hp
    obtain ⟨h3, h4⟩ := List.mem_filter.mp h1
    exact ⟨d, h3, h4, h2⟩
  refine ⟨K, h.cs K, fd, run h.pg K w n "law", KX, fun p hp => ?_, fun p hp => ?_, fun p hp => ?_, fun s u => ?_, fun H a ns h1 h2 h3 h4 => g w K H a ns h1 h2 (fun p hp => ?_) h4, fun base _ _ tb => ?_⟩
  · obtain ⟨d, h1, h2, rfl⟩ := mem p hp
    exact t.empty d h1 h2
  · obtain ⟨d, h1, h2, rfl⟩ := mem p hp
    exact t.out d h1 h2
  · obtain ⟨d, h1, h2, rfl⟩ := mem p hp
    exact PySem.W.codeHd_of_K KX (t.hd d h1 h2)
  · have := b s [u] (by rw [hps] <;> rfl)
    rw [hps] at this
    exact this
  · obtain ⟨d, h1, rfl⟩ := List.mem_map.mp hp
    exact LamX.TabS.nil (h3 (codeA K d, tabA K d) (List.mem_map.mpr ⟨d, h1, rfl⟩))
  · obtain ⟨fd', k1, _, _, _, _, o, k2, k3⟩ := run_ok ok base (fun d h1 h2 => tb (codeA K d, tabA K d) (List.mem_map.mpr ⟨d, List.mem_filter.mpr ⟨h1, h2⟩, rfl⟩)) n "law" di hf
    have e : fd' = fd := by
      obtain ⟨oc, od, dV, kV, doc, pm, an, cdv, ct, osl, e, lk, _⟩ := F.ex
      rw [lk] at k2
      cases k2
      simp at k3
      exact k3.symm
    rw [e, hps, hat] at k1
    exact k1
end U

namespace U
open PySem PySem.Spec PyProof.Rows L2
/-! ### the readings, part by part -/
section
variable {C : Ctx} {W : WX} {σ : St} {H : Hp} {Q : VK} {D : Ends}
theorem e_k {v : V} : (rd C (.k v) W).e σ H Q = Q v H := rfl
theorem e_v {i : Nat} : (rd C (.v i) W).e σ H Q = (match σ[i]? with
      | some (some v) => Q v H
      | _ => False) := rfl
theorem e_g {x : Str} : (rd C (.g x) W).e σ H Q = (match C.gv x with
      | some v => Q v H
      | none => False) := rfl
theorem e_bop {op : Operator} {a b : I} : (rd C (.bop op a b) W).e σ H Q = ((rd C a W).e σ H fun x H1 => (rd C b W).e σ H1 fun y H2 => rBin C.K op x y H2 Q) := rfl
theorem e_uop {op : UnaryOp} {a : I} : (rd C (.uop op a) W).e σ H Q = ((rd C a W).e σ H fun x H1 => rUn op x H1 Q) := rfl
theorem e_not {a : I} : (rd C (.not a) W).e σ H Q = ((rd C a W).e σ H fun x H1 => match x with
      | .bl c => Q (.bl (!c)) H1
      | x => ∃ k, TruV C.K x H1 k ∧ Q (.bl (!k)) H1) := rfl
theorem e_and {a b : I} : (rd C (.and a b) W).e σ H Q = ((rd C a W).e σ H fun x H1 => match x with
      | .bl c => if c = true then (rd C b W).e σ H1 Q else Q (.bl false) H1
      | _ => False) := rfl
theorem e_or {a b : I} : (rd C (.or a b) W).e σ H Q = ((rd C a W).e σ H fun x H1 => match x with
      | .bl c => if c = true then Q (.bl true) H1 else (rd C b W).e σ H1 Q
      | _ => False) := rfl
theorem e_ite {c a b : I} : (rd C (.ite c a b) W).e σ H Q = ((rd C c W).t σ H fun k H1 => if k = true then (rd C a W).e σ H1 Q else (rd C b W).e σ H1 Q) := rfl
theorem e_cmp {op : CmpOp} {a b : I} : (rd C (.cmp op a b) W).e σ H Q = ((rd C a W).e σ H fun x H1 => (rd C b W).e σ H1 fun y H2 => rCmp C.K C.w C.tabs op x y H2 Q) := rfl
theorem e_cmp2 {op op' : CmpOp} {a b c : I} : (rd C (.cmp2 op op' a b c) W).e σ H Q = ((rd C a W).e σ H fun x H1 => (rd C b W).e σ H1 fun y H2 => rCmp C.K C.w C.tabs op x y H2 fun z H3 => match z with
        | .bl k => if k = true then (rd C c W).e σ H3 fun u H4 => rCmp C.K C.w C.tabs op' y u H4 Q else Q (.bl false) H3
        | _ => False) := rfl
theorem e_lst {as : I} : (rd C (.lst as) W).e σ H Q = ((rd C as W).a σ H fun xs H1 => xs.length ≤ sizeLine ∧ ∀ p, H1 p = none → Q (.ref p) (upd H1 p (.lst xs))) := rfl
theorem e_tup {as : I} : (rd C (.tup as) W).e σ H Q = ((rd C as W).a σ H fun xs H1 => xs.length ≤ sizeLine ∧ ∀ p, H1 p = none → Q (.ref p) (upd H1 p (.tup xs))) := rfl
theorem e_dic {ps : I} : (rd C (.dic ps) W).e σ H Q = (match (rd C ps W).p with
      | [] => ∀ p, H p = none → Q (.ref p) (upd H p (.dK []))
      | trs => tDisp trs σ H Q) := rfl
theorem e_call {f : Str} {as : I} : (rd C (.call f as) W).e σ H Q = ((rd C as W).a σ H fun vs H1 => C.fn f vs H1 Q fun cls d H' => W cls d σ H') := rfl
theorem e_mk {c : Str} {as : I} : (rd C (.mk c as) W).e σ H Q = ((rd C as W).a σ H fun vs H1 => ∀ x dx, H1 x = none → H1 dx = none → dx ≠ x →
      ∃ key, C.mth c "__init__" = some key ∧ C.fn key (.ref x :: vs) (upd (upd H1 dx (.own x)) x (.ins (He.ga C.K c) dx [])) (fun v H2 => v = .non ∧ Q (.ref x) H2) fun cls d H' => W cls d σ H') := rfl
theorem e_bi {f : B} {as : I} : (rd C (.bi f as) W).e σ H Q = ((rd C as W).a σ H fun vs H1 => rB C.K f vs H1 Q) := rfl
theorem e_isi {a : I} {cs : List CR} : (rd C (.isi a cs false) W).e σ H Q = ((rd C a W).e σ H fun x H1 => Isi C H1 x cs Q) := rfl
theorem e_meth {o as : I} {m : Str} : (rd C (.meth o m as) W).e σ H Q = ((rd C o W).e σ H fun x H1 => match x with
      | .ref a => ∃ cn dx fs key, H1 a = some (.ins (He.ga C.K cn) dx fs) ∧ C.mth cn m = some key ∧ fs.lookup m = none ∧
          (rd C as W).a σ H1 fun vs H2 => C.fn key (.ref a :: vs) H2 Q fun cls d H' => W cls d σ H'
      | _ => False) := rfl
theorem e_bm {m : M} {o as : I} : (rd C (.bm m o as) W).e σ H Q = ((rd C o W).e σ H fun x H1 => tyV C.K m.T x H1 ∧ (rd C as W).a σ H1 fun vs H2 => rM C.K m x vs H2 Q) := rfl
theorem e_icall {o as zs : I} {ks : List Str} : (rd C (.icall o as ks zs) W).e σ H Q = ((rd C o W).e σ H fun x H1 => match x with
      | .ref a => ∃ cn, (∃ dx fs, H1 a = some (.ins (He.ga C.K cn) dx fs)) ∧ (rd C as W).a σ H1 fun vs H2 => (rd C zs W).a σ H2 fun us H3 => ∃ dx fs key, H3 a = some (.ins (He.ga C.K cn) dx fs) ∧ C.mth cn "__call__" = some key ∧
          kwRun C key ks (.ref a :: vs) us H3 Q (fun cls d H' => W cls d σ H')
      | _ => False) := rfl
theorem e_ostr {a : I} : (rd C (.ostr a) W).e σ H Q = ((rd C a W).e σ H fun x H1 => match x with
      | .ref a => ∃ cn dx fs key, H1 a = some (.ins (He.ga C.K cn) dx fs) ∧ C.mth cn "__str__" = some key ∧ C.fn key [.ref a] H1 (fun v H2 => match v with | .str z => Q (.str z) H2 | _ => False) fun _ _ _ => False
      | _ => False) := rfl
theorem e_att {o : I} {f : Str} : (rd C (.att o f) W).e σ H Q = ((rd C o W).e σ H fun x H1 => rAtt C f (fun cls d H' => W cls d σ H') x H1 Q) := rfl
theorem e_ix {o i : I} : (rd C (.ix o i) W).e σ H Q = ((rd C o W).e σ H fun x H1 => (rd C i W).e σ H1 fun y H2 => rIxU C.K C.w C.tabs x y H2 Q) := rfl
theorem e_sl {o lo hi : I} : (rd C (.sl o lo hi) W).e σ H Q = ((rd C o W).e σ H fun x H1 => (rd C lo W).o σ H1 fun l H2 => (rd C hi W).o σ H2 fun h H3 => rSlU C.K x l h H3 Q) := rfl
theorem e_lc {own : List (Str × Nat)} {elt tg it cond : I} {b : Bool} : (rd C (.lc own elt tg it b cond) W).e σ H Q = ((rd C it W).i σ H fun ok items H1 => ∀ Dl, H1 Dl = none →
      lcGo ok (rd C tg noW).g (rd C tg noW).gs (lcIf b (rd C cond noW).t) (rd C elt noW).e Dl (own.map (·.2)) σ Q items (upd H1 Dl (.lst []))) := rfl
variable {T : Bool → Hp → Prop}
/-- a value's truth, and what follows -/
def trQ (K : PySem.W.Frag) (T : Bool → Hp → Prop) : VK := fun x H' => match x with
      | .bl b => T b H'
      | x => ∃ b, TruV K x H' b ∧ T b H'
def blQ (T : Bool → Hp → Prop) : VK := fun x H' => match x with
      | .bl b => T b H'
      | _ => False
theorem trQ_bl {K : PySem.W.Frag} {b : Bool} : trQ K T (.bl b) H = T b H := rfl
theorem blQ_bl {b : Bool} : blQ T (.bl b) H = T b H := rfl
theorem t_v {i : Nat} : (rd C (.v i) W).t σ H T = (rd C (.v i) W).e σ H (trQ C.K T) := rfl
theorem t_isi {a : I} {cs : List CR} {m : Bool} : (rd C (.isi a cs m) W).t σ H T = (rd C (.isi a cs m) W).e σ H (trQ C.K T) := rfl
theorem t_call {f : Str} {as : I} : (rd C (.call f as) W).t σ H T = (rd C (.call f as) W).e σ H (trQ C.K T) := rfl
theorem t_meth {o as : I} {m : Str} : (rd C (.meth o m as) W).t σ H T = (rd C (.meth o m as) W).e σ H (trQ C.K T) := rfl
theorem t_bop {op : Operator} {a b : I} : (rd C (.bop op a b) W).t σ H T = (rd C (.bop op a b) W).e σ H (trQ C.K T) := rfl
theorem t_bi {f : B} {as : I} : (rd C (.bi f as) W).t σ H T = (rd C (.bi f as) W).e σ H (trQ C.K T) := rfl
theorem t_att {o : I} {f : Str} : (rd C (.att o f) W).t σ H T = (rd C (.att o f) W).e σ H (trQ C.K T) := rfl
theorem t_not {a : I} : (rd C (.not a) W).t σ H T = ((rd C a W).t σ H fun c H1 => T (!c) H1) := rfl
theorem t_and {a b : I} : (rd C (.and a b) W).t σ H T = ((rd C a W).t σ H fun c H1 => if c = true then (rd C b W).t σ H1 T else T false H1) := rfl
theorem t_or {a b : I} : (rd C (.or a b) W).t σ H T = ((rd C a W).t σ H fun c H1 => if c = true then T true H1 else (rd C b W).t σ H1 T) := rfl
theorem t_cmp {op : CmpOp} {a b : I} : (rd C (.cmp op a b) W).t σ H T = ((rd C a W).e σ H fun x H1 => (rd C b W).e σ H1 fun y H2 => rCmp C.K C.w C.tabs op x y H2 (blQ T)) := rfl
theorem t_cmp2 {op op' : CmpOp} {a b c : I} : (rd C (.cmp2 op op' a b c) W).t σ H T = (rd C (.cmp2 op op' a b c) W).e σ H (blQ T) := rfl
variable {A : List V → Hp → Prop}
theorem a_nil' : (rd C .nil W).a σ H A = A [] H := rfl
theorem a_cons {a b : I} : (rd C (.cons a b) W).a σ H A = ((rd C a W).e σ H fun x H1 => (rd C b W).a σ H1 fun xs H2 => A (x :: xs) H2) := rfl
theorem s_nil : (rd C .nil W).s D σ H = D.nx σ H := rfl
theorem s_cons {a b : I} : (rd C (.cons a b) W).s D σ H = (rd C a W).s { D with nx := (rd C b W).s D } σ H := rfl
theorem s_set {g e : I} : (rd C (.set g e) W).s D σ H = ((rd C e W).e σ H fun x H1 => (rd C g W).g x σ H1 D.nx) := rfl
theorem s_setLc {i : Nat} {e : I} : (rd C (.setLc i e) W).s D σ H = ((rd C e W).e σ H fun x H1 => D.nx (σ.set i (some x)) H1) := rfl
theorem s_par {i j : Nat} {as : I} : (rd C (.par i j as) W).s D σ H = ((rd C as W).a σ H fun vs H1 => ∃ v w, vs = [v, w] ∧ D.nx ((σ.set i (some v)).set j (some w)) H1) := rfl
theorem s_expr {e : I} : (rd C (.expr e) W).s D σ H = ((rd C e W).e σ H fun _ H1 => D.nx σ H1) := rfl
theorem s_ret {e : I} : (rd C (.ret e) W).s D σ H = (rd C e W).e σ H D.rt := rfl
theorem s_retN : (rd C .retN W).s D σ H = D.rt .non H := rfl
theorem s_if {c a b : I} : (rd C (.if_ c a b) W).s D σ H = ((rd C c W).t σ H fun k H1 => if k = true then (rd C a W).s D σ H1 else (rd C b W).s D σ H1) := rfl
theorem s_for {tg it b : I} : (rd C (.for_ tg it b) W).s D σ H = ((rd C it W).i σ H fun ok items H1 => forGo ok (rd C tg W).g (rd C tg W).gs (rd C b W).s D items σ H1) := rfl
theorem s_never : (rd C .never W).s D σ H = False := rfl
theorem s_pass : (rd C .pass W).s D σ H = D.nx σ H := rfl
theorem s_brk : (rd C .brk W).s D σ H = D.bk σ H := rfl
theorem s_cont : (rd C .cont W).s D σ H = D.ct σ H := rfl
variable {N : St → Hp → Prop} {v : V} {vs : List V}
theorem g_v' {i : Nat} : (rd C (.v i) W).g v σ H N = N (σ.set i (some v)) H := rfl
theorem g_tup {gs : I} : (rd C (.tupG gs) W).g v σ H N = (match v with
      | .ref a => ∃ xs, SqT C.K H a xs ∧ xs.length = gs.len ∧ (rd C gs W).gs xs σ H N
      | _ => False) := rfl
theorem g_sub {o i : I} : (rd C (.subG o i) W).g v σ H N = ((rd C o W).e σ H fun x H1 => (rd C i W).e σ H1 fun y H2 => rSetU x y v H2 fun H3 => N σ H3) := rfl
theorem g_att {o : I} {f : Str} : (rd C (.attG o f) W).g v σ H N = ((rd C o W).e σ H fun x H1 => match x with
      | .ref a => ∃ cn dx fs, H1 a = some (.ins (He.ga C.K cn) dx fs) ∧ C.fld cn f = true ∧ fs.length < 1000 ∧ N σ (upd H1 a (.ins (He.ga C.K cn) dx (putF f v fs)))
      | _ => False) := rfl
theorem gs_nil : (rd C .nil W).gs vs σ H N = (vs = [] ∧ N σ H) := rfl
theorem gs_cons {a b : I} : (rd C (.cons a b) W).gs vs σ H N = (match vs with
        | v :: r => (rd C a W).g v σ H fun σ' H' => (rd C b W).gs r σ' H' N
        | [] => False) := rfl
theorem gs_tup {gs : I} : (rd C (.tupG gs) W).gs vs σ H N = (vs.length = gs.len ∧ (rd C gs W).gs vs σ H N) := rfl
variable {R : (Hp → Prop) → List It1 → Hp → Prop}
theorem i_L {e : I} : (rd C (.itL e) W).i σ H R = ((rd C e W).e σ H fun x H1 => match x with
      | .ref a => ∃ xs, SqL C.K H1 a xs ∧ R (fun H' => SqL C.K H' a xs) (xs.map .v) H1
      | _ => False) := rfl
theorem i_T {e : I} : (rd C (.itT e) W).i σ H R = ((rd C e W).e σ H fun x H1 => match x with
      | .ref a => ∃ xs, SqT C.K H1 a xs ∧ R (fun H' => SqT C.K H' a xs) (xs.map .v) H1
      | _ => False) := rfl
theorem i_S {e : I} : (rd C (.itS e) W).i σ H R = ((rd C e W).e σ H fun x H1 => match x with
      | .str z => R (fun _ => True) (z.cps.toList.map fun c => .v (.str (S [c]))) H1
      | _ => False) := rfl
theorem i_R1 {a : I} : (rd C (.itR1 a) W).i σ H R = ((rd C a W).e σ H fun x H1 => match x with
      | .int j => -(2 ^ 62) ≤ j ∧ j < 2 ^ 62 ∧ R (fun _ => True) ((List.range j.toNat).map fun i => .v (.int (i : Nat))) H1
      | _ => False) := rfl
theorem i_ES {e : I} : (rd C (.itES e) W).i σ H R = ((rd C e W).e σ H fun x H1 => match x with
      | .str z => R (fun _ => True) (z.cps.toList.zipIdx.map fun p => .t [.int (p.2 : Nat), .str (S [p.1])]) H1
      | _ => False) := rfl
theorem i_E {e : I} : (rd C (.itE e) W).i σ H R = ((rd C e W).e σ H fun x H1 => match x with
      | .ref a => ∃ xs, SqL C.K H1 a xs ∧ R (fun H' => SqL C.K H' a xs) (xs.zipIdx.map fun p => .t [.int (p.2 : Nat), p.1]) H1
      | _ => False) := rfl
theorem i_Z {a b : I} : (rd C (.itZ a b) W).i σ H R = ((rd C a W).e σ H fun x H1 => (rd C b W).e σ H1 fun y H2 => match x, y with
      | .ref p, .ref q => ∃ xs ys, SqL C.K H2 p xs ∧ SqL C.K H2 q ys ∧ R (fun H' => SqL C.K H' p xs ∧ SqL C.K H' q ys) ((xs.zip ys).map fun z => .t [z.1, z.2]) H2
      | _, _ => False) := rfl
theorem p_nil : (rd C .nil W).p = [] := rfl
theorem p_pair {k v r : I} : (rd C (.pair k v r) W).p = ((rd C k W).e, (rd C v W).e) :: (rd C r W).p := rfl
variable {O : Option Int → Hp → Prop}
theorem o_nil : (rd C .nil W).o σ H O = O none H := rfl
theorem o_k {i : Int} : (rd C (.k (.int i)) W).o σ H O = O (some i) H := rfl
/-! walks -/
variable {ok : Hp → Prop} {g : TG} {gs : TGs} {tb : TS} {x : V} {xs : List V} {r : List It1}
theorem for_nil : forGo ok g gs tb D [] σ H = (ok H ∧ D.nx σ H) := rfl
theorem for_v : forGo ok g gs tb D (.v x :: r) σ H = (ok H ∧ g x σ H fun σ2 H2 => tb { D with nx := forGo ok g gs tb D r, ct := forGo ok g gs tb D r, bk := D.nx } σ2 H2) := rfl
theorem for_t : forGo ok g gs tb D (.t xs :: r) σ H = (ok H ∧ ∀ T, H T = none → gs xs σ (upd H T (.tup xs)) fun σ2 H2 => tb { D with nx := forGo ok g gs tb D r, ct := forGo ok g gs tb D r, bk := D.nx } σ2 H2) := rfl
variable {tt : TT} {te : TE} {Dl : Addr} {own : List Nat}
theorem lc_nil : lcGo ok g gs tt te Dl own σ Q [] H = (ok H ∧ Q (.ref Dl) H) := rfl
theorem lc_v : lcGo ok g gs tt te Dl own σ Q (.v x :: r) H = (ok H ∧ g x (wipe σ own) H (lcTurn tt te Dl own σ (lcGo ok g gs tt te Dl own σ Q r))) := rfl
theorem lc_t : lcGo ok g gs tt te Dl own σ Q (.t xs :: r) H = (ok H ∧ ∀ T, H T = none → gs xs (wipe σ own) (upd H T (.tup xs)) (lcTurn tt te Dl own σ (lcGo ok g gs tt te Dl own σ Q r))) := rfl
variable {nx : Hp → Prop} {σ2 : St}
theorem lc_turn0 : lcTurn (lcIf false tt) te Dl own σ nx σ2 H = (wipe σ2 own = wipe σ own ∧ te σ2 H fun y H4 => ∃ acc, H4 Dl = some (.lst acc) ∧ acc.length < sizeLine ∧ nx (upd H4 Dl (.lst (acc ++ [y])))) := by
  unfold lcTurn lcIf
  simp
theorem lc_turn1 : lcTurn (lcIf true tt) te Dl own σ nx σ2 H = (wipe σ2 own = wipe σ own ∧ tt σ2 H fun b H3 => if b = true then te σ2 H3 fun y H4 => ∃ acc, H4 Dl = some (.lst acc) ∧ acc.length < sizeLine ∧ nx (upd H4 Dl (.lst (acc ++ [y]))) else nx H3) := rfl
theorem wipe_nil : wipe σ [] = σ := rfl
theorem wipe_cons {i : Nat} : wipe σ (i :: own) = (wipe σ own).set i none := rfl
end
/-! ### heaps that only grow -/
def Ext (H H' : Hp) : Prop := ∀ a o, H a = some o → H' a = some o
theorem Ext.refl {H : Hp} : Ext H H := fun _ _ h => h
theorem Ext.trans {H H' H'' : Hp} (a : Ext H H') (b : Ext H' H'') : Ext H H'' := fun x o h => b x o (a x o h)
theorem Ext.new {H : Hp} {p : Addr} {o : HO} (h : H p = none) : Ext H (upd H p o) := fun a o' e => by
  rw [upd_ne (ne_of_none e h)]
  exact e
theorem Ext.get {H H' : Hp} {a : Addr} {o : HO} (x : Ext H H') (h : H a = some o) : H' a = some o := x a o h
/-- what is new stays new -/
theorem Ext.put {H H' : Hp} {p : Addr} {o : HO} (x : Ext H H') (h : H p = none) : Ext H (upd H' p o) := fun a o' e => by
  rw [upd_ne (ne_of_none e h)]
  exact x a o' e
theorem none_of {H H' : Hp} {p : Addr} (x : Ext H H') (h : H' p = none) : H p = none := by
  cases e : H p with
  | none => rfl
  | some o => rw [x p o e] at h; cases h
theorem upd_get {H : Hp} {a p : Addr} {o u : HO} (h : H a = some o) (hp : H p = none) : upd H p u a = some o := by
  rw [upd_ne (ne_of_none h hp)]
  exact h
/-! ### one call -/
theorem run_at {p : Pg} {K : PySem.W.Frag} {w : World} {n : Nat} {key : Str} {d : DefI} (h : p.find key = some d) (hn : 1 ≤ n) {vs : List V} {H : Hp} {Q : VK} {E : XK} (hl : vs.length = d.ps.length)
    (hb : (rd (p.ctx K w (run p K w (n - 1))) d.body fun cls dd _ H' => E cls dd H').s { nx := fun _ H' => Q .non H', rt := Q } (start d.N vs) H) : run p K w n key vs H Q E := by
  obtain ⟨m, rfl⟩ : ∃ m, n = m + 1 := ⟨n - 1, by omega⟩
  exact run_of h hl hb
section
variable {p : Pg} {K : PySem.W.Frag} {w : World} {fn : Str → Sp}
theorem x_K : (p.ctx K w fn).K = K := rfl
theorem x_w : (p.ctx K w fn).w = w := rfl
theorem x_fn : (p.ctx K w fn).fn = fn := rfl
theorem x_gv : (p.ctx K w fn).gv = p.gv K := rfl
theorem x_tabs : (p.ctx K w fn).tabs = p.tabs := rfl
theorem x_mth : (p.ctx K w fn).mth = p.mth := rfl
theorem x_prp : (p.ctx K w fn).prp = p.prp := rfl
theorem x_fld : (p.ctx K w fn).fld = p.fld := rfl
theorem x_isi : (p.ctx K w fn).isi = p.isi := rfl
theorem x_kwo : (p.ctx K w fn).kwo = p.kwo := rfl
variable {H : Hp} {Q : VK} {cs : List CR}
theorem isi_int {C : Ctx} {i : Int} : Isi C H (.int i) cs Q = Q (.bl (cs.any (isiT "int"))) H := rfl
theorem isi_str {C : Ctx} {i : Str} : Isi C H (.str i) cs Q = Q (.bl (cs.any (isiT "str"))) H := rfl
theorem isi_bl {C : Ctx} {i : Bool} : Isi C H (.bl i) cs Q = Q (.bl (cs.any (isiT "bool"))) H := rfl
theorem isi_non {C : Ctx} : Isi C H .non cs Q = Q (.bl (cs.any (isiT "NoneType"))) H := rfl
theorem isi_ins {C : Ctx} {a dx : Addr} {cn : Str} {fs : List (Str × V)} {bs : List Bool} (h : H a = some (.ins (He.ga C.K cn) dx fs)) (hb : cs.map (C.isi cn) = bs.map some) (q : Q (.bl (bs.any id)) H) : Isi C H (.ref a) cs Q :=
  .inl ⟨cn, dx, fs, h, bs, hb, q⟩
end
theorem isi_own {C : Ctx} {a dx : Addr} {cn : Str} {fs : List (Str × V)} {c : CR} {b : Bool} {H : Hp} {Q : VK} (h : H a = some (.ins (He.ga C.K cn) dx fs)) (hb : C.isi cn c = some b) (q : Q (.bl b) H) : Isi C H (.ref a) [c] Q :=
  .inl ⟨cn, dx, fs, h, [b], by rw [List.map_cons, List.map_nil, hb]; rfl, by simpa using q⟩
theorem ii1 : [CR.ty "int"].any (isiT "int") = true := by decide +kernel
theorem ii2 : [CR.ty "bool"].any (isiT "int") = false := by decide +kernel
theorem ii3 : [CR.ty "str"].any (isiT "str") = true := by decide +kernel
theorem ii4 {x : Str} {t : String} : [CR.own x].any (isiT t) = false := rfl
theorem ii5 : [CR.ty "str"].any (isiT "int") = false := by decide +kernel
theorem ii6 : [CR.ty "int"].any (isiT "str") = false := by decide +kernel
theorem ii7 : [CR.ty "bool"].any (isiT "str") = false := by decide +kernel
section
variable {K : PySem.W.Frag} {w : World} {T : List KTab} {H : Hp} {Q : VK} {i j : Int}
theorem r_add : rBin K .Add (.int i) (.int j) H Q = Q (.int (i + j)) H := rfl
theorem r_sub : rBin K .Sub (.int i) (.int j) H Q = Q (.int (i - j)) H := rfl
theorem r_mul : rBin K .Mult (.int i) (.int j) H Q = ((CMul i j ∨ CMulW i j) ∧ Q (.int (i * j)) H) := rfl
theorem r_div : rBin K .FloorDiv (.int i) (.int j) H Q = (CDivU i j ∧ Q (.int (i / j)) H) := rfl
theorem r_mod : rBin K .Mod (.int i) (.int j) H Q = (0 < j ∧ Q (.int (i % j)) H) := rfl
theorem r_pow : rBin K .Pow (.int i) (.int j) H Q = (CPow i j ∧ Q (.int (i ^ j.toNat)) H) := rfl
theorem r_shl : rBin K .LShift (.int i) (.int j) H Q = (CPow i j ∧ Q (.int (i * 2 ^ j.toNat)) H) := rfl
theorem r_shr : rBin K .RShift (.int i) (.int j) H Q = (0 ≤ j ∧ Q (.int (i / 2 ^ j.toNat)) H) := rfl
theorem r_and : rBin K .BitAnd (.int i) (.int j) H Q = Q (.int (Builtin.bitAnd i j)) H := rfl
theorem r_or : rBin K .BitOr (.int i) (.int j) H Q = Q (.int (Builtin.bitOr i j)) H := rfl
theorem r_xor : rBin K .BitXor (.int i) (.int j) H Q = Q (.int (Builtin.bitXor i j)) H := rfl
theorem r_neg : rUn .USub (.int i) H Q = Q (.int (-i)) H := rfl
theorem r_inv : rUn .Invert (.int i) H Q = Q (.int (Builtin.bitNot i)) H := rfl
theorem r_lt : rCmp K w T .Lt (.int i) (.int j) H Q = Q (.bl (decide (i < j))) H := rfl
theorem r_le : rCmp K w T .LtE (.int i) (.int j) H Q = Q (.bl (decide (i ≤ j))) H := rfl
theorem r_gt : rCmp K w T .Gt (.int i) (.int j) H Q = Q (.bl (decide (j < i))) H := rfl
theorem r_ge : rCmp K w T .GtE (.int i) (.int j) H Q = Q (.bl (decide (j ≤ i))) H := rfl
theorem r_eqI : rCmp K w T .Eq (.int i) (.int j) H Q = Q (.bl (i == j)) H := rfl
theorem r_neI : rCmp K w T .NotEq (.int i) (.int j) H Q = Q (.bl (!(i == j))) H := rfl
theorem r_eqS {a b : Str} : rCmp K w T .Eq (.str a) (.str b) H Q = Q (.bl (a == b)) H := rfl
theorem r_neS {a b : Str} : rCmp K w T .NotEq (.str a) (.str b) H Q = Q (.bl (!(a == b))) H := rfl
theorem r_inS {a b : Str} : rCmp K w T .In (.str a) (.str b) H Q = Q (.bl (false.xor (inS a b))) H := rfl
theorem r_niS {a b : Str} : rCmp K w T .NotIn (.str a) (.str b) H Q = Q (.bl (true.xor (inS a b))) H := rfl
theorem r_inK {z : Str} {a : Addr} {t : KTab} (ht : t ∈ T) (ha : a = t.at_ K) (q : Q (.bl (t.kvs.lookup z).isSome) H) : rCmp K w T .In (.str z) (.ref a) H Q :=
  Or.inr (Or.inr (Or.inl ⟨z, _, rfl, ⟨t, ht, ha, rfl⟩, by simpa using q⟩))
theorem r_niK {z : Str} {a : Addr} {t : KTab} (ht : t ∈ T) (ha : a = t.at_ K) (q : Q (.bl (!(t.kvs.lookup z).isSome)) H) : rCmp K w T .NotIn (.str z) (.ref a) H Q :=
  Or.inr (Or.inr (Or.inl ⟨z, _, rfl, ⟨t, ht, ha, rfl⟩, by simpa using q⟩))
theorem x_ixK {z : Str} {a : Addr} {t : KTab} {v : V} (ht : t ∈ T) (ha : a = t.at_ K) (hv : t.kvs.lookup z = some v) (q : Q v H) : rIxU K w T (.ref a) (.str z) H Q :=
  Or.inr ⟨v, ⟨t, ht, ha, hv.symm⟩, q⟩
theorem x_ixT {a : Addr} {xs : List V} {v : V} (h : H a = some (.tup xs)) (hv : atI xs i = some v) (q : Q v H) : rIxU K w T (.ref a) (.int i) H Q :=
  Or.inr (Or.inl ⟨xs, .inl (.inl h), v, hv, q⟩)
theorem x_ixL {a : Addr} {xs : List V} {v : V} (h : SqL K H a xs) (hv : atI xs i = some v) (q : Q v H) : rIxU K w T (.ref a) (.int i) H Q :=
  Or.inl ⟨xs, h, v, hv, q⟩
theorem x_ixD {a : Addr} {kvs : List (Key × V)} {z : Str} {v : V} (h : H a = some (.dK kvs)) (hv : valV kvs (.inr z) = some v) (q : Q v H) : rIxU K w T (.ref a) (.str z) H Q :=
  Or.inl ⟨kvs, .inl h, v, hv, q⟩
end
/-! ### attributes -/
theorem x_fldv {p : Pg} {K : PySem.W.Frag} {w : World} {fn : Str → Sp} {f : Str} {E : XK} {a dx : Addr} {cn : Str} {fs : List (Str × V)} {v : V} {H : Hp} {Q : VK} (h : H a = some (.ins (He.ga K cn) dx fs)) (hf : p.fld cn f = true) (hv : fs.lookup f = some v) (q : Q v H) :
    rAtt (p.ctx K w fn) f E (.ref a) H Q := ⟨cn, dx, fs, h, .inl ⟨hf, v, hv, q⟩⟩
theorem x_prpv {p : Pg} {K : PySem.W.Frag} {w : World} {fn : Str → Sp} {f key : Str} {E : XK} {a dx : Addr} {cn : Str} {fs : List (Str × V)} {H : Hp} {Q : VK} (h : H a = some (.ins (He.ga K cn) dx fs)) (hf : p.prp cn f = some key) (q : fn key [.ref a] H Q fun _ _ _ => False) :
    rAtt (p.ctx K w fn) f E (.ref a) H Q := ⟨cn, dx, fs, h, .inr ⟨key, hf, q⟩⟩
end U

namespace U
open PySem PySem.Spec PyProof.Rows L2
section
variable {K : PySem.W.Frag} {w : World} {T : List KTab} {H : Hp} {Q : VK}
theorem cps_S {l : List Nat} : (S l).cps.toList = l := rfl
theorem trQ_int {i : Int} {B : Bool → Hp → Prop} (h : B (i != 0) H) : trQ K B (.int i) H := ⟨_, rfl, h⟩
theorem r_inL {x : V} {p : Addr} {xs : List V} (h : SqL K H p xs ∨ SqT K H p xs) (hx : flatV x = true) (hs : xs.all flatV = true) (q : Q (.bl (inV x xs)) H) : rCmp K w T .In x (.ref p) H Q := by
  have : rIn K false x (.ref p) H Q := ⟨p, xs, rfl, h, hx, hs, by simpa using q⟩
  cases x <;> exact Or.inl this
theorem r_niL {x : V} {p : Addr} {xs : List V} (h : SqL K H p xs ∨ SqT K H p xs) (hx : flatV x = true) (hs : xs.all flatV = true) (q : Q (.bl (!inV x xs)) H) : rCmp K w T .NotIn x (.ref p) H Q := by
  have : rIn K true x (.ref p) H Q := ⟨p, xs, rfl, h, hx, hs, by simpa using q⟩
  cases x <;> exact Or.inl this
theorem r_inD {z : Str} {p : Addr} {kvs : List (Key × V)} (h : H p = some (.dK kvs)) (q : Q (.bl (valV kvs (.inr z)).isSome) H) : rCmp K w T .In (.str z) (.ref p) H Q :=
  Or.inr (Or.inl ⟨kvs, .inr z, .inl h, rfl, by simpa using q⟩)
theorem r_niD {z : Str} {p : Addr} {kvs : List (Key × V)} (h : H p = some (.dK kvs)) (q : Q (.bl (!(valV kvs (.inr z)).isSome)) H) : rCmp K w T .NotIn (.str z) (.ref p) H Q :=
  Or.inr (Or.inl ⟨kvs, .inr z, .inl h, rfl, by simpa using q⟩)
/-- comparison of lists and tuples by what they hold -/
theorem r_eqD {x y : V} {d e : PyData} (hs : scal x y = false) (h1 : Dp K H x d) (h2 : Dp K H y e) (s1 : SeqAt.shaped d = true) (s2 : SeqAt.shaped e = true) (q : Q (.bl (PyData.eqv d e)) H) : rCmp K w T .Eq x y H Q := by
  show rEqU K x y H Q
  unfold rEqU
  rw [hs]
  exact ⟨d, e, h1, h2, s1, s2, q⟩
theorem r_neD {x y : V} {d e : PyData} (hs : scal x y = false) (h1 : Dp K H x d) (h2 : Dp K H y e) (s1 : SeqAt.shaped d = true) (s2 : SeqAt.shaped e = true) (q : Q (.bl (!PyData.eqv d e)) H) : rCmp K w T .NotEq x y H Q := by
  show rNeU K x y H Q
  unfold rNeU
  rw [hs]
  exact ⟨d, e, h1, h2, s1, s2, q⟩
theorem x_slL {a : Addr} {xs : List V} {lo hi : Option Int} (h : SqL K H a xs) (q : ∀ p, H p = none → Q (.ref p) (upd H p (.lst (cutV xs lo hi)))) : rSlU K (.ref a) lo hi H Q := Or.inl ⟨a, xs, rfl, h, q⟩
end
section
variable {ok : Hp → Prop} {g : TG} {gs : TGs} {tt : TT} {te : TE} {Dl : Addr} {own : List Nat} {σ : St} {Q : VK} {H : Hp}
/-- one turn of a comprehension -/
def lcOne (g : TG) (gs : TGs) (tt : TT) (te : TE) (Dl : Addr) (own : List Nat) (σ : St) (nx : Hp → Prop) (H : Hp) : It1 → Prop
  | .v x => g x (wipe σ own) H (lcTurn tt te Dl own σ nx)
  | .t xs => ∀ T, H T = none → gs xs (wipe σ own) (upd H T (.tup xs)) (lcTurn tt te Dl own σ nx)
/-- a comprehension: f what each item gives (none: left out) -/
theorem lcs_inv {f : It1 → Option V} (hok : ∀ H', Ext H H' → ok H') : ∀ (items : List It1) (acc : List V) (H' : Hp), Ext H H' → H' Dl = some (.lst acc) →
    (∀ x ∈ items, ∀ (H' : Hp) (acc : List V) (nx : Hp → Prop), Ext H H' → H' Dl = some (.lst acc) → acc.length < sizeLine → (∀ H'', Ext H H'' → H'' Dl = some (.lst (acc ++ (f x).toList)) → nx H'') → lcOne g gs tt te Dl own σ nx H' x) →
    acc.length + items.length ≤ sizeLine → (∀ H', Ext H H' → H' Dl = some (.lst (acc ++ items.filterMap f)) → Q (.ref Dl) H') → lcGo ok g gs tt te Dl own σ Q items H'
  | [], acc, H', x, e, _, _, q => ⟨hok H' x, q H' x (by rw [e]; simp)⟩
  | i :: r, acc, H', x, e, st, hl, q => by
    rw [List.length_cons] at hl
    have one := st i (List.mem_cons_self ..) H' acc (lcGo ok g gs tt te Dl own σ Q r) x e (by omega) fun H'' x' e' => by
      refine lcs_inv hok r _ H'' x' e' (fun y hy => st y (List.mem_cons_of_mem _ hy)) ?_ fun H3 x3 e3 => q H3 x3 ?_
      · have : (f i).toList.length ≤ 1 := by cases f i <;> simp
        rw [List.length_append]
        omega
      · rw [e3, List.append_assoc]
        cases h : f i <;> simp [h]
    cases i with
    | v y => exact ⟨hok H' x, one⟩
    | t ys => exact ⟨hok H' x, one⟩
/-- a loop: I what holds ahead of each turn -/
theorem fors_inv {D : Ends} {tb : TS} (I : List It1 → St → Hp → Prop) (hok : ∀ l σ H, I l σ H → ok H) : ∀ (items : List It1) (σ : St) (H : Hp), I items σ H →
    (∀ x r σ H, I (x :: r) σ H → ∀ D' : Ends, (∀ σ' H', I r σ' H' → D'.nx σ' H') → (∀ σ' H', I r σ' H' → D'.ct σ' H') → D'.rt = D.rt → D'.bk = D.nx →
      match x with
      | .v y => g y σ H fun σ2 H2 => tb D' σ2 H2
      | .t ys => ∀ T, H T = none → gs ys σ (upd H T (.tup ys)) fun σ2 H2 => tb D' σ2 H2) →
    (∀ σ H, I [] σ H → D.nx σ H) → forGo ok g gs tb D items σ H
  | [], σ, H, i, _, q => ⟨hok _ _ _ i, q σ H i⟩
  | x :: r, σ, H, i, st, q => by
    have one := st x r σ H i { D with nx := forGo ok g gs tb D r, ct := forGo ok g gs tb D r, bk := D.nx } (fun σ' H' i' => fors_inv I hok r σ' H' i' st q) (fun σ' H' i' => fors_inv I hok r σ' H' i' st q) rfl rfl
    cases x with
    | v y => exact ⟨hok _ _ _ i, one⟩
    | t ys => exact ⟨hok _ _ _ i, one⟩
end
/-! ### a suite in two parts -/
def headI : Nat → I → I
  | 0, _ => .nil
  | n + 1, .cons a b => .cons a (headI n b)
  | _ + 1, i => i
def tailI : Nat → I → I
  | 0, i => i
  | n + 1, .cons _ b => tailI n b
  | _ + 1, _ => .nil
def longI : Nat → I → Bool
  | 0, _ => true
  | n + 1, .cons _ b => longI n b
  | _ + 1, _ => false
theorem s_split {C : Ctx} {W : WX} : ∀ (k : Nat) {i : I} (_ : longI k i = true) {D : Ends} {σ : St} {H : Hp}, (rd C i W).s D σ H = (rd C (headI k i) W).s { D with nx := (rd C (tailI k i) W).s D } σ H
  | 0, i, _, D, σ, H => by cases i <;> rfl
  | k + 1, .cons a b, h, D, σ, H => by
    have e : (rd C b W).s D = (rd C (headI k b) W).s { D with nx := (rd C (tailI k b) W).s D } := by
      funext σ H
      exact s_split k (i := b) h
    show (rd C a W).s { D with nx := (rd C b W).s D } σ H = (rd C a W).s { D with nx := (rd C (headI k b) W).s { D with nx := (rd C (tailI k b) W).s D } } σ H
    rw [e]
theorem Ext.upd_of {H H' : Hp} {p : Addr} {o : HO} (x : Ext H H') (h : H' p = none) : Ext H (upd H' p o) := x.trans (Ext.new h)
end U

namespace U
open PySem PySem.Spec PyProof.Rows L2
section
variable {C : Ctx} {W : WX} {σ : St} {H : Hp} {Q : VK} {D : Ends}
theorem e_isiM {a : I} {cs : List CR} : (rd C (.isi a cs true) W).e σ H Q = ((rd C a W).e σ H fun x H1 => ∀ p, H1 p = none → Isi C (upd H1 p (.tup (cs.map fun c => match c with | .ty n => V.ty n | .own x => V.ref (He.ga C.K x)))) x cs Q) := rfl
theorem e_methk {o as zs : I} {m : Str} {ks : List Str} : (rd C (.methk o m as ks zs) W).e σ H Q = ((rd C o W).e σ H fun x H1 => match x with
      | .ref a => ∃ cn dx fs key, H1 a = some (.ins (He.ga C.K cn) dx fs) ∧ C.mth cn m = some key ∧ fs.lookup m = none ∧
          (rd C as W).a σ H1 fun vs H2 => (rd C zs W).a σ H2 fun us H3 => kwRun C key ks (.ref a :: vs) us H3 Q fun cls d H' => W cls d σ H'
      | _ => False) := rfl
theorem e_smeth {as zs : I} {c m : Str} {ks : List Str} : (rd C (.smeth c m as ks zs) W).e σ H Q = (match C.smt c m with
      | some key => (rd C as W).a σ H fun vs H2 => (rd C zs W).a σ H2 fun us H3 => kwRun C key ks vs us H3 Q fun cls d H' => W cls d σ H'
      | none => False) := rfl
theorem e_cmeth {as zs : I} {c m : Str} {ks : List Str} : (rd C (.cmeth c m as ks zs) W).e σ H Q = (match C.cmt c m with
      | some key => (rd C as W).a σ H fun vs H2 => (rd C zs W).a σ H2 fun us H3 => kwRun C key ks (.ref (He.ga C.K c) :: vs) us H3 Q fun cls d H' => W cls d σ H'
      | none => False) := rfl
theorem e_mkv {cs : List Str} {a as : I} : (rd C (.mkv cs a as) W).e σ H Q = ((rd C a W).e σ H fun f H0 => ∃ c, c ∈ cs ∧ f = .ref (He.ga C.K c) ∧ (rd C as W).a σ H0 fun vs H1 => ∀ x dx, H1 x = none → H1 dx = none → dx ≠ x →
      ∃ key, C.mth c "__init__" = some key ∧ kwRun C key [] (.ref x :: vs) [] (upd (upd H1 dx (.own x)) x (.ins (He.ga C.K c) dx [])) (fun v H2 => v = .non ∧ Q (.ref x) H2) fun cls d H' => W cls d σ H') := rfl
theorem e_mkk {c : Str} {as zs : I} {ks : List Str} : (rd C (.mkk c as ks zs) W).e σ H Q = ((rd C as W).a σ H fun vs H0 => (rd C zs W).a σ H0 fun us H1 => ∀ x dx, H1 x = none → H1 dx = none → dx ≠ x →
      ∃ key, C.mth c "__init__" = some key ∧ kwRun C key ks (.ref x :: vs) us (upd (upd H1 dx (.own x)) x (.ins (He.ga C.K c) dx [])) (fun v H2 => v = .non ∧ Q (.ref x) H2) fun cls d H' => W cls d σ H') := rfl
theorem kw_nil {key : Str} {vs us : List V} {E : XK} : kwRun C key [] vs us H Q E = C.fn key vs H Q E := rfl
theorem kw_ok {key k : Str} {ks : List Str} {vs us ts : List V} {ord : List Nat} {E : XK} (hl : us.length = (k :: ks).length) (ho : C.kwo key vs.length (k :: ks) = some ord) (ht : byOrd (vs ++ us) ord = some ts) (h : C.fn key ts H Q E) : kwRun C key (k :: ks) vs us H Q E := ⟨hl, ord, ts, ho, ht, h⟩
theorem e_oeq {a b : I} : (rd C (.oeq a b) W).e σ H Q = ((rd C a W).e σ H fun x H1 => (rd C b W).e σ H1 fun y H2 => rOeq C x y H2 Q) := rfl
theorem e_lamc {f : Str} {b : I} : (rd C (.lamc f b) W).e σ H Q = (LamX.Tabs C.lt H ∧ ∀ H1, LamX.ExtN H H1 → LamX.Tabs C.lt H1 → C.lfn f (fun E H' Q' => (rd C b fun cls d _ H2 => E cls d H2).e σ H' Q') H1 Q) := rfl
theorem e_act {i : Nat} : (rd C (.act i) W).e σ H Q = (match C.lam with
      | some L => L.i = i ∧ σ[i]? = some (some (.ref L.f)) ∧ H L.c = some (LamX.CodeO L.c L.q) ∧ L.T (fun cls d H' => W cls d σ H') H Q
      | none => False) := rfl
theorem e_eatt {o : I} {f : Str} : (rd C (.eatt o f) W).e σ H Q = ((rd C o W).e σ H fun x H1 => match x with
      | .ref a => ∃ cn d fs, H1 a = some (errO a (.ref (He.ga C.K cn)) (some d)) ∧ H1 d = some (.xd fs) ∧ (∃ es, C.xf cn = some es ∧ f ∈ es) ∧ ∃ v, fs.lookup f = some v ∧ Q v H1
      | _ => False) := rfl
theorem e_eisi {o : I} {c : CR} : (rd C (.eisi o c) W).e σ H Q = ((rd C o W).e σ H fun x H1 => match x with
      | .ref a => ∃ cn d fs k, H1 a = some (errO a (.ref (He.ga C.K cn)) (some d)) ∧ H1 d = some (.xd fs) ∧ C.eis cn c = some k ∧ Q (.bl k) H1
      | _ => False) := rfl
theorem s_raise {c : Str} {as : I} : (rd C (.raise c as) W).s D σ H = ((rd C as W).a σ H fun vs H1 => ∃ fs, C.xf c = some fs ∧ vs.length = fs.length ∧ ∀ d, H1 d = none → W (.ref (He.ga C.K c)) (some d) σ (upd H1 d (.xd (fs.zip vs).reverse))) := rfl
theorem s_try {c : Str} {i : Nat} {b s : I} : (rd C (.try_ c i b s) W).s D σ H = ((rd C b fun cls d σ' H' => ∃ cn k, cls = .ref (He.ga C.K cn) ∧ C.exm cn c = some k ∧
      (k = true → ∀ a, H' a = none → (rd C s noW).s ⟨fun σ2 H2 => D.nx (σ2.set i none) H2, D.rt, fun σ2 H2 => D.bk (σ2.set i none) H2, fun σ2 H2 => D.ct (σ2.set i none) H2⟩ (σ'.set i (some (.ref a))) (upd H' a (errO a cls d))) ∧ (k = false → W cls d σ' H')).s D σ H) := rfl
theorem s_par3 {i j l : Nat} {as : I} : (rd C (.par3 i j l as) W).s D σ H = ((rd C as W).a σ H fun vs H1 => ∃ u v w, vs = [u, v, w] ∧ D.nx (((σ.set i (some u)).set j (some v)).set l (some w)) H1) := rfl
theorem s_while {c b : I} : (rd C (.while_ c b) W).s D σ H = tWhile (rd C c W).t (rd C b W).s D σ H := rfl
variable {T : Bool → Hp → Prop}
theorem t_methk {o as zs : I} {m : Str} {ks : List Str} : (rd C (.methk o m as ks zs) W).t σ H T = (rd C (.methk o m as ks zs) W).e σ H (trQ C.K T) := rfl
theorem t_smeth {as zs : I} {c m : Str} {ks : List Str} : (rd C (.smeth c m as ks zs) W).t σ H T = (rd C (.smeth c m as ks zs) W).e σ H (trQ C.K T) := rfl
theorem t_oeq {a b : I} : (rd C (.oeq a b) W).t σ H T = ((rd C a W).e σ H fun x H1 => (rd C b W).e σ H1 fun y H2 => rOeq C x y H2 (blQ T)) := rfl
theorem t_eisi {o : I} {c : CR} : (rd C (.eisi o c) W).t σ H T = (rd C (.eisi o c) W).e σ H (trQ C.K T) := rfl
theorem t_ix {o i : I} : (rd C (.ix o i) W).t σ H T = (rd C (.ix o i) W).e σ H (trQ C.K T) := rfl
theorem t_lc {own : List (Str × Nat)} {elt tg it cond : I} {b : Bool} : (rd C (.lc own elt tg it b cond) W).t σ H T = (rd C (.lc own elt tg it b cond) W).e σ H (trQ C.K T) := rfl
theorem t_icall {o as zs : I} {ks : List Str} : (rd C (.icall o as ks zs) W).t σ H T = (rd C (.icall o as ks zs) W).e σ H (trQ C.K T) := rfl
/-- an end of a slice -/
def oQ (O : Option Int → Hp → Prop) : VK := fun x H' => match x with
      | .int i => O (some i) H'
      | _ => False
variable {O : Option Int → Hp → Prop}
theorem oQ_int {i : Int} : oQ O (.int i) H = O (some i) H := rfl
theorem o_v {i : Nat} : (rd C (.v i) W).o σ H O = (rd C (.v i) W).e σ H (oQ O) := rfl
theorem o_bop {op : Operator} {a b : I} : (rd C (.bop op a b) W).o σ H O = (rd C (.bop op a b) W).e σ H (oQ O) := rfl
theorem o_uop {op : UnaryOp} {a : I} : (rd C (.uop op a) W).o σ H O = (rd C (.uop op a) W).e σ H (oQ O) := rfl
theorem o_bi {f : B} {as : I} : (rd C (.bi f as) W).o σ H O = (rd C (.bi f as) W).e σ H (oQ O) := rfl
theorem o_ix {a b : I} : (rd C (.ix a b) W).o σ H O = (rd C (.ix a b) W).e σ H (oQ O) := rfl
/-! new objects -/
theorem new_lst {xs : List V} {Q : Addr → Hp → Prop} (hl : xs.length ≤ sizeLine) (h : ∀ p H', H p = none → Ext H H' → H' p = some (.lst xs) → Q p H') : xs.length ≤ sizeLine ∧ ∀ p, H p = none → Q p (upd H p (.lst xs)) :=
  ⟨hl, fun p hp => h p _ hp (Ext.new hp) upd_same⟩
theorem new_tup {xs : List V} {Q : Addr → Hp → Prop} (hl : xs.length ≤ sizeLine) (h : ∀ p H', H p = none → Ext H H' → H' p = some (.tup xs) → Q p H') : xs.length ≤ sizeLine ∧ ∀ p, H p = none → Q p (upd H p (.tup xs)) :=
  ⟨hl, fun p hp => h p _ hp (Ext.new hp) upd_same⟩
theorem new_of {o : HO} {Q : Addr → Hp → Prop} (h : ∀ p H', H p = none → Ext H H' → H' p = some o → Q p H') : ∀ p, H p = none → Q p (upd H p o) :=
  fun p hp => h p _ hp (Ext.new hp) upd_same
/-- isinstance against several classes -/
theorem isiM {x : V} {cs : List CR} {Q : VK} (h : ∀ H', Ext H H' → Isi C H' x cs Q) : ∀ p, H p = none → Isi C (upd H p (.tup (cs.map fun c => match c with | .ty n => V.ty n | .own x => V.ref (He.ga C.K x)))) x cs Q :=
  fun p hp => h _ (Ext.new hp)
theorem isi_rd {a : Addr} {o : HO} {t : String} {cs : List CR} (h : Rd H a o) (ht : tyHO o = some t) (q : Q (.bl (cs.any (isiT t))) H) : Isi C H (.ref a) cs Q := .inr ⟨o, h, t, ht, q⟩
/-- raise -/
theorem raise_of {fs : List Str} {c : Str} {vs : List V} {W : Value → Option Addr → Hp → Prop} (hx : C.xf c = some fs) (hl : vs.length = fs.length) (h : ∀ d H', Ext H H' → H' d = some (.xd (fs.zip vs).reverse) → W (.ref (He.ga C.K c)) (some d) H') :
    ∃ fs, C.xf c = some fs ∧ vs.length = fs.length ∧ ∀ d, H d = none → W (.ref (He.ga C.K c)) (some d) (upd H d (.xd (fs.zip vs).reverse)) :=
  ⟨fs, hx, hl, fun d hd => h d _ (Ext.new hd) upd_same⟩
theorem oeq_of {p : Addr} {y : V} {cn key : Str} {dx : Addr} {fs : List (Str × V)} (h : H p = some (.ins (He.ga C.K cn) dx fs)) (hm : C.mth cn "__eq__" = some key) (hy : (tyN y).isSome = true ∨ ∃ q dy gs, y = .ref q ∧ H q = some (.ins (He.ga C.K cn) dy gs))
    (q : C.fn key [.ref p, y] H (fun v H' => match v with | .bl k => Q (.bl k) H' | _ => False) fun _ _ _ => False) : rOeq C (.ref p) y H Q := ⟨cn, dx, fs, key, h, hm, hy, q⟩
theorem oeq_same {p q dx dy : Addr} {cn key : Str} {fs gs : List (Str × V)} (h : H p = some (.ins (He.ga C.K cn) dx fs)) (hm : C.mth cn "__eq__" = some key) (hq : H q = some (.ins (He.ga C.K cn) dy gs))
    (k : C.fn key [.ref p, .ref q] H (fun v H' => match v with | .bl k => Q (.bl k) H' | _ => False) fun _ _ _ => False) : rOeq C (.ref p) (.ref q) H Q := oeq_of h hm (.inr ⟨q, dy, gs, rfl, hq⟩) k
end
section
variable {p : Pg} {K : PySem.W.Frag} {w : World} {fn : Str → Sp} {L : Option LamT}
theorem x_xf : (p.ctx K w fn).xf = p.xf := rfl
theorem x_exm : (p.ctx K w fn).exm = p.exm := rfl
theorem x_eis : (p.ctx K w fn).eis = p.eis := rfl
theorem x_lt : (p.ctx K w fn).lt = p.lt K := rfl
theorem x_lfn : (p.ctx K w fn).lfn = p.lrun K w fn := rfl
theorem x_smt : (p.ctx K w fn).smt = p.smt := rfl
theorem x_cmt : (p.ctx K w fn).cmt = p.cmt := rfl
theorem y_cmt : (p.ctx0 K w fn L).cmt = p.cmt := rfl
theorem y_K : (p.ctx0 K w fn L).K = K := rfl
theorem y_w : (p.ctx0 K w fn L).w = w := rfl
theorem y_fn : (p.ctx0 K w fn L).fn = fn := rfl
theorem y_gv : (p.ctx0 K w fn L).gv = p.gv K := rfl
theorem y_tabs : (p.ctx0 K w fn L).tabs = p.tabs := rfl
theorem y_mth : (p.ctx0 K w fn L).mth = p.mth := rfl
theorem y_prp : (p.ctx0 K w fn L).prp = p.prp := rfl
theorem y_fld : (p.ctx0 K w fn L).fld = p.fld := rfl
theorem y_isi : (p.ctx0 K w fn L).isi = p.isi := rfl
theorem y_kwo : (p.ctx0 K w fn L).kwo = p.kwo := rfl
theorem y_xf : (p.ctx0 K w fn L).xf = p.xf := rfl
theorem y_exm : (p.ctx0 K w fn L).exm = p.exm := rfl
theorem y_eis : (p.ctx0 K w fn L).eis = p.eis := rfl
theorem y_smt : (p.ctx0 K w fn L).smt = p.smt := rfl
theorem y_lam : (p.ctx0 K w fn L).lam = L := rfl
end
section
variable {K : PySem.W.Frag} {H : Hp} {Q : VK}
theorem b_int {i : Int} : rB K .int [.int i] H Q = Q (.int i) H := rfl
theorem b_intB {b : Bool} : rB K .int [.bl b] H Q = Q (.int (if b then 1 else 0)) H := rfl
theorem b_abs {i : Int} : rB K .abs [.int i] H Q = Q (.int (if i < 0 then -i else i)) H := rfl
theorem b_lenL {p : Addr} {xs : List V} (h : SqL K H p xs) (q : Q (.int xs.length) H) : rB K .len [.ref p] H Q := .inl ⟨xs, h, q⟩
theorem b_lenT {p : Addr} {xs : List V} (h : SqT K H p xs) (q : Q (.int xs.length) H) : rB K .len [.ref p] H Q := .inr (.inl ⟨xs, h, q⟩)
theorem b_lenS {z : Str} : rB K .len [.str z] H Q = (z.length ≤ sizeLine ∧ Q (.int z.length) H) := rfl
theorem b_sum {p : Addr} {ns : List Int} (h : SqL K H p (ns.map V.int)) (q : Q (.int ns.sum) H) : rB K .sum [.ref p] H Q := ⟨ns, h, q⟩
end
section
variable {K : PySem.W.Frag} {w : World} {H : Hp} {Q : VK}
theorem it1 : [CR.ty "tuple", CR.ty "list"].any (isiT "int") = false := by decide +kernel
theorem it2 : [CR.ty "tuple", CR.ty "list"].any (isiT "str") = false := by decide +kernel
theorem it3 : [CR.ty "tuple", CR.ty "list"].any (isiT "bool") = false := by decide +kernel
theorem it4 : [CR.ty "tuple", CR.ty "list"].any (isiT "NoneType") = false := by decide +kernel
theorem it5 : [CR.ty "tuple", CR.ty "list"].any (isiT "list") = true := by decide +kernel
theorem it6 : [CR.ty "tuple", CR.ty "list"].any (isiT "tuple") = true := by decide +kernel
theorem it7 : [CR.ty "tuple"].any (isiT "list") = false := by decide +kernel
theorem it8 : [CR.ty "tuple"].any (isiT "tuple") = true := by decide +kernel
theorem it9 : [CR.ty "bool"].any (isiT "bool") = true := by decide +kernel
theorem it10 : [CR.ty "int"].any (isiT "bool") = true := by decide +kernel
theorem it11 : [CR.ty "bool"].any (isiT "NoneType") = false := by decide +kernel
theorem it12 : [CR.ty "int"].any (isiT "NoneType") = false := by decide +kernel
theorem it13 : [CR.ty "str"].any (isiT "NoneType") = false := by decide +kernel
theorem it14 : [CR.ty "int"].any (isiT "tuple") = false := by decide +kernel
theorem it15 : [CR.ty "int"].any (isiT "list") = false := by decide +kernel
theorem it16 : [CR.ty "str"].any (isiT "bool") = false := by decide +kernel
theorem it17 : [CR.ty "str"].any (isiT "tuple") = false := by decide +kernel
theorem it18 : [CR.ty "str"].any (isiT "list") = false := by decide +kernel
theorem r_addS {a b : Str} : rBin K .Add (.str a) (.str b) H Q = (a.length + b.length ≤ sizeLine ∧ Q (.str (a ++ b)) H) := rfl
theorem r_isN {T : List KTab} {x : V} : rCmp K w T .Is x .non H Q = Q (.bl (false.xor (match x with | .non => true | _ => false))) H := rfl
theorem r_eqB {T : List KTab} {x y : Bool} : rCmp K w T .Eq (.bl x) (.bl y) H Q = Q (.bl (x == y)) H := rfl
theorem r_neB {T : List KTab} {x y : Bool} : rCmp K w T .NotEq (.bl x) (.bl y) H Q = Q (.bl (!(x == y))) H := rfl
end
/-! heaps that change at one place -/
def ExtP (p : Addr) (H H' : Hp) : Prop := ∀ a o, a ≠ p → H a = some o → H' a = some o
theorem ExtP.refl {p : Addr} {H : Hp} : ExtP p H H := fun _ _ _ h => h
theorem Ext.toP {p : Addr} {H H' : Hp} (x : Ext H H') : ExtP p H H' := fun a o _ h => x a o h
theorem ExtP.trans {p : Addr} {H H' H'' : Hp} (a : ExtP p H H') (b : ExtP p H' H'') : ExtP p H H'' := fun x o n h => b x o n (a x o n h)
theorem ExtP.put {p : Addr} {H : Hp} {o : HO} : ExtP p H (upd H p o) := fun a o' n h => by rw [upd_ne n]; exact h
theorem ExtP.get {p a : Addr} {o : HO} {H H' : Hp} (x : ExtP p H H') (n : a ≠ p) (h : H a = some o) : H' a = some o := x a o n h
/-- all but dicts of a new kind, and tables -/
def ExtD (p : Addr) (H H' : Hp) : Prop := ∀ a o, a ≠ p → H a = some o → (∀ ps, o ≠ .tbl ps) → H' a = some o
theorem ExtD.refl {p : Addr} {H : Hp} : ExtD p H H := fun _ _ _ h _ => h
theorem ExtD.trans {p : Addr} {H H' H'' : Hp} (a : ExtD p H H') (b : ExtD p H' H'') : ExtD p H H'' := fun x o n h k => b x o n (a x o n h k) k
theorem Ext.toD {p : Addr} {H H' : Hp} (x : Ext H H') : ExtD p H H' := fun a o _ h _ => x a o h
theorem ExtP.toD {p : Addr} {H H' : Hp} (x : ExtP p H H') : ExtD p H H' := fun a o n h _ => x a o n h
theorem extN_D {p : Addr} {H H' : Hp} (x : LamX.ExtN H H') : ExtD p H H' := fun a o _ h k => x a o h k
theorem Ext.toN {H H' : Hp} (x : Ext H H') : LamX.ExtN H H' := fun a o h _ => x a o h
theorem tabs_ext {T : List (Addr × Str)} {H H' : Hp} (t : LamX.Tabs T H) (x : Ext H H') : LamX.Tabs T H' := fun p hp => (t p hp).ext x
theorem tabs_put {T : List (Addr × Str)} {p : Addr} {H H' : Hp} {kvs : List (Key × V)} (h : H p = some (.dK kvs)) (t : LamX.Tabs T H) (x : ExtP p H H') : LamX.Tabs T H' := by
  intro z hz
  obtain ⟨ps, h1, h2, h3⟩ := t z hz
  refine ⟨ps, x _ _ (fun e => ?_) h1, h2, fun pos cv hc => ?_⟩
  · rw [← e, h1] at h
    cases h
  · obtain ⟨c, e1, e2⟩ := h3 pos cv hc
    refine ⟨c, e1, x _ _ (fun e => ?_) e2⟩
    rw [← e, e2] at h
    cases h
theorem Rd.extU {H H' : Hp} {a : Addr} {o : HO} (x : Ext H H') (h : Rd H a o) : Rd H' a o := by
  rcases h with h | ⟨z, h⟩
  · exact .inl (x.get h)
  · exact .inr ⟨z, x.get h⟩
theorem SqL.extU {K : PySem.W.Frag} {H H' : Hp} {a : Addr} {xs : List V} (x : Ext H H') (h : SqL K H a xs) : SqL K H' a xs := by
  rcases h with h | h
  · exact .inl (Rd.extU x h)
  · exact .inr h
theorem SqT.extU {K : PySem.W.Frag} {H H' : Hp} {a : Addr} {xs : List V} (x : Ext H H') (h : SqT K H a xs) : SqT K H' a xs := by
  rcases h with h | h
  · exact .inl (Rd.extU x h)
  · exact .inr h
mutual
theorem Dp.ext {K : PySem.W.Frag} {H H' : Hp} (x : Ext H H') : ∀ {v : V} {d : PyData}, Dp K H v d → Dp K H' v d
  | _, _, .non => .non
  | _, _, .bl b => .bl b
  | _, _, .int b => .int b
  | _, _, .str b => .str b
  | _, _, .lst h hs => .lst (SqL.extU x h) (DpAll.ext x hs)
  | _, _, .tup h hs => .tup (SqT.extU x h) (DpAll.ext x hs)
theorem DpAll.ext {K : PySem.W.Frag} {H H' : Hp} (x : Ext H H') : ∀ {v : List V} {d : List PyData}, DpAll K H v d → DpAll K H' v d
  | _, _, .nil => .nil
  | _, _, .cons h hs => .cons (Dp.ext x h) (DpAll.ext x hs)
end
end U

namespace U
open PySem PySem.Spec PyProof.Rows L2
/-! names -/
abbrev s__law_bag : Str := S [95, 108, 97, 119, 95, 98, 97, 103]
abbrev s__law_draw : Str := S [95, 108, 97, 119, 95, 100, 114, 97, 119]
abbrev s__law_right : Str := S [95, 108, 97, 119, 95, 114, 105, 103, 104, 116]
abbrev s__law_spoilt : Str := S [95, 108, 97, 119, 95, 115, 112, 111, 105, 108, 116]
abbrev s__law_same : Str := S [95, 108, 97, 119, 95, 115, 97, 109, 101]
abbrev s__law_heard : Str := S [95, 108, 97, 119, 95, 104, 101, 97, 114, 100]
abbrev s_Mode : Str := S [77, 111, 100, 101]
abbrev s_read : Str := S [114, 101, 97, 100]
abbrev s__law_due : Str := S [95, 108, 97, 119, 95, 100, 117, 101]
abbrev s_text : Str := S [116, 101, 120, 116]
abbrev s_number : Str := S [110, 117, 109, 98, 101, 114]
abbrev s_ModesError : Str := S [77, 111, 100, 101, 115, 69, 114, 114, 111, 114]
abbrev s_BadInput : Str := S [66, 97, 100, 73, 110, 112, 117, 116]
abbrev s_NoWay : Str := S [78, 111, 87, 97, 121]
abbrev s_BadMode : Str := S [66, 97, 100, 77, 111, 100, 101]
abbrev s_BadText : Str := S [66, 97, 100, 84, 101, 120, 116]
abbrev s_part : Str := S [112, 97, 114, 116]
abbrev s_line : Str := S [108, 105, 110, 101]
abbrev s_word : Str := S [119, 111, 114, 100]
abbrev s_SIGNS : Str := S [83, 73, 71, 78, 83]
abbrev s_at : Str := S [97, 116]
abbrev s_sign : Str := S [115, 105, 103, 110]
abbrev s_is_integer : Str := S [105, 115, 95, 105, 110, 116, 101, 103, 101, 114]
abbrev s_GREATEST : Str := S [71, 82, 69, 65, 84, 69, 83, 84]
abbrev s_bits : Str := S [98, 105, 116, 115]
abbrev s_law : Str := S [108, 97, 119]
abbrev s__law_script : Str := S [95, 108, 97, 119, 95, 115, 99, 114, 105, 112, 116]
abbrev s__law_bag_here : Str := S [95, 108, 97, 119, 95, 98, 97, 103, 95, 104, 101, 114, 101]
abbrev s__law_k : Str := S [95, 108, 97, 119, 95, 107]
abbrev s__law_signs : Str := S [95, 108, 97, 119, 95, 115, 105, 103, 110, 115]
abbrev s__law_at : Str := S [95, 108, 97, 119, 95, 97, 116]
abbrev s__law_turn : Str := S [95, 108, 97, 119, 95, 116, 117, 114, 110]
abbrev s__law_odd : Str := S [95, 108, 97, 119, 95, 111, 100, 100]
abbrev s__law_state : Str := S [95, 108, 97, 119, 95, 115, 116, 97, 116, 101]
abbrev s__law_cell : Str := S [95, 108, 97, 119, 95, 99, 101, 108, 108]
abbrev s__law_limit : Str := S [95, 108, 97, 119, 95, 108, 105, 109, 105, 116]
abbrev s__law_mixed : Str := S [95, 108, 97, 119, 95, 109, 105, 120, 101, 100]
abbrev s__law_found : Str := S [95, 108, 97, 119, 95, 102, 111, 117, 110, 100]
abbrev s__law_due_here : Str := S [95, 108, 97, 119, 95, 100, 117, 101, 95, 104, 101, 114, 101]
abbrev s__law_told : Str := S [95, 108, 97, 119, 95, 116, 111, 108, 100]
abbrev s__law_sign : Str := S [95, 108, 97, 119, 95, 115, 105, 103, 110]
abbrev s__law_way : Str := S [95, 108, 97, 119, 95, 119, 97, 121]
abbrev s__law_actual : Str := S [95, 108, 97, 119, 95, 97, 99, 116, 117, 97, 108]
abbrev s__law_expected : Str := S [95, 108, 97, 119, 95, 101, 120, 112, 101, 99, 116, 101, 100]
abbrev s__law_ask : Str := S [95, 108, 97, 119, 95, 97, 115, 107]
abbrev s_error : Str := S [101, 114, 114, 111, 114]
abbrev s__law_marks : Str := S [95, 108, 97, 119, 95, 109, 97, 114, 107, 115]
abbrev s_Mode_read : Str := S [77, 111, 100, 101, 46, 114, 101, 97, 100]
abbrev s_cls : Str := S [99, 108, 115]
abbrev s__law_number : Str := S [95, 108, 97, 119, 95, 110, 117, 109, 98, 101, 114]
abbrev s_Mode___init__ : Str := S [77, 111, 100, 101, 46, 95, 95, 105, 110, 105, 116, 95, 95]
abbrev s_self : Str := S [115, 101, 108, 102]
abbrev s_Mode___str__ : Str := S [77, 111, 100, 101, 46, 95, 95, 115, 116, 114, 95, 95]
abbrev s_Mode_number : Str := S [77, 111, 100, 101, 46, 110, 117, 109, 98, 101, 114]
abbrev s_thing : Str := S [116, 104, 105, 110, 103]
abbrev s_low : Str := S [108, 111, 119]
abbrev s_high : Str := S [104, 105, 103, 104]
abbrev s_range : Str := S [114, 97, 110, 103, 101]
abbrev s_int : Str := S [105, 110, 116]
abbrev s_abs : Str := S [97, 98, 115]
abbrev s_list : Str := S [108, 105, 115, 116]
abbrev s_len : Str := S [108, 101, 110]
abbrev s_str : Str := S [115, 116, 114]
abbrev s_isinstance : Str := S [105, 115, 105, 110, 115, 116, 97, 110, 99, 101]
abbrev s_tuple : Str := S [116, 117, 112, 108, 101]
abbrev s_bool : Str := S [98, 111, 111, 108]
abbrev s_ValueError : Str := S [86, 97, 108, 117, 101, 69, 114, 114, 111, 114]
abbrev s_enumerate : Str := S [101, 110, 117, 109, 101, 114, 97, 116, 101]
abbrev s_sum : Str := S [115, 117, 109]
abbrev s___init__ : Str := S [95, 95, 105, 110, 105, 116, 95, 95]
abbrev s___str__ : Str := S [95, 95, 115, 116, 114, 95, 95]
abbrev s_BadText___init__ : Str := S [66, 97, 100, 84, 101, 120, 116, 46, 95, 95, 105, 110, 105, 116, 95, 95]
abbrev s_BadMode___init__ : Str := S [66, 97, 100, 77, 111, 100, 101, 46, 95, 95, 105, 110, 105, 116, 95, 95]
/-! the text -/
abbrev pw : Program := PySem.Challenge.pw_modesdown_k02_modes_read
def top (i : Nat) : Stmt := pw.main.body.getD i (.Pass ⟨0, 0, 0, 0⟩)
def b_law : I := (.cons (.set (.v 1) (.call s__law_bag (.cons (.v 0) .nil))) (.cons (.for_ (.v 2) (.itR1 (.k (V.int 8))) (.cons (.set (.v 3) (.k (V.str (S [])))) (.cons (.for_ (.v 4) (.itR1 (.k (V.int 9))) (.cons (.set (.v 3) (.bop .Add (.v 3) (.ix (.lst (.cons (.k (V.str (S [45]))) (.cons (.ix (.k (V.str (S [114, 119, 120]))) (.bop .Sub (.v 4) (.bop .Mult (.bop .FloorDiv (.v 4) (.k (V.int 3))) (.k (V.int 3))))) .nil))) (.call s__law_draw (.cons (.v 1) (.cons (.k (V.int 2)) .nil)))))) .nil)) (.cons (.if_ (.not (.call s__law_right (.cons (.v 3) .nil))) (.cons (.ret (.k (V.bl false))) .nil) .nil) (.cons (.for_ (.v 5) (.itR1 (.k (V.int 2))) (.cons (.set (.v 3) (.call s__law_spoilt (.cons (.v 1) (.cons (.v 3) .nil)))) (.cons (.if_ (.not (.call s__law_right (.cons (.v 3) .nil))) (.cons (.ret (.k (V.bl false))) .nil) .nil) .nil))) .nil))))) (.cons (.set (.v 6) (.ix (.lst (.cons (.k V.non) (.cons (.k (V.int 0)) (.cons (.k (V.int 511)) (.cons (.k (V.bl true)) (.cons (.lst .nil) (.cons (.bop .Mult (.lst (.cons (.k (V.str (S [114]))) .nil)) (.k (V.int 9))) (.cons (.tup (.cons (.k (V.str (S [114, 119, 120, 114, 119, 120, 114, 119, 120]))) .nil)) (.cons (.dic .nil) .nil))))))))) (.call s__law_draw (.cons (.v 1) (.cons (.k (V.int 8)) .nil))))) (.cons (.if_ (.not (.call s__law_same (.cons (.lamc s__law_heard (.cmeth s_Mode s_read (.cons (.v 6) .nil) [] .nil)) (.cons (.tup (.cons (.k (V.str (S [116, 101, 120, 116]))) (.cons (.k (V.int 0)) (.cons (.k (V.int 0)) .nil)))) .nil)))) (.cons (.ret (.k (V.bl false))) .nil) .nil) (.cons (.ret (.and (.call s__law_right (.cons (.k (V.str (S []))) .nil)) (.and (.call s__law_right (.cons (.k (V.str (S [114, 119, 120, 114, 119, 120, 114, 119, 120]))) .nil)) (.and (.call s__law_right (.cons (.k (V.str (S [45, 45, 45, 45, 45, 45, 45, 45, 45]))) .nil)) (.call s__law_right (.cons (.k (V.str (S [114, 119, 120, 114, 119, 120, 114, 119, 120, 45]))) .nil)))))) .nil)))))
def d_law : DefI := ⟨s_law, .glo s_law, s_law, s_law, top 23, [s__law_script, s__law_bag_here, s__law_k, s__law_signs, s__law_at, s__law_turn, s__law_odd], [s__law_script], b_law, true⟩
def b__law_bag : I := (.cons (.set (.v 1) (.k (V.int 7))) (.cons (.for_ (.v 2) (.itL (.sl (.v 0) .nil (.k (V.int 63)))) (.cons (.set (.v 1) (.bop .Mod (.bi .int (.cons (.bop .Add (.bop .Add (.bop .Mult (.v 1) (.k (V.int 69621))) (.bop .Mod (.bi .abs (.cons (.v 2) .nil)) (.k (V.int 2147483629)))) (.k (V.int 11))) .nil)) (.k (V.int 2147483647)))) .nil)) (.cons (.ret (.dic (.pair (.k (V.str (S [99, 101, 108, 108, 115]))) (.bi .list (.cons (.sl (.v 0) .nil (.k (V.int 63))) .nil)) (.pair (.k (V.str (S [97, 116]))) (.k (V.int 0)) (.pair (.k (V.str (S [114, 101, 115, 116]))) (.k (V.int 0)) (.pair (.k (V.str (S [115, 116, 97, 116, 101]))) (.v 1) .nil)))))) .nil)))
def d__law_bag : DefI := ⟨s__law_bag, .glo s__law_bag, s__law_bag, s__law_bag, top 16, [s__law_script, s__law_state, s__law_cell], [s__law_script], b__law_bag, false⟩
def b__law_draw : I := (.cons (.while_ (.and (.cmp .Lt (.ix (.v 0) (.k (V.str (S [114, 101, 115, 116])))) (.k (V.int 2))) (.cmp .Lt (.ix (.v 0) (.k (V.str (S [97, 116])))) (.bi .len (.cons (.ix (.v 0) (.k (V.str (S [99, 101, 108, 108, 115])))) .nil)))) (.cons (.set (.v 2) (.bi .abs (.cons (.ix (.ix (.v 0) (.k (V.str (S [99, 101, 108, 108, 115])))) (.ix (.v 0) (.k (V.str (S [97, 116]))))) .nil))) (.cons (.set (.subG (.v 0) (.k (V.str (S [97, 116])))) (.bop .Add (.ix (.v 0) (.k (V.str (S [97, 116])))) (.k (V.int 1)))) (.cons (.if_ (.cmp .Lt (.v 2) (.bop .Pow (.k (V.int 10)) (.k (V.int 18)))) (.cons (.set (.v 3) (.bop .Mod (.bi .int (.cons (.bop .Add (.bop .Pow (.bop .Add (.v 2) (.k (V.int 3))) (.k (V.int 3))) (.bop .Mult (.ix (.v 0) (.k (V.str (S [115, 116, 97, 116, 101])))) (.bop .Add (.ix (.v 0) (.k (V.str (S [97, 116])))) (.k (V.int 1))))) .nil)) (.k (V.int 2147483629)))) (.cons (.ret (.bop .Mod (.v 3) (.v 1))) .nil)) .nil) (.cons (.set (.subG (.v 0) (.k (V.str (S [114, 101, 115, 116])))) (.v 2)) .nil))))) (.cons (.if_ (.cmp .GtE (.ix (.v 0) (.k (V.str (S [114, 101, 115, 116])))) (.k (V.int 2))) (.cons (.set (.v 4) (.bop .Mod (.bi .int (.cons (.ix (.v 0) (.k (V.str (S [114, 101, 115, 116])))) .nil)) (.v 1))) (.cons (.set (.subG (.v 0) (.k (V.str (S [114, 101, 115, 116])))) (.bop .FloorDiv (.ix (.v 0) (.k (V.str (S [114, 101, 115, 116])))) (.v 1))) (.cons (.ret (.v 4)) .nil))) .nil) (.cons (.set (.subG (.v 0) (.k (V.str (S [115, 116, 97, 116, 101])))) (.bop .Mod (.bi .int (.cons (.bop .Add (.bop .Mult (.ix (.v 0) (.k (V.str (S [115, 116, 97, 116, 101])))) (.k (V.int 48271))) (.k (V.int 13))) .nil)) (.k (V.int 2147483647)))) (.cons (.ret (.bop .Mod (.bop .Mod (.bi .int (.cons (.bop .Pow (.ix (.v 0) (.k (V.str (S [115, 116, 97, 116, 101])))) (.k (V.int 5))) .nil)) (.k (V.int 2147483629))) (.v 1))) .nil))))
def d__law_draw : DefI := ⟨s__law_draw, .glo s__law_draw, s__law_draw, s__law_draw, top 17, [s__law_bag_here, s__law_limit, s__law_cell, s__law_mixed, s__law_found], [s__law_bag_here, s__law_limit], b__law_draw, false⟩
def b__law_right : I := (.cons (.set (.v 1) (.call s__law_due (.cons (.v 0) .nil))) (.cons (.set (.v 2) (.lst (.cons (.lamc s__law_heard (.cmeth s_Mode s_read (.cons (.v 0) .nil) [] .nil)) .nil))) (.cons (.expr (.bm .append (.v 2) (.cons (.lamc s__law_heard (.cmeth s_Mode s_read .nil [s_text] (.cons (.v 0) .nil))) .nil))) (.cons (.for_ (.v 3) (.itL (.v 2)) (.cons (.if_ (.cmp .Eq (.ix (.v 1) (.k (V.int 0))) (.k (V.str (S [116, 111, 108, 100])))) (.cons (.if_ (.or (.cmp .NotEq (.ix (.v 3) (.k (V.int 0))) (.k (V.str (S [116, 111, 108, 100])))) (.not (.call s__law_same (.cons (.lst (.cons (.att (.ix (.v 3) (.k (V.int 1))) s_number) (.cons (.ostr (.ix (.v 3) (.k (V.int 1)))) .nil))) (.cons (.lst (.cons (.ix (.v 1) (.k (V.int 1))) (.cons (.v 0) .nil))) .nil))))) (.cons (.ret (.k (V.bl false))) .nil) .nil) .nil) (.cons (.if_ (.not (.call s__law_same (.cons (.v 3) (.cons (.v 1) .nil)))) (.cons (.ret (.k (V.bl false))) .nil) .nil) .nil)) .nil)) (.cons (.ret (.k (V.bl true))) .nil)))))
def d__law_right : DefI := ⟨s__law_right, .glo s__law_right, s__law_right, s__law_right, top 21, [s__law_signs, s__law_due_here, s__law_told, s__law_found], [s__law_signs], b__law_right, true⟩
def b__law_spoilt : I := (.cons (.set (.v 2) (.call s__law_draw (.cons (.v 0) (.cons (.bop .Add (.bi .len (.cons (.v 1) .nil)) (.k (V.int 1))) .nil)))) (.cons (.set (.v 3) (.ix (.k (V.str (S [114, 119, 120, 45, 115, 83, 116, 84, 32, 48, 82, 88, 10]))) (.call s__law_draw (.cons (.v 0) (.cons (.k (V.int 13)) .nil))))) (.cons (.set (.v 4) (.call s__law_draw (.cons (.v 0) (.cons (.k (V.int 5)) .nil)))) (.cons (.if_ (.cmp .Eq (.v 4) (.k (V.int 0))) (.cons (.ret (.bop .Add (.sl (.v 1) .nil (.v 2)) (.sl (.v 1) (.bop .Add (.v 2) (.k (V.int 1))) .nil))) .nil) .nil) (.cons (.if_ (.cmp .Eq (.v 4) (.k (V.int 1))) (.cons (.ret (.bop .Add (.bop .Add (.sl (.v 1) .nil (.v 2)) (.sl (.v 1) (.v 2) (.bop .Add (.v 2) (.k (V.int 1))))) (.sl (.v 1) (.v 2) .nil))) .nil) .nil) (.cons (.if_ (.cmp .Eq (.v 4) (.k (V.int 2))) (.cons (.ret (.bop .Add (.bop .Add (.sl (.v 1) .nil (.v 2)) (.v 3)) (.sl (.v 1) (.v 2) .nil))) .nil) .nil) (.cons (.ret (.bop .Add (.bop .Add (.sl (.v 1) .nil (.v 2)) (.v 3)) (.sl (.v 1) (.bop .Add (.v 2) (.k (V.int 1))) .nil))) .nil)))))))
def d__law_spoilt : DefI := ⟨s__law_spoilt, .glo s__law_spoilt, s__law_spoilt, s__law_spoilt, top 22, [s__law_bag_here, s__law_signs, s__law_at, s__law_sign, s__law_way], [s__law_bag_here, s__law_signs], b__law_spoilt, false⟩
def b__law_same : I := (.cons (.if_ (.isi (.v 1) [(CR.ty "tuple"), (CR.ty "list")] true) (.cons (.if_ (.or (.cmp .NotEq (.isi (.v 1) [(CR.ty "tuple")] false) (.isi (.v 0) [(CR.ty "tuple")] false)) (.not (.isi (.v 0) [(CR.ty "tuple"), (CR.ty "list")] true))) (.cons (.ret (.k (V.bl false))) .nil) .nil) (.cons (.if_ (.cmp .NotEq (.bi .len (.cons (.v 0) .nil)) (.bi .len (.cons (.v 1) .nil))) (.cons (.ret (.k (V.bl false))) .nil) .nil) (.cons (.for_ (.v 2) (.itR1 (.bi .len (.cons (.v 1) .nil))) (.cons (.if_ (.not (.call s__law_same (.cons (.ix (.v 0) (.v 2)) (.cons (.ix (.v 1) (.v 2)) .nil)))) (.cons (.ret (.k (V.bl false))) .nil) .nil) .nil)) (.cons (.ret (.k (V.bl true))) .nil)))) .nil) (.cons (.if_ (.cmp .Is (.v 1) (.k V.non)) (.cons (.ret (.cmp .Is (.v 0) (.k V.non))) .nil) .nil) (.cons (.if_ (.isi (.v 1) [(CR.ty "bool")] false) (.cons (.ret (.and (.isi (.v 0) [(CR.ty "bool")] false) (.cmp .Eq (.v 0) (.v 1)))) .nil) .nil) (.cons (.if_ (.isi (.v 1) [(CR.ty "int")] false) (.cons (.ret (.and (.isi (.v 0) [(CR.ty "int")] false) (.and (.not (.isi (.v 0) [(CR.ty "bool")] false)) (.cmp .Eq (.v 0) (.v 1))))) .nil) .nil) (.cons (.ret (.and (.isi (.v 0) [(CR.ty "str")] false) (.cmp .Eq (.v 0) (.v 1)))) .nil)))))
def d__law_same : DefI := ⟨s__law_same, .glo s__law_same, s__law_same, s__law_same, top 18, [s__law_actual, s__law_expected, s__law_k], [s__law_actual, s__law_expected], b__law_same, false⟩
def b__law_heard : I := (.cons (.try_ s_ModesError 1 (.cons (.ret (.tup (.cons (.k (V.str (S [116, 111, 108, 100]))) (.cons (.act 0) .nil)))) .nil) (.cons (.set (.v 2) (.lst (.cons (.eisi (.v 1) (CR.own s_BadInput)) (.cons (.eisi (.v 1) (CR.own s_NoWay)) (.cons (.eisi (.v 1) (CR.ty "ValueError")) .nil))))) (.cons (.if_ (.cmp .NotEq (.v 2) (.lst (.cons (.k (V.bl true)) (.cons (.k (V.bl false)) (.cons (.k (V.bl true)) .nil))))) (.cons (.ret (.tup (.cons (.k (V.str (S [111, 100, 100]))) .nil))) .nil) .nil) (.cons (.if_ (.and (.eisi (.v 1) (CR.own s_BadMode)) (.not (.eisi (.v 1) (CR.own s_BadText)))) (.cons (.ret (.tup (.cons (.k (V.str (S [109, 111, 100, 101]))) (.cons (.eatt (.v 1) s_part) .nil)))) .nil) .nil) (.cons (.if_ (.eisi (.v 1) (CR.own s_BadText)) (.cons (.ret (.tup (.cons (.k (V.str (S [116, 101, 120, 116]))) (.cons (.eatt (.v 1) s_line) (.cons (.eatt (.v 1) s_word) .nil))))) .nil) .nil) .nil))))) (.cons (.ret (.tup (.cons (.k (V.str (S [111, 100, 100]))) .nil))) .nil))
def d__law_heard : DefI := ⟨s__law_heard, .glo s__law_heard, s__law_heard, s__law_heard, top 19, [s__law_ask, s_error, s__law_marks], [s__law_ask], b__law_heard, false⟩
def b_Mode_read : I := (.cons (.if_ (.not (.isi (.v 1) [(CR.ty "str")] false)) (.cons (.raise s_BadText (.cons (.k (V.int 0)) (.cons (.k (V.int 0)) .nil))) .nil) .nil) (.cons (.for_ (.tupG (.cons (.v 2) (.cons (.v 3) .nil))) (.itES (.g s_SIGNS)) (.cons (.if_ (.or (.cmp .GtE (.v 2) (.bi .len (.cons (.v 1) .nil))) (.cmp .NotIn (.ix (.v 1) (.v 2)) (.tup (.cons (.v 3) (.cons (.k (V.str (S [45]))) .nil))))) (.cons (.raise s_BadText (.cons (.k (V.int 0)) (.cons (.v 2) .nil))) .nil) .nil) .nil)) (.cons (.if_ (.cmp .Gt (.bi .len (.cons (.v 1) .nil)) (.bi .len (.cons (.g s_SIGNS) .nil))) (.cons (.raise s_BadText (.cons (.k (V.int 0)) (.cons (.bi .len (.cons (.g s_SIGNS) .nil)) .nil))) .nil) .nil) (.cons (.ret (.mkv [s_Mode] (.v 0) (.cons (.bi .sum (.cons (.lc [(s_at, 2), (s_sign, 3)] (.bop .LShift (.k (V.int 1)) (.bop .Sub (.k (V.int 8)) (.v 2))) (.tupG (.cons (.v 2) (.cons (.v 3) .nil))) (.itES (.v 1)) true (.cmp .NotEq (.v 3) (.k (V.str (S [45]))))) .nil)) .nil))) .nil))))
def d_Mode_read : DefI := ⟨s_Mode_read, .cmt s_Mode s_read, s_read, s_Mode_read, inClass (top 14) 2, [s_cls, s_text, s_at, s_sign], [s_cls, s_text], b_Mode_read, false⟩
def b__law_due : I := (.cons (.for_ (.v 1) (.itR1 (.k (V.int 9))) (.cons (.if_ (.or (.cmp .GtE (.v 1) (.bi .len (.cons (.v 0) .nil))) (.cmp .NotIn (.ix (.v 0) (.v 1)) (.lst (.cons (.ix (.lst (.cons (.k (V.str (S [114]))) (.cons (.k (V.str (S [119]))) (.cons (.k (V.str (S [120]))) .nil)))) (.bop .Sub (.v 1) (.bop .Mult (.bop .FloorDiv (.v 1) (.k (V.int 3))) (.k (V.int 3))))) (.cons (.k (V.str (S [45]))) .nil))))) (.cons (.ret (.tup (.cons (.k (V.str (S [116, 101, 120, 116]))) (.cons (.k (V.int 0)) (.cons (.v 1) .nil))))) .nil) .nil) .nil)) (.cons (.if_ (.cmp .Gt (.bi .len (.cons (.v 0) .nil)) (.k (V.int 9))) (.cons (.ret (.tup (.cons (.k (V.str (S [116, 101, 120, 116]))) (.cons (.k (V.int 0)) (.cons (.k (V.int 9)) .nil))))) .nil) .nil) (.cons (.set (.v 2) (.k (V.int 0))) (.cons (.for_ (.v 3) (.itS (.v 0)) (.cons (.set (.v 2) (.bop .Add (.bop .Mult (.k (V.int 2)) (.v 2)) (.bi .int (.cons (.cmp .NotEq (.v 3) (.k (V.str (S [45])))) .nil)))) .nil)) (.cons (.ret (.tup (.cons (.k (V.str (S [116, 111, 108, 100]))) (.cons (.v 2) .nil)))) .nil)))))
def d__law_due : DefI := ⟨s__law_due, .glo s__law_due, s__law_due, s__law_due, top 20, [s__law_signs, s__law_at, s__law_number, s__law_sign], [s__law_signs], b__law_due, false⟩
def b_Mode___init__ : I := (.cons (.if_ (.not (.call s_is_integer (.cons (.v 1) (.cons (.k (V.int 0)) (.cons (.g s_GREATEST) .nil))))) (.cons (.raise s_BadMode (.cons (.k (V.str (S [110, 117, 109, 98, 101, 114]))) .nil)) .nil) .nil) (.cons (.set (.attG (.v 0) s_bits) (.v 1)) .nil))
def d_Mode___init__ : DefI := ⟨s_Mode___init__, .meth s_Mode s___init__, s___init__, s_Mode___init__, inClass (top 14) 1, [s_self, s_number], [s_self, s_number], b_Mode___init__, false⟩
def b_Mode___str__ : I := (.cons (.ret (.bm .join (.k (V.str (S []))) (.cons (.lc [(s_at, 1), (s_sign, 2)] (.ite (.bop .BitAnd (.bop .RShift (.att (.v 0) s_bits) (.bop .Sub (.k (V.int 8)) (.v 1))) (.k (V.int 1))) (.v 2) (.k (V.str (S [45])))) (.tupG (.cons (.v 1) (.cons (.v 2) .nil))) (.itES (.g s_SIGNS)) false .nil) .nil))) .nil)
def d_Mode___str__ : DefI := ⟨s_Mode___str__, .meth s_Mode s___str__, s___str__, s_Mode___str__, inClass (top 14) 20, [s_self, s_at, s_sign], [s_self], b_Mode___str__, false⟩
def b_Mode_number : I := (.cons (.ret (.att (.v 0) s_bits)) .nil)
def d_Mode_number : DefI := ⟨s_Mode_number, .getr s_Mode s_number, s_number, s_Mode_number, inClass (top 14) 5, [s_self], [s_self], b_Mode_number, false⟩
def b_is_integer : I := (.cons (.ret (.and (.isi (.v 0) [(CR.ty "int")] false) (.and (.not (.isi (.v 0) [(CR.ty "bool")] false)) (.cmp2 .LtE .LtE (.v 1) (.v 0) (.v 2))))) .nil)
def d_is_integer : DefI := ⟨s_is_integer, .glo s_is_integer, s_is_integer, s_is_integer, top 8, [s_thing, s_low, s_high], [s_thing, s_low, s_high], b_is_integer, false⟩
def er_BadText : ErrD := ⟨s_BadText, [s_line, s_word], s_self, [s_line, s_word], s_BadText___init__, inClass (top 6) 0⟩
def er_BadMode : ErrD := ⟨s_BadMode, [s_part], s_self, [s_part], s_BadMode___init__, inClass (top 5) 0⟩
def hd : Hd where
  defs := [d_law, d__law_bag, d__law_draw, d__law_right, d__law_spoilt, d__law_same, d__law_heard, d_Mode_read, d__law_due, d_Mode___init__, d_Mode___str__, d_Mode_number, d_is_integer]
  frees := [s_range, s_int, s_abs, s_list, s_len, s_str, s_isinstance, s_tuple, s_bool, s_ValueError, s_enumerate, s_sum]
  globs := [(s_SIGNS, .str (S [114, 119, 120, 114, 119, 120, 114, 119, 120])), (s_GREATEST, .int 511)]
  fns := [s_law, s__law_bag, s__law_draw, s__law_right, s__law_spoilt, s__law_same, s__law_due, s_is_integer]
  clss := [s_Mode]
  mks := [s_Mode]
  mth := [((s_Mode, s___init__), s_Mode___init__), ((s_Mode, s___str__), s_Mode___str__)]
  prp := [((s_Mode, s_number), s_Mode_number)]
  fld := [(s_Mode, s_bits)]
  isi := [((s_Mode, CR.ty "tuple"), false), ((s_Mode, CR.ty "list"), false), ((s_Mode, CR.ty "bool"), false), ((s_Mode, CR.ty "int"), false), ((s_Mode, CR.ty "str"), false)]
  tabs := []
  errs := [er_BadText, er_BadMode]
  ecls := [s_ModesError, s_BadInput, s_NoWay, s_BadMode, s_BadText]
  exm := [((s_BadText, s_ModesError), true), ((s_BadMode, s_ModesError), true)]
  eis := [((s_BadText, CR.own s_BadInput), true), ((s_BadText, CR.own s_NoWay), false), ((s_BadText, CR.ty "ValueError"), true), ((s_BadText, CR.own s_BadMode), false), ((s_BadText, CR.own s_BadText), true), ((s_BadMode, CR.own s_BadInput), true), ((s_BadMode, CR.own s_NoWay), false), ((s_BadMode, CR.ty "ValueError"), true), ((s_BadMode, CR.own s_BadMode), true), ((s_BadMode, CR.own s_BadText), false)]
  lfns := [s__law_heard]
  smt := []
  cmt := [((s_Mode, s_read), s_Mode_read)]
  kwo := [((s_Mode_read, 1, [s_text]), [0, 1])]
/-! the judgement of the text -/
theorem stat : hd.stat = true := by decide +kernel
theorem bn_law : d_law.Bnd hd := by
  refine ⟨fun _ _ _ _ _ _ us hl => match us, hl with | [_], _ => rfl, fun l ks ord h => ?_⟩
  exact absurd h (by simp [hd, d_law])
theorem bn__law_bag : d__law_bag.Bnd hd := by
  refine ⟨fun _ _ _ _ _ _ us hl => match us, hl with | [_], _ => rfl, fun l ks ord h => ?_⟩
  exact absurd h (by simp [hd, d__law_bag])
theorem bn__law_draw : d__law_draw.Bnd hd := by
  refine ⟨fun _ _ _ _ _ _ us hl => match us, hl with | [_, _], _ => rfl, fun l ks ord h => ?_⟩
  exact absurd h (by simp [hd, d__law_draw])
theorem bn__law_right : d__law_right.Bnd hd := by
  refine ⟨fun _ _ _ _ _ _ us hl => match us, hl with | [_], _ => rfl, fun l ks ord h => ?_⟩
  exact absurd h (by simp [hd, d__law_right])
theorem bn__law_spoilt : d__law_spoilt.Bnd hd := by
  refine ⟨fun _ _ _ _ _ _ us hl => match us, hl with | [_, _], _ => rfl, fun l ks ord h => ?_⟩
  exact absurd h (by simp [hd, d__law_spoilt])
theorem bn__law_same : d__law_same.Bnd hd := by
  refine ⟨fun _ _ _ _ _ _ us hl => match us, hl with | [_, _], _ => rfl, fun l ks ord h => ?_⟩
  exact absurd h (by simp [hd, d__law_same])
theorem bn__law_heard : d__law_heard.Bnd hd := by
  refine ⟨fun _ _ _ _ _ _ us hl => match us, hl with | [_], _ => rfl, fun l ks ord h => ?_⟩
  exact absurd h (by simp [hd, d__law_heard])
theorem bn_Mode_read : d_Mode_read.Bnd hd := by
  refine ⟨fun _ _ _ _ _ _ us hl => match us, hl with | [_, _], _ => rfl, fun l ks ord h => ?_⟩
  simp only [hd, d_Mode_read, List.mem_cons, List.not_mem_nil, or_false, Prod.mk.injEq] at h
  have key : (l = 1 ∧ ks = [s_text] ∧ ord = [0, 1]) := by
    revert h; simp +decide <;> (intro a b c; exact ⟨a, b, c⟩)
  obtain ⟨rfl, rfl, rfl⟩ := key
  exact fun _ _ _ _ _ _ us ws hl hz => match us, hl, ws, hz with | [a0], _, [b0], _ => ⟨[a0, b0], rfl, rfl⟩
theorem bn__law_due : d__law_due.Bnd hd := by
  refine ⟨fun _ _ _ _ _ _ us hl => match us, hl with | [_], _ => rfl, fun l ks ord h => ?_⟩
  exact absurd h (by simp [hd, d__law_due])
theorem bn_Mode___init__ : d_Mode___init__.Bnd hd := by
  refine ⟨fun _ _ _ _ _ _ us hl => match us, hl with | [_, _], _ => rfl, fun l ks ord h => ?_⟩
  exact absurd h (by simp [hd, d_Mode___init__])
theorem bn_Mode___str__ : d_Mode___str__.Bnd hd := by
  refine ⟨fun _ _ _ _ _ _ us hl => match us, hl with | [_], _ => rfl, fun l ks ord h => ?_⟩
  exact absurd h (by simp [hd, d_Mode___str__])
theorem bn_Mode_number : d_Mode_number.Bnd hd := by
  refine ⟨fun _ _ _ _ _ _ us hl => match us, hl with | [_], _ => rfl, fun l ks ord h => ?_⟩
  exact absurd h (by simp [hd, d_Mode_number])
theorem bn_is_integer : d_is_integer.Bnd hd := by
  refine ⟨fun _ _ _ _ _ _ us hl => match us, hl with | [_, _, _], _ => rfl, fun l ks ord h => ?_⟩
  exact absurd h (by simp [hd, d_is_integer])
theorem be_BadText : er_BadText.Bnd := by
  intro _ _ _ _ _ _ _ us x hl
  exact match us, hl with | [_, _], _ => rfl
theorem be_BadMode : er_BadMode.Bnd := by
  intro _ _ _ _ _ _ _ us x hl
  exact match us, hl with | [_], _ => rfl
theorem bne : ∀ e ∈ hd.errs, e.Bnd := by
  intro e h
  simp only [hd, List.mem_cons, List.not_mem_nil, or_false] at h
  rcases h with rfl | rfl
  · exact be_BadText
  · exact be_BadMode
theorem bnd : ∀ d ∈ hd.defs, d.Bnd hd := by
  intro d h
  simp only [hd, List.mem_cons, List.not_mem_nil, or_false] at h
  rcases h with rfl | rfl | rfl | rfl | rfl | rfl | rfl | rfl | rfl | rfl | rfl | rfl | rfl
  · exact bn_law
  · exact bn__law_bag
  · exact bn__law_draw
  · exact bn__law_right
  · exact bn__law_spoilt
  · exact bn__law_same
  · exact bn__law_heard
  · exact bn_Mode_read
  · exact bn__law_due
  · exact bn_Mode___init__
  · exact bn_Mode___str__
  · exact bn_Mode_number
  · exact bn_is_integer
theorem f_law : hd.pg.find s_law = some d_law := by rfl
theorem f__law_bag : hd.pg.find s__law_bag = some d__law_bag := by rfl
theorem f__law_draw : hd.pg.find s__law_draw = some d__law_draw := by rfl
theorem f__law_right : hd.pg.find s__law_right = some d__law_right := by rfl
theorem f__law_spoilt : hd.pg.find s__law_spoilt = some d__law_spoilt := by rfl
theorem f__law_same : hd.pg.find s__law_same = some d__law_same := by rfl
theorem f__law_heard : hd.pg.find s__law_heard = some d__law_heard := by rfl
theorem f_Mode_read : hd.pg.find s_Mode_read = some d_Mode_read := by rfl
theorem f__law_due : hd.pg.find s__law_due = some d__law_due := by rfl
theorem f_Mode___init__ : hd.pg.find s_Mode___init__ = some d_Mode___init__ := by rfl
theorem f_Mode___str__ : hd.pg.find s_Mode___str__ = some d_Mode___str__ := by rfl
theorem f_Mode_number : hd.pg.find s_Mode_number = some d_Mode_number := by rfl
theorem f_is_integer : hd.pg.find s_is_integer = some d_is_integer := by rfl
end U

namespace U
open PySem PySem.Spec PyProof.Rows L2
abbrev R : PySem.W.OpenRow := PySem.W.OpenLaw.row PySem.Challenge.rw_modesdown_k02_modes_read
def loose : List Str := ["__name__", "_wall", "ModesError", "BadInput", "NoWay", "BadMode", "BadText", "is_integer", "GREATEST", "SIGNS", "is_mode", "number_of", "Mode", "_law_bag", "_law_draw", "_law_same", "_law_heard", "_law_due", "_law_right", "_law_spoilt"]
abbrev fl : Str := PySem.Challenge.pw_modesdown_k02_modes_read.main.file
theorem runF (w : World) : HandSHeadRun.RunEq R (PySem.W.view R.prog [23]) (hd.hook fl 6) (hd.ob fl 6) 8000 loose (w.withFollow "special-get-raises" false) := by
  intro os
  kernel_rfl
theorem runT (w : World) : HandSHeadRun.RunEq R (PySem.W.view R.prog [23]) (hd.hook fl 6) (hd.ob fl 6) 8000 loose (w.withFollow "special-get-raises" true) := by
  intro os
  kernel_rfl
theorem runQ (w : World) : HandSHeadRun.RunEq R (PySem.W.view R.prog [23]) (hd.hook fl 6) (hd.ob fl 6) 8000 loose w := PySem.W.byRow2 "special-get-raises" runF runT w
end U

namespace U
open PySem PySem.Spec PyProof.Rows L2
variable {K : PySem.W.Frag} {w : World} {n : Nat} {H : Hp} {Q : VK} {E : XK}
abbrev bagO (l : Addr) (at_ rest st : Int) : HO := .dK [(.inr (S [99, 101, 108, 108, 115]), .ref l), (.inr (S [97, 116]), .int at_), (.inr (S [114, 101, 115, 116]), .int rest), (.inr (S [115, 116, 97, 116, 101]), .int st)]
/-- the law's bag, what it holds -/
structure BagAt (H : Hp) (p l : Addr) (cs : List Int) (at_ rest st : Int) : Prop where
  here : H p = some (bagO l at_ rest st)
  cells : H l = some (.lst (cs.map V.int))
  at0 : 0 ≤ at_
  at1 : at_ ≤ cs.length
  len : cs.length ≤ 63
  rest : 0 ≤ rest
  st0 : 0 ≤ st
  st1 : st < 2147483647
theorem BagAt.ne {p l : Addr} {cs : List Int} {a r s : Int} (b : BagAt H p l cs a r s) : l ≠ p := fun e => by
  have h1 := b.here
  have h2 := b.cells
  rw [e] at h2
  rw [h1] at h2
  cases h2
def Bag (H : Hp) (p : Addr) : Prop := ∃ l cs a r s, BagAt H p l cs a r s
theorem BagAt.ext {H' : Hp} {p l : Addr} {cs : List Int} {a r s : Int} (b : BagAt H p l cs a r s) (x : Ext H H') : BagAt H' p l cs a r s := { b with here := x.get b.here, cells := x.get b.cells }
theorem Bag.ext {H' : Hp} {p : Addr} (b : Bag H p) (x : Ext H H') : Bag H' p := by
  obtain ⟨l, cs, a, r, s, b⟩ := b
  exact ⟨l, cs, a, r, s, b.ext x⟩
theorem Bag.extN {H' : Hp} {p : Addr} (b : Bag H p) (x : LamX.ExtN H H') : Bag H' p := by
  obtain ⟨l, cs, a, r, s, b⟩ := b
  exact ⟨l, cs, a, r, s, { b with here := x _ _ b.here (fun _ h => by cases h), cells := x _ _ b.cells (fun _ h => by cases h) }⟩
theorem BagAt.put {p l : Addr} {cs : List Int} {a r s a' r' s' : Int} (b : BagAt H p l cs a r s) (h : 0 ≤ a' ∧ a' ≤ cs.length ∧ 0 ≤ r' ∧ 0 ≤ s' ∧ s' < 2147483647) : BagAt (upd H p (bagO l a' r' s')) p l cs a' r' s' where
  here := upd_same
  cells := by rw [upd_ne b.ne]; exact b.cells
  at0 := h.1
  at1 := h.2.1
  len := b.len
  rest := h.2.2.1
  st0 := h.2.2.2.1
  st1 := h.2.2.2.2
theorem Bag.tabs {T : List (Addr × Str)} {H' : Hp} {p : Addr} (b : Bag H p) (t : LamX.Tabs T H) (x : ExtP p H H') : LamX.Tabs T H' := by
  obtain ⟨l, cs, a, r, s, b⟩ := b
  exact tabs_put b.here t x
/-! the four keys -/
section
variable {T : List KTab} {p l : Addr} {cs : List Int} {a r s : Int}
theorem bg_cells (b : BagAt H p l cs a r s) (q : Q (.ref l) H) : rIxU K w T (.ref p) (.str (S [99, 101, 108, 108, 115])) H Q := x_ixD b.here rfl q
theorem bg_at (b : BagAt H p l cs a r s) (q : Q (.int a) H) : rIxU K w T (.ref p) (.str (S [97, 116])) H Q := x_ixD b.here rfl q
theorem bg_rest (b : BagAt H p l cs a r s) (q : Q (.int r) H) : rIxU K w T (.ref p) (.str (S [114, 101, 115, 116])) H Q := x_ixD b.here rfl q
theorem bg_state (b : BagAt H p l cs a r s) (q : Q (.int s) H) : rIxU K w T (.ref p) (.str (S [115, 116, 97, 116, 101])) H Q := x_ixD b.here rfl q
theorem sb_at {v : Int} {N : Hp → Prop} (b : BagAt H p l cs a r s) (q : N (upd H p (bagO l v r s))) : rSetU (.ref p) (.str (S [97, 116])) (.int v) H N := ⟨_, b.here, (by decide : 4 < sizeLine), q⟩
theorem sb_rest {v : Int} {N : Hp → Prop} (b : BagAt H p l cs a r s) (q : N (upd H p (bagO l a v s))) : rSetU (.ref p) (.str (S [114, 101, 115, 116])) (.int v) H N := ⟨_, b.here, (by decide : 4 < sizeLine), q⟩
theorem sb_state {v : Int} {N : Hp → Prop} (b : BagAt H p l cs a r s) (q : N (upd H p (bagO l a r v))) : rSetU (.ref p) (.str (S [115, 116, 97, 116, 101])) (.int v) H N := ⟨_, b.here, (by decide : 4 < sizeLine), q⟩
end
theorem atI_map {cs : List Int} {i : Int} (h0 : 0 ≤ i) (h1 : i < cs.length) : ∃ c : Int, atI (cs.map V.int) i = some (.int c) := by
  obtain ⟨j, rfl⟩ : ∃ j : Nat, i = j := ⟨i.toNat, by omega⟩
  exact ⟨_, atI_cell (by omega)⟩
theorem mod_lim {x l : Int} (h : 1 ≤ l) : 0 ≤ x % l ∧ x % l < l := ⟨Int.emod_nonneg _ (by omega), Int.emod_lt_of_pos _ (by omega)⟩
theorem c_draw {p : Addr} {lim : Int} (hP : Bag H p) (hn : 1 ≤ n) (hl : 1 ≤ lim ∧ lim < 1000000000) (h : ∀ i H', 0 ≤ i → i < lim → Bag H' p → ExtP p H H' → Q (.int i) H') : run hd.pg K w n s__law_draw [.ref p, .int lim] H Q E := by
  refine run_at f__law_draw hn rfl ?_
  obtain ⟨l0, cs0, a0, r0, s0, b0⟩ := hP
  simp only [d__law_draw, b__law_draw, L2.start, s_cons, s_while, List.getElem?_cons_zero, List.getElem?_cons_succ, List.set_cons_zero, List.set_cons_succ, List.map_cons, List.map_nil, List.length_cons, List.length_nil, Nat.reduceAdd, Nat.reduceSub, List.replicate_succ, List.replicate_zero, List.cons_append, List.nil_append, List.append_nil, Bool.not_true, Bool.not_false, if_true, if_false, ite_true, ite_false, Bool.false_eq_true, Bool.true_eq_false, reduceIte]
  refine ⟨fun m σ H' => ∃ a r s v2 v3 v4, σ = [some (.ref p), some (.int lim), v2, v3, v4] ∧ BagAt H' p l0 cs0 a r s ∧ ExtP p H H' ∧ (m : Int) = cs0.length - a, ⟨(cs0.length - a0).toNat, a0, r0, s0, none, none, none, rfl, b0, ExtP.refl, ?_⟩, ?_⟩
  · have := b0.at1
    omega
  rintro m σ H1 ⟨a, r, s, v2, v3, v4, rfl, b1, x1, hm⟩
  have A0 := b1.at0
  have A1 := b1.at1
  have A2 := b1.st0
  have A3 := b1.st1
  have A4 := b1.rest
  have A5 := b1.len
  simp only [e_k, e_v, e_g, e_bop, e_uop, e_not, e_and, e_or, e_ite, e_cmp, e_cmp2, e_lst, e_tup, e_dic, e_call, e_mk, e_bi, e_isi, e_meth, e_bm, e_icall, e_ostr, e_att, e_ix, e_sl, e_lc, e_isiM, e_methk, e_smeth, e_cmeth, e_mkv, e_mkk, kw_nil, e_oeq, e_eatt, e_eisi, t_v, t_isi, t_call, t_meth, t_bop, t_bi, t_att, t_not, t_and, t_or, t_cmp, t_cmp2, trQ_bl, blQ_bl, t_methk, t_smeth, t_oeq, t_eisi, t_ix, t_icall, a_nil', a_cons, s_nil, s_cons, s_set, s_setLc, s_par, s_expr, s_ret, s_retN, s_if, s_for, s_never, s_pass, s_brk, s_cont, s_par3, s_raise, g_v', g_tup, g_sub, g_att, gs_nil, gs_cons, gs_tup, i_L, i_T, i_S, i_R1, i_ES, i_E, i_Z, p_nil, p_pair, o_nil, o_k, o_v, o_bop, o_uop, o_bi, o_ix, oQ_int, x_K, x_w, x_fn, x_gv, x_tabs, x_mth, x_prp, x_fld, x_isi, x_kwo, x_xf, x_exm, x_eis, x_lt, x_lfn, x_smt, x_cmt, y_cmt, y_K, y_w, y_fn, y_gv, y_tabs, y_mth, y_prp, y_fld, y_isi, y_kwo, y_xf, y_exm, y_eis, y_smt, isi_int, isi_str, isi_bl, isi_non, ii1, ii2, ii3, ii4, ii5, ii6, ii7, it1, it2, it3, it4, it5, it6, it7, it8, it9, it10, it11, it12, it13, r_add, r_sub, r_mul, r_div, r_mod, r_pow, r_shl, r_shr, r_and, r_or, r_xor, r_neg, r_inv, r_lt, r_le, r_gt, r_ge, r_eqI, r_neI, r_eqS, r_neS, r_inS, r_niS, b_int, b_intB, b_abs, b_lenS, r_addS, r_isN, r_eqB, r_neB, List.getElem?_cons_zero, List.getElem?_cons_succ, List.set_cons_zero, List.set_cons_succ, List.map_cons, List.map_nil, List.length_cons, List.length_nil, Nat.reduceAdd, Nat.reduceSub, List.replicate_succ, List.replicate_zero, List.cons_append, List.nil_append, List.append_nil, Bool.not_true, Bool.not_false, if_true, if_false, ite_true, ite_false, Bool.false_eq_true, Bool.true_eq_false, reduceIte]
  refine bg_rest b1 ?_
  simp only [e_k, e_v, e_g, e_bop, e_uop, e_not, e_and, e_or, e_ite, e_cmp, e_cmp2, e_lst, e_tup, e_dic, e_call, e_mk, e_bi, e_isi, e_meth, e_bm, e_icall, e_ostr, e_att, e_ix, e_sl, e_lc, e_isiM, e_methk, e_smeth, e_cmeth, e_mkv, e_mkk, kw_nil, e_oeq, e_eatt, e_eisi, t_v, t_isi, t_call, t_meth, t_bop, t_bi, t_att, t_not, t_and, t_or, t_cmp, t_cmp2, trQ_bl, blQ_bl, t_methk, t_smeth, t_oeq, t_eisi, t_ix, t_icall, a_nil', a_cons, s_nil, s_cons, s_set, s_setLc, s_par, s_expr, s_ret, s_retN, s_if, s_for, s_never, s_pass, s_brk, s_cont, s_par3, s_raise, g_v', g_tup, g_sub, g_att, gs_nil, gs_cons, gs_tup, i_L, i_T, i_S, i_R1, i_ES, i_E, i_Z, p_nil, p_pair, o_nil, o_k, o_v, o_bop, o_uop, o_bi, o_ix, oQ_int, x_K, x_w, x_fn, x_gv, x_tabs, x_mth, x_prp, x_fld, x_isi, x_kwo, x_xf, x_exm, x_eis, x_lt, x_lfn, x_smt, x_cmt, y_cmt, y_K, y_w, y_fn, y_gv, y_tabs, y_mth, y_prp, y_fld, y_isi, y_kwo, y_xf, y_exm, y_eis, y_smt, isi_int, isi_str, isi_bl, isi_non, ii1, ii2, ii3, ii4, ii5, ii6, ii7, it1, it2, it3, it4, it5, it6, it7, it8, it9, it10, it11, it12, it13, r_add, r_sub, r_mul, r_div, r_mod, r_pow, r_shl, r_shr, r_and, r_or, r_xor, r_neg, r_inv, r_lt, r_le, r_gt, r_ge, r_eqI, r_neI, r_eqS, r_neS, r_inS, r_niS, b_int, b_intB, b_abs, b_lenS, r_addS, r_isN, r_eqB, r_neB, List.getElem?_cons_zero, List.getElem?_cons_succ, List.set_cons_zero, List.set_cons_succ, List.map_cons, List.map_nil, List.length_cons, List.length_nil, Nat.reduceAdd, Nat.reduceSub, List.replicate_succ, List.replicate_zero, List.cons_append, List.nil_append, List.append_nil, Bool.not_true, Bool.not_false, if_true, if_false, ite_true, ite_false, Bool.false_eq_true, Bool.true_eq_false, reduceIte]
  -- what follows the loop
  have fin : ∀ (H2 : Hp) (a r s : Int) (v2 v3 v4 : Option V), BagAt H2 p l0 cs0 a r s → ExtP p H H2 → (rd (hd.pg.ctx K w (run hd.pg K w (n - 1))) (tailI 1 b__law_draw) fun cls dd _ H' => E cls dd H').s { nx := fun _ H' => Q .non H', rt := Q } [some (.ref p), some (.int lim), v2, v3, v4] H2 := by
    intro H2 a r s v2 v3 v4 b2 x2
    have A0 := b2.at0
    have A1 := b2.at1
    have A2 := b2.st0
    have A3 := b2.st1
    have A4 := b2.rest
    simp only [tailI, b__law_draw, e_k, e_v, e_g, e_bop, e_uop, e_not, e_and, e_or, e_ite, e_cmp, e_cmp2, e_lst, e_tup, e_dic, e_call, e_mk, e_bi, e_isi, e_meth, e_bm, e_icall, e_ostr, e_att, e_ix, e_sl, e_lc, e_isiM, e_methk, e_smeth, e_cmeth, e_mkv, e_mkk, kw_nil, e_oeq, e_eatt, e_eisi, t_v, t_isi, t_call, t_meth, t_bop, t_bi, t_att, t_not, t_and, t_or, t_cmp, t_cmp2, trQ_bl, blQ_bl, t_methk, t_smeth, t_oeq, t_eisi, t_ix, t_icall, a_nil', a_cons, s_nil, s_cons, s_set, s_setLc, s_par, s_expr, s_ret, s_retN, s_if, s_for, s_never, s_pass, s_brk, s_cont, s_par3, s_raise, g_v', g_tup, g_sub, g_att, gs_nil, gs_cons, gs_tup, i_L, i_T, i_S, i_R1, i_ES, i_E, i_Z, p_nil, p_pair, o_nil, o_k, o_v, o_bop, o_uop, o_bi, o_ix, oQ_int, x_K, x_w, x_fn, x_gv, x_tabs, x_mth, x_prp, x_fld, x_isi, x_kwo, x_xf, x_exm, x_eis, x_lt, x_lfn, x_smt, x_cmt, y_cmt, y_K, y_w, y_fn, y_gv, y_tabs, y_mth, y_prp, y_fld, y_isi, y_kwo, y_xf, y_exm, y_eis, y_smt, isi_int, isi_str, isi_bl, isi_non, ii1, ii2, ii3, ii4, ii5, ii6, ii7, it1, it2, it3, it4, it5, it6, it7, it8, it9, it10, it11, it12, it13, r_add, r_sub, r_mul, r_div, r_mod, r_pow, r_shl, r_shr, r_and, r_or, r_xor, r_neg, r_inv, r_lt, r_le, r_gt, r_ge, r_eqI, r_neI, r_eqS, r_neS, r_inS, r_niS, b_int, b_intB, b_abs, b_lenS, r_addS, r_isN, r_eqB, r_neB, List.getElem?_cons_zero, List.getElem?_cons_succ, List.set_cons_zero, List.set_cons_succ, List.map_cons, List.map_nil, List.length_cons, List.length_nil, Nat.reduceAdd, Nat.reduceSub, List.replicate_succ, List.replicate_zero, List.cons_append, List.nil_append, List.append_nil, Bool.not_true, Bool.not_false, if_true, if_false, ite_true, ite_false, Bool.false_eq_true, Bool.true_eq_false, reduceIte]
    refine bg_rest b2 ?_
    simp only [e_k, e_v, e_g, e_bop, e_uop, e_not, e_and, e_or, e_ite, e_cmp, e_cmp2, e_lst, e_tup, e_dic, e_call, e_mk, e_bi, e_isi, e_meth, e_bm, e_icall, e_ostr, e_att, e_ix, e_sl, e_lc, e_isiM, e_methk, e_smeth, e_cmeth, e_mkv, e_mkk, kw_nil, e_oeq, e_eatt, e_eisi, t_v, t_isi, t_call, t_meth, t_bop, t_bi, t_att, t_not, t_and, t_or, t_cmp, t_cmp2, trQ_bl, blQ_bl, t_methk, t_smeth, t_oeq, t_eisi, t_ix, t_icall, a_nil', a_cons, s_nil, s_cons, s_set, s_setLc, s_par, s_expr, s_ret, s_retN, s_if, s_for, s_never, s_pass, s_brk, s_cont, s_par3, s_raise, g_v', g_tup, g_sub, g_att, gs_nil, gs_cons, gs_tup, i_L, i_T, i_S, i_R1, i_ES, i_E, i_Z, p_nil, p_pair, o_nil, o_k, o_v, o_bop, o_uop, o_bi, o_ix, oQ_int, x_K, x_w, x_fn, x_gv, x_tabs, x_mth, x_prp, x_fld, x_isi, x_kwo, x_xf, x_exm, x_eis, x_lt, x_lfn, x_smt, x_cmt, y_cmt, y_K, y_w, y_fn, y_gv, y_tabs, y_mth, y_prp, y_fld, y_isi, y_kwo, y_xf, y_exm, y_eis, y_smt, isi_int, isi_str, isi_bl, isi_non, ii1, ii2, ii3, ii4, ii5, ii6, ii7, it1, it2, it3, it4, it5, it6, it7, it8, it9, it10, it11, it12, it13, r_add, r_sub, r_mul, r_div, r_mod, r_pow, r_shl, r_shr, r_and, r_or, r_xor, r_neg, r_inv, r_lt, r_le, r_gt, r_ge, r_eqI, r_neI, r_eqS, r_neS, r_inS, r_niS, b_int, b_intB, b_abs, b_lenS, r_addS, r_isN, r_eqB, r_neB, List.getElem?_cons_zero, List.getElem?_cons_succ, List.set_cons_zero, List.set_cons_succ, List.map_cons, List.map_nil, List.length_cons, List.length_nil, Nat.reduceAdd, Nat.reduceSub, List.replicate_succ, List.replicate_zero, List.cons_append, List.nil_append, List.append_nil, Bool.not_true, Bool.not_false, if_true, if_false, ite_true, ite_false, Bool.false_eq_true, Bool.true_eq_false, reduceIte]
    by_cases hr : 2 ≤ r
    · simp only [hr, decide_true, e_k, e_v, e_g, e_bop, e_uop, e_not, e_and, e_or, e_ite, e_cmp, e_cmp2, e_lst, e_tup, e_dic, e_call, e_mk, e_bi, e_isi, e_meth, e_bm, e_icall, e_ostr, e_att, e_ix, e_sl, e_lc, e_isiM, e_methk, e_smeth, e_cmeth, e_mkv, e_mkk, kw_nil, e_oeq, e_eatt, e_eisi, t_v, t_isi, t_call, t_meth, t_bop, t_bi, t_att, t_not, t_and, t_or, t_cmp, t_cmp2, trQ_bl, blQ_bl, t_methk, t_smeth, t_oeq, t_eisi, t_ix, t_icall, a_nil', a_cons, s_nil, s_cons, s_set, s_setLc, s_par, s_expr, s_ret, s_retN, s_if, s_for, s_never, s_pass, s_brk, s_cont, s_par3, s_raise, g_v', g_tup, g_sub, g_att, gs_nil, gs_cons, gs_tup, i_L, i_T, i_S, i_R1, i_ES, i_E, i_Z, p_nil, p_pair, o_nil, o_k, o_v, o_bop, o_uop, o_bi, o_ix, oQ_int, x_K, x_w, x_fn, x_gv, x_tabs, x_mth, x_prp, x_fld, x_isi, x_kwo, x_xf, x_exm, x_eis, x_lt, x_lfn, x_smt, x_cmt, y_cmt, y_K, y_w, y_fn, y_gv, y_tabs, y_mth, y_prp, y_fld, y_isi, y_kwo, y_xf, y_exm, y_eis, y_smt, isi_int, isi_str, isi_bl, isi_non, ii1, ii2, ii3, ii4, ii5, ii6, ii7, it1, it2, it3, it4, it5, it6, it7, it8, it9, it10, it11, it12, it13, r_add, r_sub, r_mul, r_div, r_mod, r_pow, r_shl, r_shr, r_and, r_or, r_xor, r_neg, r_inv, r_lt, r_le, r_gt, r_ge, r_eqI, r_neI, r_eqS, r_neS, r_inS, r_niS, b_int, b_intB, b_abs, b_lenS, r_addS, r_isN, r_eqB, r_neB, List.getElem?_cons_zero, List.getElem?_cons_succ, List.set_cons_zero, List.set_cons_succ, List.map_cons, List.map_nil, List.length_cons, List.length_nil, Nat.reduceAdd, Nat.reduceSub, List.replicate_succ, List.replicate_zero, List.cons_append, List.nil_append, List.append_nil, Bool.not_true, Bool.not_false, if_true, if_false, ite_true, ite_false, Bool.false_eq_true, Bool.true_eq_false, reduceIte]
      refine bg_rest b2 ?_
      simp only [e_k, e_v, e_g, e_bop, e_uop, e_not, e_and, e_or, e_ite, e_cmp, e_cmp2, e_lst, e_tup, e_dic, e_call, e_mk, e_bi, e_isi, e_meth, e_bm, e_icall, e_ostr, e_att, e_ix, e_sl, e_lc, e_isiM, e_methk, e_smeth, e_cmeth, e_mkv, e_mkk, kw_nil, e_oeq, e_eatt, e_eisi, t_v, t_isi, t_call, t_meth, t_bop, t_bi, t_att, t_not, t_and, t_or, t_cmp, t_cmp2, trQ_bl, blQ_bl, t_methk, t_smeth, t_oeq, t_eisi, t_ix, t_icall, a_nil', a_cons, s_nil, s_cons, s_set, s_setLc, s_par, s_expr, s_ret, s_retN, s_if, s_for, s_never, s_pass, s_brk, s_cont, s_par3, s_raise, g_v', g_tup, g_sub, g_att, gs_nil, gs_cons, gs_tup, i_L, i_T, i_S, i_R1, i_ES, i_E, i_Z, p_nil, p_pair, o_nil, o_k, o_v, o_bop, o_uop, o_bi, o_ix, oQ_int, x_K, x_w, x_fn, x_gv, x_tabs, x_mth, x_prp, x_fld, x_isi, x_kwo, x_xf, x_exm, x_eis, x_lt, x_lfn, x_smt, x_cmt, y_cmt, y_K, y_w, y_fn, y_gv, y_tabs, y_mth, y_prp, y_fld, y_isi, y_kwo, y_xf, y_exm, y_eis, y_smt, isi_int, isi_str, isi_bl, isi_non, ii1, ii2, ii3, ii4, ii5, ii6, ii7, it1, it2, it3, it4, it5, it6, it7, it8, it9, it10, it11, it12, it13, r_add, r_sub, r_mul, r_div, r_mod, r_pow, r_shl, r_shr, r_and, r_or, r_xor, r_neg, r_inv, r_lt, r_le, r_gt, r_ge, r_eqI, r_neI, r_eqS, r_neS, r_inS, r_niS, b_int, b_intB, b_abs, b_lenS, r_addS, r_isN, r_eqB, r_neB, List.getElem?_cons_zero, List.getElem?_cons_succ, List.set_cons_zero, List.set_cons_succ, List.map_cons, List.map_nil, List.length_cons, List.length_nil, Nat.reduceAdd, Nat.reduceSub, List.replicate_succ, List.replicate_zero, List.cons_append, List.nil_append, List.append_nil, Bool.not_true, Bool.not_false, if_true, if_false, ite_true, ite_false, Bool.false_eq_true, Bool.true_eq_false, reduceIte]
      refine ⟨by omega, ?_⟩
      refine bg_rest b2 ?_
      simp only [e_k, e_v, e_g, e_bop, e_uop, e_not, e_and, e_or, e_ite, e_cmp, e_cmp2, e_lst, e_tup, e_dic, e_call, e_mk, e_bi, e_isi, e_meth, e_bm, e_icall, e_ostr, e_att, e_ix, e_sl, e_lc, e_isiM, e_methk, e_smeth, e_cmeth, e_mkv, e_mkk, kw_nil, e_oeq, e_eatt, e_eisi, t_v, t_isi, t_call, t_meth, t_bop, t_bi, t_att, t_not, t_and, t_or, t_cmp, t_cmp2, trQ_bl, blQ_bl, t_methk, t_smeth, t_oeq, t_eisi, t_ix, t_icall, a_nil', a_cons, s_nil, s_cons, s_set, s_setLc, s_par, s_expr, s_ret, s_retN, s_if, s_for, s_never, s_pass, s_brk, s_cont, s_par3, s_raise, g_v', g_tup, g_sub, g_att, gs_nil, gs_cons, gs_tup, i_L, i_T, i_S, i_R1, i_ES, i_E, i_Z, p_nil, p_pair, o_nil, o_k, o_v, o_bop, o_uop, o_bi, o_ix, oQ_int, x_K, x_w, x_fn, x_gv, x_tabs, x_mth, x_prp, x_fld, x_isi, x_kwo, x_xf, x_exm, x_eis, x_lt, x_lfn, x_smt, x_cmt, y_cmt, y_K, y_w, y_fn, y_gv, y_tabs, y_mth, y_prp, y_fld, y_isi, y_kwo, y_xf, y_exm, y_eis, y_smt, isi_int, isi_str, isi_bl, isi_non, ii1, ii2, ii3, ii4, ii5, ii6, ii7, it1, it2, it3, it4, it5, it6, it7, it8, it9, it10, it11, it12, it13, r_add, r_sub, r_mul, r_div, r_mod, r_pow, r_shl, r_shr, r_and, r_or, r_xor, r_neg, r_inv, r_lt, r_le, r_gt, r_ge, r_eqI, r_neI, r_eqS, r_neS, r_inS, r_niS, b_int, b_intB, b_abs, b_lenS, r_addS, r_isN, r_eqB, r_neB, List.getElem?_cons_zero, List.getElem?_cons_succ, List.set_cons_zero, List.set_cons_succ, List.map_cons, List.map_nil, List.length_cons, List.length_nil, Nat.reduceAdd, Nat.reduceSub, List.replicate_succ, List.replicate_zero, List.cons_append, List.nil_append, List.append_nil, Bool.not_true, Bool.not_false, if_true, if_false, ite_true, ite_false, Bool.false_eq_true, Bool.true_eq_false, reduceIte]
      refine ⟨.inl ⟨by omega, by omega⟩, ?_⟩
      refine sb_rest b2 ?_
      have hm := mod_lim (x := r) (l := lim) hl.1
      refine h _ _ hm.1 hm.2 ⟨_, _, _, _, _, b2.put ⟨A0, A1, Int.ediv_nonneg A4 (by omega), A2, A3⟩⟩ (x2.trans ExtP.put)
    · simp only [hr, decide_false, e_k, e_v, e_g, e_bop, e_uop, e_not, e_and, e_or, e_ite, e_cmp, e_cmp2, e_lst, e_tup, e_dic, e_call, e_mk, e_bi, e_isi, e_meth, e_bm, e_icall, e_ostr, e_att, e_ix, e_sl, e_lc, e_isiM, e_methk, e_smeth, e_cmeth, e_mkv, e_mkk, kw_nil, e_oeq, e_eatt, e_eisi, t_v, t_isi, t_call, t_meth, t_bop, t_bi, t_att, t_not, t_and, t_or, t_cmp, t_cmp2, trQ_bl, blQ_bl, t_methk, t_smeth, t_oeq, t_eisi, t_ix, t_icall, a_nil', a_cons, s_nil, s_cons, s_set, s_setLc, s_par, s_expr, s_ret, s_retN, s_if, s_for, s_never, s_pass, s_brk, s_cont, s_par3, s_raise, g_v', g_tup, g_sub, g_att, gs_nil, gs_cons, gs_tup, i_L, i_T, i_S, i_R1, i_ES, i_E, i_Z, p_nil, p_pair, o_nil, o_k, o_v, o_bop, o_uop, o_bi, o_ix, oQ_int, x_K, x_w, x_fn, x_gv, x_tabs, x_mth, x_prp, x_fld, x_isi, x_kwo, x_xf, x_exm, x_eis, x_lt, x_lfn, x_smt, x_cmt, y_cmt, y_K, y_w, y_fn, y_gv, y_tabs, y_mth, y_prp, y_fld, y_isi, y_kwo, y_xf, y_exm, y_eis, y_smt, isi_int, isi_str, isi_bl, isi_non, ii1, ii2, ii3, ii4, ii5, ii6, ii7, it1, it2, it3, it4, it5, it6, it7, it8, it9, it10, it11, it12, it13, r_add, r_sub, r_mul, r_div, r_mod, r_pow, r_shl, r_shr, r_and, r_or, r_xor, r_neg, r_inv, r_lt, r_le, r_gt, r_ge, r_eqI, r_neI, r_eqS, r_neS, r_inS, r_niS, b_int, b_intB, b_abs, b_lenS, r_addS, r_isN, r_eqB, r_neB, List.getElem?_cons_zero, List.getElem?_cons_succ, List.set_cons_zero, List.set_cons_succ, List.map_cons, List.map_nil, List.length_cons, List.length_nil, Nat.reduceAdd, Nat.reduceSub, List.replicate_succ, List.replicate_zero, List.cons_append, List.nil_append, List.append_nil, Bool.not_true, Bool.not_false, if_true, if_false, ite_true, ite_false, Bool.false_eq_true, Bool.true_eq_false, reduceIte]
      refine bg_state b2 ?_
      simp only [e_k, e_v, e_g, e_bop, e_uop, e_not, e_and, e_or, e_ite, e_cmp, e_cmp2, e_lst, e_tup, e_dic, e_call, e_mk, e_bi, e_isi, e_meth, e_bm, e_icall, e_ostr, e_att, e_ix, e_sl, e_lc, e_isiM, e_methk, e_smeth, e_cmeth, e_mkv, e_mkk, kw_nil, e_oeq, e_eatt, e_eisi, t_v, t_isi, t_call, t_meth, t_bop, t_bi, t_att, t_not, t_and, t_or, t_cmp, t_cmp2, trQ_bl, blQ_bl, t_methk, t_smeth, t_oeq, t_eisi, t_ix, t_icall, a_nil', a_cons, s_nil, s_cons, s_set, s_setLc, s_par, s_expr, s_ret, s_retN, s_if, s_for, s_never, s_pass, s_brk, s_cont, s_par3, s_raise, g_v', g_tup, g_sub, g_att, gs_nil, gs_cons, gs_tup, i_L, i_T, i_S, i_R1, i_ES, i_E, i_Z, p_nil, p_pair, o_nil, o_k, o_v, o_bop, o_uop, o_bi, o_ix, oQ_int, x_K, x_w, x_fn, x_gv, x_tabs, x_mth, x_prp, x_fld, x_isi, x_kwo, x_xf, x_exm, x_eis, x_lt, x_lfn, x_smt, x_cmt, y_cmt, y_K, y_w, y_fn, y_gv, y_tabs, y_mth, y_prp, y_fld, y_isi, y_kwo, y_xf, y_exm, y_eis, y_smt, isi_int, isi_str, isi_bl, isi_non, ii1, ii2, ii3, ii4, ii5, ii6, ii7, it1, it2, it3, it4, it5, it6, it7, it8, it9, it10, it11, it12, it13, r_add, r_sub, r_mul, r_div, r_mod, r_pow, r_shl, r_shr, r_and, r_or, r_xor, r_neg, r_inv, r_lt, r_le, r_gt, r_ge, r_eqI, r_neI, r_eqS, r_neS, r_inS, r_niS, b_int, b_intB, b_abs, b_lenS, r_addS, r_isN, r_eqB, r_neB, List.getElem?_cons_zero, List.getElem?_cons_succ, List.set_cons_zero, List.set_cons_succ, List.map_cons, List.map_nil, List.length_cons, List.length_nil, Nat.reduceAdd, Nat.reduceSub, List.replicate_succ, List.replicate_zero, List.cons_append, List.nil_append, List.append_nil, Bool.not_true, Bool.not_false, if_true, if_false, ite_true, ite_false, Bool.false_eq_true, Bool.true_eq_false, reduceIte]
      refine ⟨.inl (.inl ⟨by omega, by omega⟩), by decide, ?_⟩
      refine sb_state b2 ?_
      have hs := mod_lim (x := s * 48271 + 13) (l := 2147483647) (by decide)
      have b3 := b2.put (a' := a) (r' := r) (s' := (s * 48271 + 13) % 2147483647) ⟨A0, A1, A4, hs.1, hs.2⟩
      refine bg_state b3 ?_
      simp only [e_k, e_v, e_g, e_bop, e_uop, e_not, e_and, e_or, e_ite, e_cmp, e_cmp2, e_lst, e_tup, e_dic, e_call, e_mk, e_bi, e_isi, e_meth, e_bm, e_icall, e_ostr, e_att, e_ix, e_sl, e_lc, e_isiM, e_methk, e_smeth, e_cmeth, e_mkv, e_mkk, kw_nil, e_oeq, e_eatt, e_eisi, t_v, t_isi, t_call, t_meth, t_bop, t_bi, t_att, t_not, t_and, t_or, t_cmp, t_cmp2, trQ_bl, blQ_bl, t_methk, t_smeth, t_oeq, t_eisi, t_ix, t_icall, a_nil', a_cons, s_nil, s_cons, s_set, s_setLc, s_par, s_expr, s_ret, s_retN, s_if, s_for, s_never, s_pass, s_brk, s_cont, s_par3, s_raise, g_v', g_tup, g_sub, g_att, gs_nil, gs_cons, gs_tup, i_L, i_T, i_S, i_R1, i_ES, i_E, i_Z, p_nil, p_pair, o_nil, o_k, o_v, o_bop, o_uop, o_bi, o_ix, oQ_int, x_K, x_w, x_fn, x_gv, x_tabs, x_mth, x_prp, x_fld, x_isi, x_kwo, x_xf, x_exm, x_eis, x_lt, x_lfn, x_smt, x_cmt, y_cmt, y_K, y_w, y_fn, y_gv, y_tabs, y_mth, y_prp, y_fld, y_isi, y_kwo, y_xf, y_exm, y_eis, y_smt, isi_int, isi_str, isi_bl, isi_non, ii1, ii2, ii3, ii4, ii5, ii6, ii7, it1, it2, it3, it4, it5, it6, it7, it8, it9, it10, it11, it12, it13, r_add, r_sub, r_mul, r_div, r_mod, r_pow, r_shl, r_shr, r_and, r_or, r_xor, r_neg, r_inv, r_lt, r_le, r_gt, r_ge, r_eqI, r_neI, r_eqS, r_neS, r_inS, r_niS, b_int, b_intB, b_abs, b_lenS, r_addS, r_isN, r_eqB, r_neB, List.getElem?_cons_zero, List.getElem?_cons_succ, List.set_cons_zero, List.set_cons_succ, List.map_cons, List.map_nil, List.length_cons, List.length_nil, Nat.reduceAdd, Nat.reduceSub, List.replicate_succ, List.replicate_zero, List.cons_append, List.nil_append, List.append_nil, Bool.not_true, Bool.not_false, if_true, if_false, ite_true, ite_false, Bool.false_eq_true, Bool.true_eq_false, reduceIte]
      refine ⟨⟨by decide, by decide, by omega⟩, by decide, by omega, ?_⟩
      have hm := mod_lim (x := ((s * 48271 + 13) % 2147483647) ^ (5 : Int).toNat % 2147483629) (l := lim) hl.1
      exact h _ _ hm.1 hm.2 ⟨_, _, _, _, _, b3⟩ (x2.trans ExtP.put)
  simp only [tailI, b__law_draw] at fin
  have exit : ∀ v2 v3 v4, (rd (hd.pg.ctx K w (run hd.pg K w (n - 1))) (tailI 1 b__law_draw) fun cls dd _ H' => E cls dd H').s { nx := fun _ H' => Q .non H', rt := Q } [some (.ref p), some (.int lim), v2, v3, v4] H1 := fun v2 v3 v4 => fin H1 a r s v2 v3 v4 b1 x1
  simp only [tailI, b__law_draw] at exit
  by_cases hr : r < 2
  rotate_left
  · simp only [hr, decide_false, Bool.false_eq_true, if_false]
    have := exit v2 v3 v4
    simp only [s_cons] at this
    exact this
  simp only [hr, decide_true, if_true]
  refine bg_at b1 ?_
  refine bg_cells b1 ?_
  refine b_lenL (.inl (.inl b1.cells)) ?_
  simp only [r_lt, blQ_bl, List.length_map]
  by_cases ha : a < cs0.length
  rotate_left
  · simp only [ha, decide_false, Bool.false_eq_true, if_false]
    have := exit v2 v3 v4
    simp only [s_cons] at this
    exact this
  simp only [ha, decide_true, if_true]
  refine ⟨fun σ' H' => ∃ a' r s v2 v3 v4, σ' = [some (.ref p), some (.int lim), v2, v3, v4] ∧ BagAt H' p l0 cs0 a' r s ∧ ExtP p H H' ∧ a < a', ?_, ?_⟩
  · rintro σ' H' ⟨a', r', s', w2, w3, w4, rfl, b2, x2, hlt⟩
    have := b2.at1
    exact ⟨(cs0.length - a').toNat, by omega, a', r', s', w2, w3, w4, rfl, b2, x2, by omega⟩
  obtain ⟨c, hc⟩ := atI_map (cs := cs0) A0 ha
  refine bg_cells b1 ?_
  refine bg_at b1 ?_
  refine x_ixL (.inl (.inl b1.cells)) hc ?_
  have hcp : 0 ≤ (if c < 0 then -c else c) := by split <;> omega
  generalize hcc : (if c < 0 then -c else c) = cc at hcp
  simp only [rB, hcc, e_k, e_v, e_g, e_bop, e_uop, e_not, e_and, e_or, e_ite, e_cmp, e_cmp2, e_lst, e_tup, e_dic, e_call, e_mk, e_bi, e_isi, e_meth, e_bm, e_icall, e_ostr, e_att, e_ix, e_sl, e_lc, e_isiM, e_methk, e_smeth, e_cmeth, e_mkv, e_mkk, kw_nil, e_oeq, e_eatt, e_eisi, t_v, t_isi, t_call, t_meth, t_bop, t_bi, t_att, t_not, t_and, t_or, t_cmp, t_cmp2, trQ_bl, blQ_bl, t_methk, t_smeth, t_oeq, t_eisi, t_ix, t_icall, a_nil', a_cons, s_nil, s_cons, s_set, s_setLc, s_par, s_expr, s_ret, s_retN, s_if, s_for, s_never, s_pass, s_brk, s_cont, s_par3, s_raise, g_v', g_tup, g_sub, g_att, gs_nil, gs_cons, gs_tup, i_L, i_T, i_S, i_R1, i_ES, i_E, i_Z, p_nil, p_pair, o_nil, o_k, o_v, o_bop, o_uop, o_bi, o_ix, oQ_int, x_K, x_w, x_fn, x_gv, x_tabs, x_mth, x_prp, x_fld, x_isi, x_kwo, x_xf, x_exm, x_eis, x_lt, x_lfn, x_smt, x_cmt, y_cmt, y_K, y_w, y_fn, y_gv, y_tabs, y_mth, y_prp, y_fld, y_isi, y_kwo, y_xf, y_exm, y_eis, y_smt, isi_int, isi_str, isi_bl, isi_non, ii1, ii2, ii3, ii4, ii5, ii6, ii7, it1, it2, it3, it4, it5, it6, it7, it8, it9, it10, it11, it12, it13, r_add, r_sub, r_mul, r_div, r_mod, r_pow, r_shl, r_shr, r_and, r_or, r_xor, r_neg, r_inv, r_lt, r_le, r_gt, r_ge, r_eqI, r_neI, r_eqS, r_neS, r_inS, r_niS, b_int, b_intB, b_abs, b_lenS, r_addS, r_isN, r_eqB, r_neB, List.getElem?_cons_zero, List.getElem?_cons_succ, List.set_cons_zero, List.set_cons_succ, List.map_cons, List.map_nil, List.length_cons, List.length_nil, Nat.reduceAdd, Nat.reduceSub, List.replicate_succ, List.replicate_zero, List.cons_append, List.nil_append, List.append_nil, Bool.not_true, Bool.not_false, if_true, if_false, ite_true, ite_false, Bool.false_eq_true, Bool.true_eq_false, reduceIte]
  refine bg_at b1 ?_
  simp only [e_k, e_v, e_g, e_bop, e_uop, e_not, e_and, e_or, e_ite, e_cmp, e_cmp2, e_lst, e_tup, e_dic, e_call, e_mk, e_bi, e_isi, e_meth, e_bm, e_icall, e_ostr, e_att, e_ix, e_sl, e_lc, e_isiM, e_methk, e_smeth, e_cmeth, e_mkv, e_mkk, kw_nil, e_oeq, e_eatt, e_eisi, t_v, t_isi, t_call, t_meth, t_bop, t_bi, t_att, t_not, t_and, t_or, t_cmp, t_cmp2, trQ_bl, blQ_bl, t_methk, t_smeth, t_oeq, t_eisi, t_ix, t_icall, a_nil', a_cons, s_nil, s_cons, s_set, s_setLc, s_par, s_expr, s_ret, s_retN, s_if, s_for, s_never, s_pass, s_brk, s_cont, s_par3, s_raise, g_v', g_tup, g_sub, g_att, gs_nil, gs_cons, gs_tup, i_L, i_T, i_S, i_R1, i_ES, i_E, i_Z, p_nil, p_pair, o_nil, o_k, o_v, o_bop, o_uop, o_bi, o_ix, oQ_int, x_K, x_w, x_fn, x_gv, x_tabs, x_mth, x_prp, x_fld, x_isi, x_kwo, x_xf, x_exm, x_eis, x_lt, x_lfn, x_smt, x_cmt, y_cmt, y_K, y_w, y_fn, y_gv, y_tabs, y_mth, y_prp, y_fld, y_isi, y_kwo, y_xf, y_exm, y_eis, y_smt, isi_int, isi_str, isi_bl, isi_non, ii1, ii2, ii3, ii4, ii5, ii6, ii7, it1, it2, it3, it4, it5, it6, it7, it8, it9, it10, it11, it12, it13, r_add, r_sub, r_mul, r_div, r_mod, r_pow, r_shl, r_shr, r_and, r_or, r_xor, r_neg, r_inv, r_lt, r_le, r_gt, r_ge, r_eqI, r_neI, r_eqS, r_neS, r_inS, r_niS, b_int, b_intB, b_abs, b_lenS, r_addS, r_isN, r_eqB, r_neB, List.getElem?_cons_zero, List.getElem?_cons_succ, List.set_cons_zero, List.set_cons_succ, List.map_cons, List.map_nil, List.length_cons, List.length_nil, Nat.reduceAdd, Nat.reduceSub, List.replicate_succ, List.replicate_zero, List.cons_append, List.nil_append, List.append_nil, Bool.not_true, Bool.not_false, if_true, if_false, ite_true, ite_false, Bool.false_eq_true, Bool.true_eq_false, reduceIte]
  refine sb_at b1 ?_
  have b2 := b1.put (a' := a + 1) (r' := r) (s' := s) ⟨by omega, by omega, A4, A2, A3⟩
  refine ⟨⟨by decide, by decide, by decide⟩, ?_⟩
  by_cases hb : cc < 10 ^ (18 : Int).toNat
  · simp only [hb, decide_true, e_k, e_v, e_g, e_bop, e_uop, e_not, e_and, e_or, e_ite, e_cmp, e_cmp2, e_lst, e_tup, e_dic, e_call, e_mk, e_bi, e_isi, e_meth, e_bm, e_icall, e_ostr, e_att, e_ix, e_sl, e_lc, e_isiM, e_methk, e_smeth, e_cmeth, e_mkv, e_mkk, kw_nil, e_oeq, e_eatt, e_eisi, t_v, t_isi, t_call, t_meth, t_bop, t_bi, t_att, t_not, t_and, t_or, t_cmp, t_cmp2, trQ_bl, blQ_bl, t_methk, t_smeth, t_oeq, t_eisi, t_ix, t_icall, a_nil', a_cons, s_nil, s_cons, s_set, s_setLc, s_par, s_expr, s_ret, s_retN, s_if, s_for, s_never, s_pass, s_brk, s_cont, s_par3, s_raise, g_v', g_tup, g_sub, g_att, gs_nil, gs_cons, gs_tup, i_L, i_T, i_S, i_R1, i_ES, i_E, i_Z, p_nil, p_pair, o_nil, o_k, o_v, o_bop, o_uop, o_bi, o_ix, oQ_int, x_K, x_w, x_fn, x_gv, x_tabs, x_mth, x_prp, x_fld, x_isi, x_kwo, x_xf, x_exm, x_eis, x_lt, x_lfn, x_smt, x_cmt, y_cmt, y_K, y_w, y_fn, y_gv, y_tabs, y_mth, y_prp, y_fld, y_isi, y_kwo, y_xf, y_exm, y_eis, y_smt, isi_int, isi_str, isi_bl, isi_non, ii1, ii2, ii3, ii4, ii5, ii6, ii7, it1, it2, it3, it4, it5, it6, it7, it8, it9, it10, it11, it12, it13, r_add, r_sub, r_mul, r_div, r_mod, r_pow, r_shl, r_shr, r_and, r_or, r_xor, r_neg, r_inv, r_lt, r_le, r_gt, r_ge, r_eqI, r_neI, r_eqS, r_neS, r_inS, r_niS, b_int, b_intB, b_abs, b_lenS, r_addS, r_isN, r_eqB, r_neB, List.getElem?_cons_zero, List.getElem?_cons_succ, List.set_cons_zero, List.set_cons_succ, List.map_cons, List.map_nil, List.length_cons, List.length_nil, Nat.reduceAdd, Nat.reduceSub, List.replicate_succ, List.replicate_zero, List.cons_append, List.nil_append, List.append_nil, Bool.not_true, Bool.not_false, if_true, if_false, ite_true, ite_false, Bool.false_eq_true, Bool.true_eq_false, reduceIte]
    have hb' : cc < 1000000000000000000 := by simpa using hb
    refine ⟨⟨by decide, by decide, by omega⟩, ?_⟩
    refine bg_state b2 ?_
    refine bg_at b2 ?_
    simp only [e_k, e_v, e_g, e_bop, e_uop, e_not, e_and, e_or, e_ite, e_cmp, e_cmp2, e_lst, e_tup, e_dic, e_call, e_mk, e_bi, e_isi, e_meth, e_bm, e_icall, e_ostr, e_att, e_ix, e_sl, e_lc, e_isiM, e_methk, e_smeth, e_cmeth, e_mkv, e_mkk, kw_nil, e_oeq, e_eatt, e_eisi, t_v, t_isi, t_call, t_meth, t_bop, t_bi, t_att, t_not, t_and, t_or, t_cmp, t_cmp2, trQ_bl, blQ_bl, t_methk, t_smeth, t_oeq, t_eisi, t_ix, t_icall, a_nil', a_cons, s_nil, s_cons, s_set, s_setLc, s_par, s_expr, s_ret, s_retN, s_if, s_for, s_never, s_pass, s_brk, s_cont, s_par3, s_raise, g_v', g_tup, g_sub, g_att, gs_nil, gs_cons, gs_tup, i_L, i_T, i_S, i_R1, i_ES, i_E, i_Z, p_nil, p_pair, o_nil, o_k, o_v, o_bop, o_uop, o_bi, o_ix, oQ_int, x_K, x_w, x_fn, x_gv, x_tabs, x_mth, x_prp, x_fld, x_isi, x_kwo, x_xf, x_exm, x_eis, x_lt, x_lfn, x_smt, x_cmt, y_cmt, y_K, y_w, y_fn, y_gv, y_tabs, y_mth, y_prp, y_fld, y_isi, y_kwo, y_xf, y_exm, y_eis, y_smt, isi_int, isi_str, isi_bl, isi_non, ii1, ii2, ii3, ii4, ii5, ii6, ii7, it1, it2, it3, it4, it5, it6, it7, it8, it9, it10, it11, it12, it13, r_add, r_sub, r_mul, r_div, r_mod, r_pow, r_shl, r_shr, r_and, r_or, r_xor, r_neg, r_inv, r_lt, r_le, r_gt, r_ge, r_eqI, r_neI, r_eqS, r_neS, r_inS, r_niS, b_int, b_intB, b_abs, b_lenS, r_addS, r_isN, r_eqB, r_neB, List.getElem?_cons_zero, List.getElem?_cons_succ, List.set_cons_zero, List.set_cons_succ, List.map_cons, List.map_nil, List.length_cons, List.length_nil, Nat.reduceAdd, Nat.reduceSub, List.replicate_succ, List.replicate_zero, List.cons_append, List.nil_append, List.append_nil, Bool.not_true, Bool.not_false, if_true, if_false, ite_true, ite_false, Bool.false_eq_true, Bool.true_eq_false, reduceIte]
    refine ⟨.inl (.inl ⟨by omega, by omega⟩), by decide, by omega, ?_⟩
    have hm := mod_lim (x := ((cc + 3) ^ (3 : Int).toNat + s * (a + 1 + 1)) % 2147483629) (l := lim) hl.1
    exact h _ _ hm.1 hm.2 ⟨_, _, _, _, _, b2⟩ (x1.trans ExtP.put)
  · simp only [hb, decide_false, e_k, e_v, e_g, e_bop, e_uop, e_not, e_and, e_or, e_ite, e_cmp, e_cmp2, e_lst, e_tup, e_dic, e_call, e_mk, e_bi, e_isi, e_meth, e_bm, e_icall, e_ostr, e_att, e_ix, e_sl, e_lc, e_isiM, e_methk, e_smeth, e_cmeth, e_mkv, e_mkk, kw_nil, e_oeq, e_eatt, e_eisi, t_v, t_isi, t_call, t_meth, t_bop, t_bi, t_att, t_not, t_and, t_or, t_cmp, t_cmp2, trQ_bl, blQ_bl, t_methk, t_smeth, t_oeq, t_eisi, t_ix, t_icall, a_nil', a_cons, s_nil, s_cons, s_set, s_setLc, s_par, s_expr, s_ret, s_retN, s_if, s_for, s_never, s_pass, s_brk, s_cont, s_par3, s_raise, g_v', g_tup, g_sub, g_att, gs_nil, gs_cons, gs_tup, i_L, i_T, i_S, i_R1, i_ES, i_E, i_Z, p_nil, p_pair, o_nil, o_k, o_v, o_bop, o_uop, o_bi, o_ix, oQ_int, x_K, x_w, x_fn, x_gv, x_tabs, x_mth, x_prp, x_fld, x_isi, x_kwo, x_xf, x_exm, x_eis, x_lt, x_lfn, x_smt, x_cmt, y_cmt, y_K, y_w, y_fn, y_gv, y_tabs, y_mth, y_prp, y_fld, y_isi, y_kwo, y_xf, y_exm, y_eis, y_smt, isi_int, isi_str, isi_bl, isi_non, ii1, ii2, ii3, ii4, ii5, ii6, ii7, it1, it2, it3, it4, it5, it6, it7, it8, it9, it10, it11, it12, it13, r_add, r_sub, r_mul, r_div, r_mod, r_pow, r_shl, r_shr, r_and, r_or, r_xor, r_neg, r_inv, r_lt, r_le, r_gt, r_ge, r_eqI, r_neI, r_eqS, r_neS, r_inS, r_niS, b_int, b_intB, b_abs, b_lenS, r_addS, r_isN, r_eqB, r_neB, List.getElem?_cons_zero, List.getElem?_cons_succ, List.set_cons_zero, List.set_cons_succ, List.map_cons, List.map_nil, List.length_cons, List.length_nil, Nat.reduceAdd, Nat.reduceSub, List.replicate_succ, List.replicate_zero, List.cons_append, List.nil_append, List.append_nil, Bool.not_true, Bool.not_false, if_true, if_false, ite_true, ite_false, Bool.false_eq_true, Bool.true_eq_false, reduceIte]
    refine sb_rest b2 ?_
    exact ⟨a + 1, cc, s, _, _, _, rfl, b2.put ⟨by omega, by omega, hcp, A2, A3⟩, x1.trans (ExtP.put.trans ExtP.put), by omega⟩
def stI (s c : Int) : Int := (s * 69621 + (if c < 0 then -c else c) % 2147483629 + 11) % 2147483647
theorem bag_loop {a l : Addr} {fn : Str → Sp} {W : WX} {D : Ends} {cs : List Int} (hc : H l = some (.lst (cs.map V.int))) (h : ∀ st H' v, 0 ≤ st → st < 2147483647 → Ext H H' → D.nx [some (.ref a), some (.int st), v] H') : ∀ (r : List Int) (st : Int) (v : Option V), 0 ≤ st → st < 2147483647 →
    forGo (fun H' => SqL K H' l (cs.map V.int)) (rd (hd.pg.ctx K w fn) (.v 2) W).g (rd (hd.pg.ctx K w fn) (.v 2) W).gs (rd (hd.pg.ctx K w fn) (.cons (.set (.v 1) (.bop .Mod (.bi .int (.cons (.bop .Add (.bop .Add (.bop .Mult (.v 1) (.k (V.int 69621))) (.bop .Mod (.bi .abs (.cons (.v 2) .nil)) (.k (V.int 2147483629)))) (.k (V.int 11))) .nil)) (.k (V.int 2147483647)))) .nil) W).s D ((r.map V.int).map .v) [some (.ref a), some (.int st), v] H
  | [], st, v, h1, h2 => ⟨.inl (.inl hc), h st H v h1 h2 Ext.refl⟩
  | c :: r, st, v, h1, h2 => by
    rw [List.map_cons, List.map_cons, for_v]
    refine ⟨.inl (.inl hc), ?_⟩
    simp only [e_k, e_v, e_g, e_bop, e_uop, e_not, e_and, e_or, e_ite, e_cmp, e_cmp2, e_lst, e_tup, e_dic, e_call, e_mk, e_bi, e_isi, e_meth, e_bm, e_icall, e_ostr, e_att, e_ix, e_sl, e_lc, e_isiM, e_methk, e_smeth, e_cmeth, e_mkv, e_mkk, kw_nil, e_oeq, e_eatt, e_eisi, t_v, t_isi, t_call, t_meth, t_bop, t_bi, t_att, t_not, t_and, t_or, t_cmp, t_cmp2, trQ_bl, blQ_bl, t_methk, t_smeth, t_oeq, t_eisi, t_ix, t_icall, a_nil', a_cons, s_nil, s_cons, s_set, s_setLc, s_par, s_expr, s_ret, s_retN, s_if, s_for, s_never, s_pass, s_brk, s_cont, s_par3, s_raise, g_v', g_tup, g_sub, g_att, gs_nil, gs_cons, gs_tup, i_L, i_T, i_S, i_R1, i_ES, i_E, i_Z, p_nil, p_pair, o_nil, o_k, o_v, o_bop, o_uop, o_bi, o_ix, oQ_int, x_K, x_w, x_fn, x_gv, x_tabs, x_mth, x_prp, x_fld, x_isi, x_kwo, x_xf, x_exm, x_eis, x_lt, x_lfn, x_smt, x_cmt, y_cmt, y_K, y_w, y_fn, y_gv, y_tabs, y_mth, y_prp, y_fld, y_isi, y_kwo, y_xf, y_exm, y_eis, y_smt, isi_int, isi_str, isi_bl, isi_non, ii1, ii2, ii3, ii4, ii5, ii6, ii7, it1, it2, it3, it4, it5, it6, it7, it8, it9, it10, it11, it12, it13, r_add, r_sub, r_mul, r_div, r_mod, r_pow, r_shl, r_shr, r_and, r_or, r_xor, r_neg, r_inv, r_lt, r_le, r_gt, r_ge, r_eqI, r_neI, r_eqS, r_neS, r_inS, r_niS, b_int, b_intB, b_abs, b_lenS, r_addS, r_isN, r_eqB, r_neB, List.getElem?_cons_zero, List.getElem?_cons_succ, List.set_cons_zero, List.set_cons_succ, List.map_cons, List.map_nil, List.length_cons, List.length_nil, Nat.reduceAdd, Nat.reduceSub, List.replicate_succ, List.replicate_zero, List.cons_append, List.nil_append, List.append_nil, Bool.not_true, Bool.not_false, if_true, if_false, ite_true, ite_false, Bool.false_eq_true, Bool.true_eq_false, reduceIte]
    refine ⟨.inl (.inl ⟨by omega, by omega⟩), by decide, by decide, ?_⟩
    have hs := mod_lim (x := st * 69621 + (if c < 0 then -c else c) % 2147483629 + 11) (l := 2147483647) (by decide)
    exact bag_loop hc h r _ _ hs.1 hs.2
theorem cut63 {ns : List Int} (h : ns.length ≤ 63) : cutV (ns.map V.int) none (some 63) = ns.map V.int := by
  unfold cutV
  have e : (ns.map V.int).length = ns.length := List.length_map ..
  rw [List.take_of_length_le]
  · rfl
  · rw [List.length_drop, e]
    show ns.length - 0 ≤ HT.sIx ns.length ns.length (some 63) - 0
    simp [HT.sIx]
    omega
theorem c_bag {a : Addr} {ns : List Int} (ha : SqL K H a (ns.map V.int)) (hl : ns.length ≤ 63) (hn : 1 ≤ n) (h : ∀ p H', H p = none → Ext H H' → Bag H' p → Q (.ref p) H') : run hd.pg K w n s__law_bag [.ref a] H Q E := by
  refine run_at f__law_bag hn rfl ?_
  simp only [d__law_bag, b__law_bag, L2.start, e_k, e_v, e_g, e_bop, e_uop, e_not, e_and, e_or, e_ite, e_cmp, e_cmp2, e_lst, e_tup, e_dic, e_call, e_mk, e_bi, e_isi, e_meth, e_bm, e_icall, e_ostr, e_att, e_ix, e_sl, e_lc, e_isiM, e_methk, e_smeth, e_cmeth, e_mkv, e_mkk, kw_nil, e_oeq, e_eatt, e_eisi, t_v, t_isi, t_call, t_meth, t_bop, t_bi, t_att, t_not, t_and, t_or, t_cmp, t_cmp2, trQ_bl, blQ_bl, t_methk, t_smeth, t_oeq, t_eisi, t_ix, t_icall, a_nil', a_cons, s_nil, s_cons, s_set, s_setLc, s_par, s_expr, s_ret, s_retN, s_if, s_for, s_never, s_pass, s_brk, s_cont, s_par3, s_raise, g_v', g_tup, g_sub, g_att, gs_nil, gs_cons, gs_tup, i_L, i_T, i_S, i_R1, i_ES, i_E, i_Z, p_nil, p_pair, o_nil, o_k, o_v, o_bop, o_uop, o_bi, o_ix, oQ_int, x_K, x_w, x_fn, x_gv, x_tabs, x_mth, x_prp, x_fld, x_isi, x_kwo, x_xf, x_exm, x_eis, x_lt, x_lfn, x_smt, x_cmt, y_cmt, y_K, y_w, y_fn, y_gv, y_tabs, y_mth, y_prp, y_fld, y_isi, y_kwo, y_xf, y_exm, y_eis, y_smt, isi_int, isi_str, isi_bl, isi_non, ii1, ii2, ii3, ii4, ii5, ii6, ii7, it1, it2, it3, it4, it5, it6, it7, it8, it9, it10, it11, it12, it13, r_add, r_sub, r_mul, r_div, r_mod, r_pow, r_shl, r_shr, r_and, r_or, r_xor, r_neg, r_inv, r_lt, r_le, r_gt, r_ge, r_eqI, r_neI, r_eqS, r_neS, r_inS, r_niS, b_int, b_intB, b_abs, b_lenS, r_addS, r_isN, r_eqB, r_neB, List.getElem?_cons_zero, List.getElem?_cons_succ, List.set_cons_zero, List.set_cons_succ, List.map_cons, List.map_nil, List.length_cons, List.length_nil, Nat.reduceAdd, Nat.reduceSub, List.replicate_succ, List.replicate_zero, List.cons_append, List.nil_append, List.append_nil, Bool.not_true, Bool.not_false, if_true, if_false, ite_true, ite_false, Bool.false_eq_true, Bool.true_eq_false, reduceIte]
  refine x_slL ha fun l hl0 => ?_
  rw [cut63 hl]
  simp only [e_k, e_v, e_g, e_bop, e_uop, e_not, e_and, e_or, e_ite, e_cmp, e_cmp2, e_lst, e_tup, e_dic, e_call, e_mk, e_bi, e_isi, e_meth, e_bm, e_icall, e_ostr, e_att, e_ix, e_sl, e_lc, e_isiM, e_methk, e_smeth, e_cmeth, e_mkv, e_mkk, kw_nil, e_oeq, e_eatt, e_eisi, t_v, t_isi, t_call, t_meth, t_bop, t_bi, t_att, t_not, t_and, t_or, t_cmp, t_cmp2, trQ_bl, blQ_bl, t_methk, t_smeth, t_oeq, t_eisi, t_ix, t_icall, a_nil', a_cons, s_nil, s_cons, s_set, s_setLc, s_par, s_expr, s_ret, s_retN, s_if, s_for, s_never, s_pass, s_brk, s_cont, s_par3, s_raise, g_v', g_tup, g_sub, g_att, gs_nil, gs_cons, gs_tup, i_L, i_T, i_S, i_R1, i_ES, i_E, i_Z, p_nil, p_pair, o_nil, o_k, o_v, o_bop, o_uop, o_bi, o_ix, oQ_int, x_K, x_w, x_fn, x_gv, x_tabs, x_mth, x_prp, x_fld, x_isi, x_kwo, x_xf, x_exm, x_eis, x_lt, x_lfn, x_smt, x_cmt, y_cmt, y_K, y_w, y_fn, y_gv, y_tabs, y_mth, y_prp, y_fld, y_isi, y_kwo, y_xf, y_exm, y_eis, y_smt, isi_int, isi_str, isi_bl, isi_non, ii1, ii2, ii3, ii4, ii5, ii6, ii7, it1, it2, it3, it4, it5, it6, it7, it8, it9, it10, it11, it12, it13, r_add, r_sub, r_mul, r_div, r_mod, r_pow, r_shl, r_shr, r_and, r_or, r_xor, r_neg, r_inv, r_lt, r_le, r_gt, r_ge, r_eqI, r_neI, r_eqS, r_neS, r_inS, r_niS, b_int, b_intB, b_abs, b_lenS, r_addS, r_isN, r_eqB, r_neB, List.getElem?_cons_zero, List.getElem?_cons_succ, List.set_cons_zero, List.set_cons_succ, List.map_cons, List.map_nil, List.length_cons, List.length_nil, Nat.reduceAdd, Nat.reduceSub, List.replicate_succ, List.replicate_zero, List.cons_append, List.nil_append, List.append_nil, Bool.not_true, Bool.not_false, if_true, if_false, ite_true, ite_false, Bool.false_eq_true, Bool.true_eq_false, reduceIte]
  refine ⟨_, .inl (.inl upd_same), ?_⟩
  refine bag_loop upd_same (fun st H1 v s0 s1 x1 => ?_) ns 7 _ (by decide) (by decide)
  have x0 : Ext H H1 := (Ext.new hl0).trans x1
  simp only [e_k, e_v, e_g, e_bop, e_uop, e_not, e_and, e_or, e_ite, e_cmp, e_cmp2, e_lst, e_tup, e_dic, e_call, e_mk, e_bi, e_isi, e_meth, e_bm, e_icall, e_ostr, e_att, e_ix, e_sl, e_lc, e_isiM, e_methk, e_smeth, e_cmeth, e_mkv, e_mkk, kw_nil, e_oeq, e_eatt, e_eisi, t_v, t_isi, t_call, t_meth, t_bop, t_bi, t_att, t_not, t_and, t_or, t_cmp, t_cmp2, trQ_bl, blQ_bl, t_methk, t_smeth, t_oeq, t_eisi, t_ix, t_icall, a_nil', a_cons, s_nil, s_cons, s_set, s_setLc, s_par, s_expr, s_ret, s_retN, s_if, s_for, s_never, s_pass, s_brk, s_cont, s_par3, s_raise, g_v', g_tup, g_sub, g_att, gs_nil, gs_cons, gs_tup, i_L, i_T, i_S, i_R1, i_ES, i_E, i_Z, p_nil, p_pair, o_nil, o_k, o_v, o_bop, o_uop, o_bi, o_ix, oQ_int, x_K, x_w, x_fn, x_gv, x_tabs, x_mth, x_prp, x_fld, x_isi, x_kwo, x_xf, x_exm, x_eis, x_lt, x_lfn, x_smt, x_cmt, y_cmt, y_K, y_w, y_fn, y_gv, y_tabs, y_mth, y_prp, y_fld, y_isi, y_kwo, y_xf, y_exm, y_eis, y_smt, isi_int, isi_str, isi_bl, isi_non, ii1, ii2, ii3, ii4, ii5, ii6, ii7, it1, it2, it3, it4, it5, it6, it7, it8, it9, it10, it11, it12, it13, r_add, r_sub, r_mul, r_div, r_mod, r_pow, r_shl, r_shr, r_and, r_or, r_xor, r_neg, r_inv, r_lt, r_le, r_gt, r_ge, r_eqI, r_neI, r_eqS, r_neS, r_inS, r_niS, b_int, b_intB, b_abs, b_lenS, r_addS, r_isN, r_eqB, r_neB, List.getElem?_cons_zero, List.getElem?_cons_succ, List.set_cons_zero, List.set_cons_succ, List.map_cons, List.map_nil, List.length_cons, List.length_nil, Nat.reduceAdd, Nat.reduceSub, List.replicate_succ, List.replicate_zero, List.cons_append, List.nil_append, List.append_nil, Bool.not_true, Bool.not_false, if_true, if_false, ite_true, ite_false, Bool.false_eq_true, Bool.true_eq_false, reduceIte]
  intro p hp
  simp only [tPairs, e_k, e_v, e_g, e_bop, e_uop, e_not, e_and, e_or, e_ite, e_cmp, e_cmp2, e_lst, e_tup, e_dic, e_call, e_mk, e_bi, e_isi, e_meth, e_bm, e_icall, e_ostr, e_att, e_ix, e_sl, e_lc, e_isiM, e_methk, e_smeth, e_cmeth, e_mkv, e_mkk, kw_nil, e_oeq, e_eatt, e_eisi, t_v, t_isi, t_call, t_meth, t_bop, t_bi, t_att, t_not, t_and, t_or, t_cmp, t_cmp2, trQ_bl, blQ_bl, t_methk, t_smeth, t_oeq, t_eisi, t_ix, t_icall, a_nil', a_cons, s_nil, s_cons, s_set, s_setLc, s_par, s_expr, s_ret, s_retN, s_if, s_for, s_never, s_pass, s_brk, s_cont, s_par3, s_raise, g_v', g_tup, g_sub, g_att, gs_nil, gs_cons, gs_tup, i_L, i_T, i_S, i_R1, i_ES, i_E, i_Z, p_nil, p_pair, o_nil, o_k, o_v, o_bop, o_uop, o_bi, o_ix, oQ_int, x_K, x_w, x_fn, x_gv, x_tabs, x_mth, x_prp, x_fld, x_isi, x_kwo, x_xf, x_exm, x_eis, x_lt, x_lfn, x_smt, x_cmt, y_cmt, y_K, y_w, y_fn, y_gv, y_tabs, y_mth, y_prp, y_fld, y_isi, y_kwo, y_xf, y_exm, y_eis, y_smt, isi_int, isi_str, isi_bl, isi_non, ii1, ii2, ii3, ii4, ii5, ii6, ii7, it1, it2, it3, it4, it5, it6, it7, it8, it9, it10, it11, it12, it13, r_add, r_sub, r_mul, r_div, r_mod, r_pow, r_shl, r_shr, r_and, r_or, r_xor, r_neg, r_inv, r_lt, r_le, r_gt, r_ge, r_eqI, r_neI, r_eqS, r_neS, r_inS, r_niS, b_int, b_intB, b_abs, b_lenS, r_addS, r_isN, r_eqB, r_neB, List.getElem?_cons_zero, List.getElem?_cons_succ, List.set_cons_zero, List.set_cons_succ, List.map_cons, List.map_nil, List.length_cons, List.length_nil, Nat.reduceAdd, Nat.reduceSub, List.replicate_succ, List.replicate_zero, List.cons_append, List.nil_append, List.append_nil, Bool.not_true, Bool.not_false, if_true, if_false, ite_true, ite_false, Bool.false_eq_true, Bool.true_eq_false, reduceIte]
  refine x_slL (SqL.extU ((x0.upd_of hp)) ha) fun l2 hl2 => ?_
  rw [cut63 hl]
  refine ⟨_, .inl (.inl (.inl upd_same)), fun l3 hl3 => ?_⟩
  have hp2 : l2 ≠ p := fun e => by
    rw [e, upd_same] at hl2
    cases hl2
  have hp3 : l3 ≠ p := fun e => by
    rw [e, upd_ne hp2.symm, upd_same] at hl3
    cases hl3
  refine ⟨?_, [(.inr (S [99, 101, 108, 108, 115]), .ref l3), (.inr (S [97, 116]), .int 0), (.inr (S [114, 101, 115, 116]), .int 0), (.inr (S [115, 116, 97, 116, 101]), .int st)], rfl, (by decide : 4 ≤ 15), ?_⟩
  · rw [upd_ne hp3.symm, upd_ne hp2.symm, upd_same]
  have em : mergeK [] [(.inr (S [99, 101, 108, 108, 115]), .ref l3), (.inr (S [97, 116]), .int 0), (.inr (S [114, 101, 115, 116]), .int 0), (.inr (S [115, 116, 97, 116, 101]), .int st)] = ([(.inr (S [99, 101, 108, 108, 115]), .ref l3), (.inr (S [97, 116]), .int 0), (.inr (S [114, 101, 115, 116]), .int 0), (.inr (S [115, 116, 97, 116, 101]), .int st)] : List (Key × V)) := rfl
  rw [em]
  have hpH : H p = none := none_of x0 hp
  refine h p _ hpH ?_ ⟨l3, ns, 0, 0, st, ⟨upd_same, ?_, by decide, by omega, hl, by decide, s0, s1⟩⟩
  · exact ((((x0.upd_of hp)).upd_of hl2).upd_of hl3).put hpH
  · rw [upd_ne hp3, upd_same]
end U

namespace U
open PySem PySem.Spec PyProof.Rows L2
variable {K : PySem.W.Frag} {w : World} {n : Nat} {H : Hp} {Q : VK} {E : XK}
/-- two values that are alike, k deep -/
inductive Same (H : Hp) : Nat → V → V → Prop
  | non {k : Nat} : Same H k .non .non
  | bl {k : Nat} {b : Bool} : Same H k (.bl b) (.bl b)
  | int {k : Nat} {b : Int} : Same H k (.int b) (.int b)
  | str {k : Nat} {b : Str} : Same H k (.str b) (.str b)
  | lst {k : Nat} {a b : Addr} {xs ys : List V} : H a = some (.lst xs) → H b = some (.lst ys) → xs.length = ys.length → ys.length ≤ 1000 → (∀ (i : Nat) x y, xs[i]? = some x → ys[i]? = some y → Same H k x y) → Same H (k + 1) (.ref a) (.ref b)
  | tup {k : Nat} {a b : Addr} {xs ys : List V} : H a = some (.tup xs) → H b = some (.tup ys) → xs.length = ys.length → ys.length ≤ 1000 → (∀ (i : Nat) x y, xs[i]? = some x → ys[i]? = some y → Same H k x y) → Same H (k + 1) (.ref a) (.ref b)
theorem Same.ext {H' : Hp} (x : Ext H H') {k : Nat} {u v : V} (h : Same H k u v) : Same H' k u v := by
  induction h with
  | non => exact .non
  | bl => exact .bl
  | int => exact .int
  | str => exact .str
  | lst h1 h2 h3 h4 _ ih => exact .lst (x.get h1) (x.get h2) h3 h4 ih
  | tup h1 h2 h3 h4 _ ih => exact .tup (x.get h1) (x.get h2) h3 h4 ih
theorem same_loop {a b : Addr} {xs ys : List V} {m : Nat} {W : WX} {D : Ends} (hx : ∀ H', Ext H H' → ∀ (i : Nat) v, xs[i]? = some v → ∀ {T : List KTab} {Q : VK}, Q v H' → rIxU K w T (.ref a) (.int (i : Nat)) H' Q)
    (hy : ∀ H', Ext H H' → ∀ (i : Nat) v, ys[i]? = some v → ∀ {T : List KTab} {Q : VK}, Q v H' → rIxU K w T (.ref b) (.int (i : Nat)) H' Q) (hl : xs.length = ys.length)
    (rec_ : ∀ (i : Nat) x y, xs[i]? = some x → ys[i]? = some y → ∀ H' (Q : VK) (E : XK), Ext H H' → (∀ H'', Ext H' H'' → Q (.bl true) H'') → run hd.pg K w m s__law_same [x, y] H' Q E)
    (h : ∀ H' v, Ext H H' → D.nx [some (.ref a), some (.ref b), v] H') : ∀ (r : List Nat) (H' : Hp) (v : Option V), Ext H H' → (∀ i ∈ r, i < ys.length) →
    forGo (fun _ => True) (rd (hd.pg.ctx K w (run hd.pg K w m)) (.v 2) W).g (rd (hd.pg.ctx K w (run hd.pg K w m)) (.v 2) W).gs (rd (hd.pg.ctx K w (run hd.pg K w m)) (.cons (.if_ (.not (.call s__law_same (.cons (.ix (.v 0) (.v 2)) (.cons (.ix (.v 1) (.v 2)) .nil)))) (.cons (.ret (.k (V.bl false))) .nil) .nil) .nil) W).s D (r.map fun i => .v (.int (i : Nat))) [some (.ref a), some (.ref b), v] H'
  | [], H', v, x, _ => ⟨trivial, h H' v x⟩
  | i :: r, H', v, x, hi => by
    rw [List.map_cons, for_v]
    refine ⟨trivial, ?_⟩
    simp only [e_k, e_v, e_g, e_bop, e_uop, e_not, e_and, e_or, e_ite, e_cmp, e_cmp2, e_lst, e_tup, e_dic, e_call, e_mk, e_bi, e_isi, e_meth, e_bm, e_icall, e_ostr, e_att, e_ix, e_sl, e_lc, e_isiM, e_methk, e_smeth, e_cmeth, e_mkv, e_mkk, kw_nil, e_oeq, e_eatt, e_eisi, t_v, t_isi, t_call, t_meth, t_bop, t_bi, t_att, t_not, t_and, t_or, t_cmp, t_cmp2, trQ_bl, blQ_bl, t_methk, t_smeth, t_oeq, t_eisi, t_ix, t_icall, a_nil', a_cons, s_nil, s_cons, s_set, s_setLc, s_par, s_expr, s_ret, s_retN, s_if, s_for, s_never, s_pass, s_brk, s_cont, s_par3, s_raise, g_v', g_tup, g_sub, g_att, gs_nil, gs_cons, gs_tup, i_L, i_T, i_S, i_R1, i_ES, i_E, i_Z, p_nil, p_pair, o_nil, o_k, o_v, o_bop, o_uop, o_bi, o_ix, oQ_int, x_K, x_w, x_fn, x_gv, x_tabs, x_mth, x_prp, x_fld, x_isi, x_kwo, x_xf, x_exm, x_eis, x_lt, x_lfn, x_smt, x_cmt, y_cmt, y_K, y_w, y_fn, y_gv, y_tabs, y_mth, y_prp, y_fld, y_isi, y_kwo, y_xf, y_exm, y_eis, y_smt, isi_int, isi_str, isi_bl, isi_non, ii1, ii2, ii3, ii4, ii5, ii6, ii7, it1, it2, it3, it4, it5, it6, it7, it8, it9, it10, it11, it12, it13, r_add, r_sub, r_mul, r_div, r_mod, r_pow, r_shl, r_shr, r_and, r_or, r_xor, r_neg, r_inv, r_lt, r_le, r_gt, r_ge, r_eqI, r_neI, r_eqS, r_neS, r_inS, r_niS, b_int, b_intB, b_abs, b_lenS, r_addS, r_isN, r_eqB, r_neB, List.getElem?_cons_zero, List.getElem?_cons_succ, List.set_cons_zero, List.set_cons_succ, List.map_cons, List.map_nil, List.length_cons, List.length_nil, Nat.reduceAdd, Nat.reduceSub, List.replicate_succ, List.replicate_zero, List.cons_append, List.nil_append, List.append_nil, Bool.not_true, Bool.not_false, if_true, if_false, ite_true, ite_false, Bool.false_eq_true, Bool.true_eq_false, reduceIte]
    have h1 := hi i (List.mem_cons_self ..)
    obtain ⟨y, ey⟩ : ∃ y, ys[i]? = some y := ⟨_, List.getElem?_eq_getElem h1⟩
    obtain ⟨z, ez⟩ : ∃ y, xs[i]? = some y := ⟨_, List.getElem?_eq_getElem (hl ▸ h1)⟩
    refine hx H' x i z ez ?_
    refine hy H' x i y ey ?_
    refine rec_ i z y ez ey H' _ _ x fun H'' x' => ?_
    simp only [e_k, e_v, e_g, e_bop, e_uop, e_not, e_and, e_or, e_ite, e_cmp, e_cmp2, e_lst, e_tup, e_dic, e_call, e_mk, e_bi, e_isi, e_meth, e_bm, e_icall, e_ostr, e_att, e_ix, e_sl, e_lc, e_isiM, e_methk, e_smeth, e_cmeth, e_mkv, e_mkk, kw_nil, e_oeq, e_eatt, e_eisi, t_v, t_isi, t_call, t_meth, t_bop, t_bi, t_att, t_not, t_and, t_or, t_cmp, t_cmp2, trQ_bl, blQ_bl, t_methk, t_smeth, t_oeq, t_eisi, t_ix, t_icall, a_nil', a_cons, s_nil, s_cons, s_set, s_setLc, s_par, s_expr, s_ret, s_retN, s_if, s_for, s_never, s_pass, s_brk, s_cont, s_par3, s_raise, g_v', g_tup, g_sub, g_att, gs_nil, gs_cons, gs_tup, i_L, i_T, i_S, i_R1, i_ES, i_E, i_Z, p_nil, p_pair, o_nil, o_k, o_v, o_bop, o_uop, o_bi, o_ix, oQ_int, x_K, x_w, x_fn, x_gv, x_tabs, x_mth, x_prp, x_fld, x_isi, x_kwo, x_xf, x_exm, x_eis, x_lt, x_lfn, x_smt, x_cmt, y_cmt, y_K, y_w, y_fn, y_gv, y_tabs, y_mth, y_prp, y_fld, y_isi, y_kwo, y_xf, y_exm, y_eis, y_smt, isi_int, isi_str, isi_bl, isi_non, ii1, ii2, ii3, ii4, ii5, ii6, ii7, it1, it2, it3, it4, it5, it6, it7, it8, it9, it10, it11, it12, it13, r_add, r_sub, r_mul, r_div, r_mod, r_pow, r_shl, r_shr, r_and, r_or, r_xor, r_neg, r_inv, r_lt, r_le, r_gt, r_ge, r_eqI, r_neI, r_eqS, r_neS, r_inS, r_niS, b_int, b_intB, b_abs, b_lenS, r_addS, r_isN, r_eqB, r_neB, List.getElem?_cons_zero, List.getElem?_cons_succ, List.set_cons_zero, List.set_cons_succ, List.map_cons, List.map_nil, List.length_cons, List.length_nil, Nat.reduceAdd, Nat.reduceSub, List.replicate_succ, List.replicate_zero, List.cons_append, List.nil_append, List.append_nil, Bool.not_true, Bool.not_false, if_true, if_false, ite_true, ite_false, Bool.false_eq_true, Bool.true_eq_false, reduceIte]
    exact same_loop hx hy hl rec_ h r H'' _ (x.trans x') fun j hj => hi j (List.mem_cons_of_mem _ hj)
theorem mem_rng {m i : Nat} (h : i ∈ List.range m) : i < m := List.mem_range.mp h
theorem c_same {k : Nat} {u v : V} (hs : Same H k u v) : ∀ {n : Nat} {H' : Hp} {Q : VK} {E : XK}, k + 1 ≤ n → Ext H H' → (∀ H'', Ext H' H'' → Q (.bl true) H'') → run hd.pg K w n s__law_same [u, v] H' Q E := by
  induction hs with
  | non =>
    intro n H' Q E hn x h
    refine run_at f__law_same (by omega) rfl ?_
    simp only [d__law_same, b__law_same, L2.start, beq_self_eq_true, Bool.false_xor, e_k, e_v, e_g, e_bop, e_uop, e_not, e_and, e_or, e_ite, e_cmp, e_cmp2, e_lst, e_tup, e_dic, e_call, e_mk, e_bi, e_isi, e_meth, e_bm, e_icall, e_ostr, e_att, e_ix, e_sl, e_lc, e_isiM, e_methk, e_smeth, e_cmeth, e_mkv, e_mkk, kw_nil, e_oeq, e_eatt, e_eisi, t_v, t_isi, t_call, t_meth, t_bop, t_bi, t_att, t_not, t_and, t_or, t_cmp, t_cmp2, trQ_bl, blQ_bl, t_methk, t_smeth, t_oeq, t_eisi, t_ix, t_icall, a_nil', a_cons, s_nil, s_cons, s_set, s_setLc, s_par, s_expr, s_ret, s_retN, s_if, s_for, s_never, s_pass, s_brk, s_cont, s_par3, s_raise, g_v', g_tup, g_sub, g_att, gs_nil, gs_cons, gs_tup, i_L, i_T, i_S, i_R1, i_ES, i_E, i_Z, p_nil, p_pair, o_nil, o_k, o_v, o_bop, o_uop, o_bi, o_ix, oQ_int, x_K, x_w, x_fn, x_gv, x_tabs, x_mth, x_prp, x_fld, x_isi, x_kwo, x_xf, x_exm, x_eis, x_lt, x_lfn, x_smt, x_cmt, y_cmt, y_K, y_w, y_fn, y_gv, y_tabs, y_mth, y_prp, y_fld, y_isi, y_kwo, y_xf, y_exm, y_eis, y_smt, isi_int, isi_str, isi_bl, isi_non, ii1, ii2, ii3, ii4, ii5, ii6, ii7, it1, it2, it3, it4, it5, it6, it7, it8, it9, it10, it11, it12, it13, r_add, r_sub, r_mul, r_div, r_mod, r_pow, r_shl, r_shr, r_and, r_or, r_xor, r_neg, r_inv, r_lt, r_le, r_gt, r_ge, r_eqI, r_neI, r_eqS, r_neS, r_inS, r_niS, b_int, b_intB, b_abs, b_lenS, r_addS, r_isN, r_eqB, r_neB, List.getElem?_cons_zero, List.getElem?_cons_succ, List.set_cons_zero, List.set_cons_succ, List.map_cons, List.map_nil, List.length_cons, List.length_nil, Nat.reduceAdd, Nat.reduceSub, List.replicate_succ, List.replicate_zero, List.cons_append, List.nil_append, List.append_nil, Bool.not_true, Bool.not_false, if_true, if_false, ite_true, ite_false, Bool.false_eq_true, Bool.true_eq_false, reduceIte]
    exact fun p hp => h _ (Ext.new hp)
  | bl =>
    intro n H' Q E hn x h
    refine run_at f__law_same (by omega) rfl ?_
    simp only [d__law_same, b__law_same, L2.start, beq_self_eq_true, Bool.false_xor, e_k, e_v, e_g, e_bop, e_uop, e_not, e_and, e_or, e_ite, e_cmp, e_cmp2, e_lst, e_tup, e_dic, e_call, e_mk, e_bi, e_isi, e_meth, e_bm, e_icall, e_ostr, e_att, e_ix, e_sl, e_lc, e_isiM, e_methk, e_smeth, e_cmeth, e_mkv, e_mkk, kw_nil, e_oeq, e_eatt, e_eisi, t_v, t_isi, t_call, t_meth, t_bop, t_bi, t_att, t_not, t_and, t_or, t_cmp, t_cmp2, trQ_bl, blQ_bl, t_methk, t_smeth, t_oeq, t_eisi, t_ix, t_icall, a_nil', a_cons, s_nil, s_cons, s_set, s_setLc, s_par, s_expr, s_ret, s_retN, s_if, s_for, s_never, s_pass, s_brk, s_cont, s_par3, s_raise, g_v', g_tup, g_sub, g_att, gs_nil, gs_cons, gs_tup, i_L, i_T, i_S, i_R1, i_ES, i_E, i_Z, p_nil, p_pair, o_nil, o_k, o_v, o_bop, o_uop, o_bi, o_ix, oQ_int, x_K, x_w, x_fn, x_gv, x_tabs, x_mth, x_prp, x_fld, x_isi, x_kwo, x_xf, x_exm, x_eis, x_lt, x_lfn, x_smt, x_cmt, y_cmt, y_K, y_w, y_fn, y_gv, y_tabs, y_mth, y_prp, y_fld, y_isi, y_kwo, y_xf, y_exm, y_eis, y_smt, isi_int, isi_str, isi_bl, isi_non, ii1, ii2, ii3, ii4, ii5, ii6, ii7, it1, it2, it3, it4, it5, it6, it7, it8, it9, it10, it11, it12, it13, r_add, r_sub, r_mul, r_div, r_mod, r_pow, r_shl, r_shr, r_and, r_or, r_xor, r_neg, r_inv, r_lt, r_le, r_gt, r_ge, r_eqI, r_neI, r_eqS, r_neS, r_inS, r_niS, b_int, b_intB, b_abs, b_lenS, r_addS, r_isN, r_eqB, r_neB, List.getElem?_cons_zero, List.getElem?_cons_succ, List.set_cons_zero, List.set_cons_succ, List.map_cons, List.map_nil, List.length_cons, List.length_nil, Nat.reduceAdd, Nat.reduceSub, List.replicate_succ, List.replicate_zero, List.cons_append, List.nil_append, List.append_nil, Bool.not_true, Bool.not_false, if_true, if_false, ite_true, ite_false, Bool.false_eq_true, Bool.true_eq_false, reduceIte]
    exact fun p hp => h _ (Ext.new hp)
  | int =>
    intro n H' Q E hn x h
    refine run_at f__law_same (by omega) rfl ?_
    simp only [d__law_same, b__law_same, L2.start, beq_self_eq_true, Bool.false_xor, e_k, e_v, e_g, e_bop, e_uop, e_not, e_and, e_or, e_ite, e_cmp, e_cmp2, e_lst, e_tup, e_dic, e_call, e_mk, e_bi, e_isi, e_meth, e_bm, e_icall, e_ostr, e_att, e_ix, e_sl, e_lc, e_isiM, e_methk, e_smeth, e_cmeth, e_mkv, e_mkk, kw_nil, e_oeq, e_eatt, e_eisi, t_v, t_isi, t_call, t_meth, t_bop, t_bi, t_att, t_not, t_and, t_or, t_cmp, t_cmp2, trQ_bl, blQ_bl, t_methk, t_smeth, t_oeq, t_eisi, t_ix, t_icall, a_nil', a_cons, s_nil, s_cons, s_set, s_setLc, s_par, s_expr, s_ret, s_retN, s_if, s_for, s_never, s_pass, s_brk, s_cont, s_par3, s_raise, g_v', g_tup, g_sub, g_att, gs_nil, gs_cons, gs_tup, i_L, i_T, i_S, i_R1, i_ES, i_E, i_Z, p_nil, p_pair, o_nil, o_k, o_v, o_bop, o_uop, o_bi, o_ix, oQ_int, x_K, x_w, x_fn, x_gv, x_tabs, x_mth, x_prp, x_fld, x_isi, x_kwo, x_xf, x_exm, x_eis, x_lt, x_lfn, x_smt, x_cmt, y_cmt, y_K, y_w, y_fn, y_gv, y_tabs, y_mth, y_prp, y_fld, y_isi, y_kwo, y_xf, y_exm, y_eis, y_smt, isi_int, isi_str, isi_bl, isi_non, ii1, ii2, ii3, ii4, ii5, ii6, ii7, it1, it2, it3, it4, it5, it6, it7, it8, it9, it10, it11, it12, it13, r_add, r_sub, r_mul, r_div, r_mod, r_pow, r_shl, r_shr, r_and, r_or, r_xor, r_neg, r_inv, r_lt, r_le, r_gt, r_ge, r_eqI, r_neI, r_eqS, r_neS, r_inS, r_niS, b_int, b_intB, b_abs, b_lenS, r_addS, r_isN, r_eqB, r_neB, List.getElem?_cons_zero, List.getElem?_cons_succ, List.set_cons_zero, List.set_cons_succ, List.map_cons, List.map_nil, List.length_cons, List.length_nil, Nat.reduceAdd, Nat.reduceSub, List.replicate_succ, List.replicate_zero, List.cons_append, List.nil_append, List.append_nil, Bool.not_true, Bool.not_false, if_true, if_false, ite_true, ite_false, Bool.false_eq_true, Bool.true_eq_false, reduceIte]
    exact fun p hp => h _ (Ext.new hp)
  | str =>
    intro n H' Q E hn x h
    refine run_at f__law_same (by omega) rfl ?_
    simp only [d__law_same, b__law_same, L2.start, beq_self_eq_true, Bool.false_xor, e_k, e_v, e_g, e_bop, e_uop, e_not, e_and, e_or, e_ite, e_cmp, e_cmp2, e_lst, e_tup, e_dic, e_call, e_mk, e_bi, e_isi, e_meth, e_bm, e_icall, e_ostr, e_att, e_ix, e_sl, e_lc, e_isiM, e_methk, e_smeth, e_cmeth, e_mkv, e_mkk, kw_nil, e_oeq, e_eatt, e_eisi, t_v, t_isi, t_call, t_meth, t_bop, t_bi, t_att, t_not, t_and, t_or, t_cmp, t_cmp2, trQ_bl, blQ_bl, t_methk, t_smeth, t_oeq, t_eisi, t_ix, t_icall, a_nil', a_cons, s_nil, s_cons, s_set, s_setLc, s_par, s_expr, s_ret, s_retN, s_if, s_for, s_never, s_pass, s_brk, s_cont, s_par3, s_raise, g_v', g_tup, g_sub, g_att, gs_nil, gs_cons, gs_tup, i_L, i_T, i_S, i_R1, i_ES, i_E, i_Z, p_nil, p_pair, o_nil, o_k, o_v, o_bop, o_uop, o_bi, o_ix, oQ_int, x_K, x_w, x_fn, x_gv, x_tabs, x_mth, x_prp, x_fld, x_isi, x_kwo, x_xf, x_exm, x_eis, x_lt, x_lfn, x_smt, x_cmt, y_cmt, y_K, y_w, y_fn, y_gv, y_tabs, y_mth, y_prp, y_fld, y_isi, y_kwo, y_xf, y_exm, y_eis, y_smt, isi_int, isi_str, isi_bl, isi_non, ii1, ii2, ii3, ii4, ii5, ii6, ii7, it1, it2, it3, it4, it5, it6, it7, it8, it9, it10, it11, it12, it13, r_add, r_sub, r_mul, r_div, r_mod, r_pow, r_shl, r_shr, r_and, r_or, r_xor, r_neg, r_inv, r_lt, r_le, r_gt, r_ge, r_eqI, r_neI, r_eqS, r_neS, r_inS, r_niS, b_int, b_intB, b_abs, b_lenS, r_addS, r_isN, r_eqB, r_neB, List.getElem?_cons_zero, List.getElem?_cons_succ, List.set_cons_zero, List.set_cons_succ, List.map_cons, List.map_nil, List.length_cons, List.length_nil, Nat.reduceAdd, Nat.reduceSub, List.replicate_succ, List.replicate_zero, List.cons_append, List.nil_append, List.append_nil, Bool.not_true, Bool.not_false, if_true, if_false, ite_true, ite_false, Bool.false_eq_true, Bool.true_eq_false, reduceIte]
    exact fun p hp => h _ (Ext.new hp)
  | @lst k a b xs ys h1 h2 h3 h4 h5 ih =>
    intro n H' Q E hn x h
    refine run_at f__law_same (by omega) rfl ?_
    simp only [d__law_same, b__law_same, L2.start, e_k, e_v, e_g, e_bop, e_uop, e_not, e_and, e_or, e_ite, e_cmp, e_cmp2, e_lst, e_tup, e_dic, e_call, e_mk, e_bi, e_isi, e_meth, e_bm, e_icall, e_ostr, e_att, e_ix, e_sl, e_lc, e_isiM, e_methk, e_smeth, e_cmeth, e_mkv, e_mkk, kw_nil, e_oeq, e_eatt, e_eisi, t_v, t_isi, t_call, t_meth, t_bop, t_bi, t_att, t_not, t_and, t_or, t_cmp, t_cmp2, trQ_bl, blQ_bl, t_methk, t_smeth, t_oeq, t_eisi, t_ix, t_icall, a_nil', a_cons, s_nil, s_cons, s_set, s_setLc, s_par, s_expr, s_ret, s_retN, s_if, s_for, s_never, s_pass, s_brk, s_cont, s_par3, s_raise, g_v', g_tup, g_sub, g_att, gs_nil, gs_cons, gs_tup, i_L, i_T, i_S, i_R1, i_ES, i_E, i_Z, p_nil, p_pair, o_nil, o_k, o_v, o_bop, o_uop, o_bi, o_ix, oQ_int, x_K, x_w, x_fn, x_gv, x_tabs, x_mth, x_prp, x_fld, x_isi, x_kwo, x_xf, x_exm, x_eis, x_lt, x_lfn, x_smt, x_cmt, y_cmt, y_K, y_w, y_fn, y_gv, y_tabs, y_mth, y_prp, y_fld, y_isi, y_kwo, y_xf, y_exm, y_eis, y_smt, isi_int, isi_str, isi_bl, isi_non, ii1, ii2, ii3, ii4, ii5, ii6, ii7, it1, it2, it3, it4, it5, it6, it7, it8, it9, it10, it11, it12, it13, r_add, r_sub, r_mul, r_div, r_mod, r_pow, r_shl, r_shr, r_and, r_or, r_xor, r_neg, r_inv, r_lt, r_le, r_gt, r_ge, r_eqI, r_neI, r_eqS, r_neS, r_inS, r_niS, b_int, b_intB, b_abs, b_lenS, r_addS, r_isN, r_eqB, r_neB, List.getElem?_cons_zero, List.getElem?_cons_succ, List.set_cons_zero, List.set_cons_succ, List.map_cons, List.map_nil, List.length_cons, List.length_nil, Nat.reduceAdd, Nat.reduceSub, List.replicate_succ, List.replicate_zero, List.cons_append, List.nil_append, List.append_nil, Bool.not_true, Bool.not_false, if_true, if_false, ite_true, ite_false, Bool.false_eq_true, Bool.true_eq_false, reduceIte]
    intro p1 hp1
    have x1 := Ext.new (o := HO.tup [V.ty "tuple", V.ty "list"]) hp1
    have y1 := x.trans x1
    refine isi_rd (.inl (y1.get h2)) rfl ?_
    simp only [it5, e_k, e_v, e_g, e_bop, e_uop, e_not, e_and, e_or, e_ite, e_cmp, e_cmp2, e_lst, e_tup, e_dic, e_call, e_mk, e_bi, e_isi, e_meth, e_bm, e_icall, e_ostr, e_att, e_ix, e_sl, e_lc, e_isiM, e_methk, e_smeth, e_cmeth, e_mkv, e_mkk, kw_nil, e_oeq, e_eatt, e_eisi, t_v, t_isi, t_call, t_meth, t_bop, t_bi, t_att, t_not, t_and, t_or, t_cmp, t_cmp2, trQ_bl, blQ_bl, t_methk, t_smeth, t_oeq, t_eisi, t_ix, t_icall, a_nil', a_cons, s_nil, s_cons, s_set, s_setLc, s_par, s_expr, s_ret, s_retN, s_if, s_for, s_never, s_pass, s_brk, s_cont, s_par3, s_raise, g_v', g_tup, g_sub, g_att, gs_nil, gs_cons, gs_tup, i_L, i_T, i_S, i_R1, i_ES, i_E, i_Z, p_nil, p_pair, o_nil, o_k, o_v, o_bop, o_uop, o_bi, o_ix, oQ_int, x_K, x_w, x_fn, x_gv, x_tabs, x_mth, x_prp, x_fld, x_isi, x_kwo, x_xf, x_exm, x_eis, x_lt, x_lfn, x_smt, x_cmt, y_cmt, y_K, y_w, y_fn, y_gv, y_tabs, y_mth, y_prp, y_fld, y_isi, y_kwo, y_xf, y_exm, y_eis, y_smt, isi_int, isi_str, isi_bl, isi_non, ii1, ii2, ii3, ii4, ii5, ii6, ii7, it1, it2, it3, it4, it5, it6, it7, it8, it9, it10, it11, it12, it13, r_add, r_sub, r_mul, r_div, r_mod, r_pow, r_shl, r_shr, r_and, r_or, r_xor, r_neg, r_inv, r_lt, r_le, r_gt, r_ge, r_eqI, r_neI, r_eqS, r_neS, r_inS, r_niS, b_int, b_intB, b_abs, b_lenS, r_addS, r_isN, r_eqB, r_neB, List.getElem?_cons_zero, List.getElem?_cons_succ, List.set_cons_zero, List.set_cons_succ, List.map_cons, List.map_nil, List.length_cons, List.length_nil, Nat.reduceAdd, Nat.reduceSub, List.replicate_succ, List.replicate_zero, List.cons_append, List.nil_append, List.append_nil, Bool.not_true, Bool.not_false, if_true, if_false, ite_true, ite_false, Bool.false_eq_true, Bool.true_eq_false, reduceIte]
    refine isi_rd (.inl (y1.get h2)) rfl ?_
    simp only [it7, e_k, e_v, e_g, e_bop, e_uop, e_not, e_and, e_or, e_ite, e_cmp, e_cmp2, e_lst, e_tup, e_dic, e_call, e_mk, e_bi, e_isi, e_meth, e_bm, e_icall, e_ostr, e_att, e_ix, e_sl, e_lc, e_isiM, e_methk, e_smeth, e_cmeth, e_mkv, e_mkk, kw_nil, e_oeq, e_eatt, e_eisi, t_v, t_isi, t_call, t_meth, t_bop, t_bi, t_att, t_not, t_and, t_or, t_cmp, t_cmp2, trQ_bl, blQ_bl, t_methk, t_smeth, t_oeq, t_eisi, t_ix, t_icall, a_nil', a_cons, s_nil, s_cons, s_set, s_setLc, s_par, s_expr, s_ret, s_retN, s_if, s_for, s_never, s_pass, s_brk, s_cont, s_par3, s_raise, g_v', g_tup, g_sub, g_att, gs_nil, gs_cons, gs_tup, i_L, i_T, i_S, i_R1, i_ES, i_E, i_Z, p_nil, p_pair, o_nil, o_k, o_v, o_bop, o_uop, o_bi, o_ix, oQ_int, x_K, x_w, x_fn, x_gv, x_tabs, x_mth, x_prp, x_fld, x_isi, x_kwo, x_xf, x_exm, x_eis, x_lt, x_lfn, x_smt, x_cmt, y_cmt, y_K, y_w, y_fn, y_gv, y_tabs, y_mth, y_prp, y_fld, y_isi, y_kwo, y_xf, y_exm, y_eis, y_smt, isi_int, isi_str, isi_bl, isi_non, ii1, ii2, ii3, ii4, ii5, ii6, ii7, it1, it2, it3, it4, it5, it6, it7, it8, it9, it10, it11, it12, it13, r_add, r_sub, r_mul, r_div, r_mod, r_pow, r_shl, r_shr, r_and, r_or, r_xor, r_neg, r_inv, r_lt, r_le, r_gt, r_ge, r_eqI, r_neI, r_eqS, r_neS, r_inS, r_niS, b_int, b_intB, b_abs, b_lenS, r_addS, r_isN, r_eqB, r_neB, List.getElem?_cons_zero, List.getElem?_cons_succ, List.set_cons_zero, List.set_cons_succ, List.map_cons, List.map_nil, List.length_cons, List.length_nil, Nat.reduceAdd, Nat.reduceSub, List.replicate_succ, List.replicate_zero, List.cons_append, List.nil_append, List.append_nil, Bool.not_true, Bool.not_false, if_true, if_false, ite_true, ite_false, Bool.false_eq_true, Bool.true_eq_false, reduceIte]
    refine isi_rd (.inl (y1.get h1)) rfl ?_
    simp only [it7, r_neB, beq_self_eq_true, e_k, e_v, e_g, e_bop, e_uop, e_not, e_and, e_or, e_ite, e_cmp, e_cmp2, e_lst, e_tup, e_dic, e_call, e_mk, e_bi, e_isi, e_meth, e_bm, e_icall, e_ostr, e_att, e_ix, e_sl, e_lc, e_isiM, e_methk, e_smeth, e_cmeth, e_mkv, e_mkk, kw_nil, e_oeq, e_eatt, e_eisi, t_v, t_isi, t_call, t_meth, t_bop, t_bi, t_att, t_not, t_and, t_or, t_cmp, t_cmp2, trQ_bl, blQ_bl, t_methk, t_smeth, t_oeq, t_eisi, t_ix, t_icall, a_nil', a_cons, s_nil, s_cons, s_set, s_setLc, s_par, s_expr, s_ret, s_retN, s_if, s_for, s_never, s_pass, s_brk, s_cont, s_par3, s_raise, g_v', g_tup, g_sub, g_att, gs_nil, gs_cons, gs_tup, i_L, i_T, i_S, i_R1, i_ES, i_E, i_Z, p_nil, p_pair, o_nil, o_k, o_v, o_bop, o_uop, o_bi, o_ix, oQ_int, x_K, x_w, x_fn, x_gv, x_tabs, x_mth, x_prp, x_fld, x_isi, x_kwo, x_xf, x_exm, x_eis, x_lt, x_lfn, x_smt, x_cmt, y_cmt, y_K, y_w, y_fn, y_gv, y_tabs, y_mth, y_prp, y_fld, y_isi, y_kwo, y_xf, y_exm, y_eis, y_smt, isi_int, isi_str, isi_bl, isi_non, ii1, ii2, ii3, ii4, ii5, ii6, ii7, it1, it2, it3, it4, it5, it6, it7, it8, it9, it10, it11, it12, it13, r_add, r_sub, r_mul, r_div, r_mod, r_pow, r_shl, r_shr, r_and, r_or, r_xor, r_neg, r_inv, r_lt, r_le, r_gt, r_ge, r_eqI, r_neI, r_eqS, r_neS, r_inS, r_niS, b_int, b_intB, b_abs, b_lenS, r_addS, r_isN, r_eqB, r_neB, List.getElem?_cons_zero, List.getElem?_cons_succ, List.set_cons_zero, List.set_cons_succ, List.map_cons, List.map_nil, List.length_cons, List.length_nil, Nat.reduceAdd, Nat.reduceSub, List.replicate_succ, List.replicate_zero, List.cons_append, List.nil_append, List.append_nil, Bool.not_true, Bool.not_false, if_true, if_false, ite_true, ite_false, Bool.false_eq_true, Bool.true_eq_false, reduceIte]
    intro p2 hp2
    have x2 := Ext.new (o := HO.tup [V.ty "tuple", V.ty "list"]) hp2
    have y2 := y1.trans x2
    refine isi_rd (.inl (y2.get h1)) rfl ?_
    simp only [it5, e_k, e_v, e_g, e_bop, e_uop, e_not, e_and, e_or, e_ite, e_cmp, e_cmp2, e_lst, e_tup, e_dic, e_call, e_mk, e_bi, e_isi, e_meth, e_bm, e_icall, e_ostr, e_att, e_ix, e_sl, e_lc, e_isiM, e_methk, e_smeth, e_cmeth, e_mkv, e_mkk, kw_nil, e_oeq, e_eatt, e_eisi, t_v, t_isi, t_call, t_meth, t_bop, t_bi, t_att, t_not, t_and, t_or, t_cmp, t_cmp2, trQ_bl, blQ_bl, t_methk, t_smeth, t_oeq, t_eisi, t_ix, t_icall, a_nil', a_cons, s_nil, s_cons, s_set, s_setLc, s_par, s_expr, s_ret, s_retN, s_if, s_for, s_never, s_pass, s_brk, s_cont, s_par3, s_raise, g_v', g_tup, g_sub, g_att, gs_nil, gs_cons, gs_tup, i_L, i_T, i_S, i_R1, i_ES, i_E, i_Z, p_nil, p_pair, o_nil, o_k, o_v, o_bop, o_uop, o_bi, o_ix, oQ_int, x_K, x_w, x_fn, x_gv, x_tabs, x_mth, x_prp, x_fld, x_isi, x_kwo, x_xf, x_exm, x_eis, x_lt, x_lfn, x_smt, x_cmt, y_cmt, y_K, y_w, y_fn, y_gv, y_tabs, y_mth, y_prp, y_fld, y_isi, y_kwo, y_xf, y_exm, y_eis, y_smt, isi_int, isi_str, isi_bl, isi_non, ii1, ii2, ii3, ii4, ii5, ii6, ii7, it1, it2, it3, it4, it5, it6, it7, it8, it9, it10, it11, it12, it13, r_add, r_sub, r_mul, r_div, r_mod, r_pow, r_shl, r_shr, r_and, r_or, r_xor, r_neg, r_inv, r_lt, r_le, r_gt, r_ge, r_eqI, r_neI, r_eqS, r_neS, r_inS, r_niS, b_int, b_intB, b_abs, b_lenS, r_addS, r_isN, r_eqB, r_neB, List.getElem?_cons_zero, List.getElem?_cons_succ, List.set_cons_zero, List.set_cons_succ, List.map_cons, List.map_nil, List.length_cons, List.length_nil, Nat.reduceAdd, Nat.reduceSub, List.replicate_succ, List.replicate_zero, List.cons_append, List.nil_append, List.append_nil, Bool.not_true, Bool.not_false, if_true, if_false, ite_true, ite_false, Bool.false_eq_true, Bool.true_eq_false, reduceIte]
    refine b_lenL (.inl (.inl (y2.get h1))) ?_
    refine b_lenL (.inl (.inl (y2.get h2))) ?_
    simp only [h3, beq_self_eq_true, e_k, e_v, e_g, e_bop, e_uop, e_not, e_and, e_or, e_ite, e_cmp, e_cmp2, e_lst, e_tup, e_dic, e_call, e_mk, e_bi, e_isi, e_meth, e_bm, e_icall, e_ostr, e_att, e_ix, e_sl, e_lc, e_isiM, e_methk, e_smeth, e_cmeth, e_mkv, e_mkk, kw_nil, e_oeq, e_eatt, e_eisi, t_v, t_isi, t_call, t_meth, t_bop, t_bi, t_att, t_not, t_and, t_or, t_cmp, t_cmp2, trQ_bl, blQ_bl, t_methk, t_smeth, t_oeq, t_eisi, t_ix, t_icall, a_nil', a_cons, s_nil, s_cons, s_set, s_setLc, s_par, s_expr, s_ret, s_retN, s_if, s_for, s_never, s_pass, s_brk, s_cont, s_par3, s_raise, g_v', g_tup, g_sub, g_att, gs_nil, gs_cons, gs_tup, i_L, i_T, i_S, i_R1, i_ES, i_E, i_Z, p_nil, p_pair, o_nil, o_k, o_v, o_bop, o_uop, o_bi, o_ix, oQ_int, x_K, x_w, x_fn, x_gv, x_tabs, x_mth, x_prp, x_fld, x_isi, x_kwo, x_xf, x_exm, x_eis, x_lt, x_lfn, x_smt, x_cmt, y_cmt, y_K, y_w, y_fn, y_gv, y_tabs, y_mth, y_prp, y_fld, y_isi, y_kwo, y_xf, y_exm, y_eis, y_smt, isi_int, isi_str, isi_bl, isi_non, ii1, ii2, ii3, ii4, ii5, ii6, ii7, it1, it2, it3, it4, it5, it6, it7, it8, it9, it10, it11, it12, it13, r_add, r_sub, r_mul, r_div, r_mod, r_pow, r_shl, r_shr, r_and, r_or, r_xor, r_neg, r_inv, r_lt, r_le, r_gt, r_ge, r_eqI, r_neI, r_eqS, r_neS, r_inS, r_niS, b_int, b_intB, b_abs, b_lenS, r_addS, r_isN, r_eqB, r_neB, List.getElem?_cons_zero, List.getElem?_cons_succ, List.set_cons_zero, List.set_cons_succ, List.map_cons, List.map_nil, List.length_cons, List.length_nil, Nat.reduceAdd, Nat.reduceSub, List.replicate_succ, List.replicate_zero, List.cons_append, List.nil_append, List.append_nil, Bool.not_true, Bool.not_false, if_true, if_false, ite_true, ite_false, Bool.false_eq_true, Bool.true_eq_false, reduceIte]
    refine b_lenL (.inl (.inl (y2.get h2))) ?_
    refine ⟨by omega, by omega, ?_⟩
    rw [Int.toNat_natCast]
    refine same_loop (H := upd _ p2 _) (fun H' x' i v e T Q q => x_ixL (.inl (.inl ((y2.trans x').get h1))) (atI_nat e) q) (fun H' x' i v e T Q q => x_ixL (.inl (.inl ((y2.trans x').get h2))) (atI_nat e) q) h3
      (fun i u v e1 e2 H' Q E x' q => ih i u v e1 e2 (by omega) (y2.trans x') q) (fun H' v x' => ?_) _ _ _ Ext.refl fun i hi => mem_rng hi
    simp only [e_k, e_v, e_g, e_bop, e_uop, e_not, e_and, e_or, e_ite, e_cmp, e_cmp2, e_lst, e_tup, e_dic, e_call, e_mk, e_bi, e_isi, e_meth, e_bm, e_icall, e_ostr, e_att, e_ix, e_sl, e_lc, e_isiM, e_methk, e_smeth, e_cmeth, e_mkv, e_mkk, kw_nil, e_oeq, e_eatt, e_eisi, t_v, t_isi, t_call, t_meth, t_bop, t_bi, t_att, t_not, t_and, t_or, t_cmp, t_cmp2, trQ_bl, blQ_bl, t_methk, t_smeth, t_oeq, t_eisi, t_ix, t_icall, a_nil', a_cons, s_nil, s_cons, s_set, s_setLc, s_par, s_expr, s_ret, s_retN, s_if, s_for, s_never, s_pass, s_brk, s_cont, s_par3, s_raise, g_v', g_tup, g_sub, g_att, gs_nil, gs_cons, gs_tup, i_L, i_T, i_S, i_R1, i_ES, i_E, i_Z, p_nil, p_pair, o_nil, o_k, o_v, o_bop, o_uop, o_bi, o_ix, oQ_int, x_K, x_w, x_fn, x_gv, x_tabs, x_mth, x_prp, x_fld, x_isi, x_kwo, x_xf, x_exm, x_eis, x_lt, x_lfn, x_smt, x_cmt, y_cmt, y_K, y_w, y_fn, y_gv, y_tabs, y_mth, y_prp, y_fld, y_isi, y_kwo, y_xf, y_exm, y_eis, y_smt, isi_int, isi_str, isi_bl, isi_non, ii1, ii2, ii3, ii4, ii5, ii6, ii7, it1, it2, it3, it4, it5, it6, it7, it8, it9, it10, it11, it12, it13, r_add, r_sub, r_mul, r_div, r_mod, r_pow, r_shl, r_shr, r_and, r_or, r_xor, r_neg, r_inv, r_lt, r_le, r_gt, r_ge, r_eqI, r_neI, r_eqS, r_neS, r_inS, r_niS, b_int, b_intB, b_abs, b_lenS, r_addS, r_isN, r_eqB, r_neB, List.getElem?_cons_zero, List.getElem?_cons_succ, List.set_cons_zero, List.set_cons_succ, List.map_cons, List.map_nil, List.length_cons, List.length_nil, Nat.reduceAdd, Nat.reduceSub, List.replicate_succ, List.replicate_zero, List.cons_append, List.nil_append, List.append_nil, Bool.not_true, Bool.not_false, if_true, if_false, ite_true, ite_false, Bool.false_eq_true, Bool.true_eq_false, reduceIte]
    exact h _ (x1.trans (x2.trans x'))
  | @tup k a b xs ys h1 h2 h3 h4 h5 ih =>
    intro n H' Q E hn x h
    refine run_at f__law_same (by omega) rfl ?_
    simp only [d__law_same, b__law_same, L2.start, e_k, e_v, e_g, e_bop, e_uop, e_not, e_and, e_or, e_ite, e_cmp, e_cmp2, e_lst, e_tup, e_dic, e_call, e_mk, e_bi, e_isi, e_meth, e_bm, e_icall, e_ostr, e_att, e_ix, e_sl, e_lc, e_isiM, e_methk, e_smeth, e_cmeth, e_mkv, e_mkk, kw_nil, e_oeq, e_eatt, e_eisi, t_v, t_isi, t_call, t_meth, t_bop, t_bi, t_att, t_not, t_and, t_or, t_cmp, t_cmp2, trQ_bl, blQ_bl, t_methk, t_smeth, t_oeq, t_eisi, t_ix, t_icall, a_nil', a_cons, s_nil, s_cons, s_set, s_setLc, s_par, s_expr, s_ret, s_retN, s_if, s_for, s_never, s_pass, s_brk, s_cont, s_par3, s_raise, g_v', g_tup, g_sub, g_att, gs_nil, gs_cons, gs_tup, i_L, i_T, i_S, i_R1, i_ES, i_E, i_Z, p_nil, p_pair, o_nil, o_k, o_v, o_bop, o_uop, o_bi, o_ix, oQ_int, x_K, x_w, x_fn, x_gv, x_tabs, x_mth, x_prp, x_fld, x_isi, x_kwo, x_xf, x_exm, x_eis, x_lt, x_lfn, x_smt, x_cmt, y_cmt, y_K, y_w, y_fn, y_gv, y_tabs, y_mth, y_prp, y_fld, y_isi, y_kwo, y_xf, y_exm, y_eis, y_smt, isi_int, isi_str, isi_bl, isi_non, ii1, ii2, ii3, ii4, ii5, ii6, ii7, it1, it2, it3, it4, it5, it6, it7, it8, it9, it10, it11, it12, it13, r_add, r_sub, r_mul, r_div, r_mod, r_pow, r_shl, r_shr, r_and, r_or, r_xor, r_neg, r_inv, r_lt, r_le, r_gt, r_ge, r_eqI, r_neI, r_eqS, r_neS, r_inS, r_niS, b_int, b_intB, b_abs, b_lenS, r_addS, r_isN, r_eqB, r_neB, List.getElem?_cons_zero, List.getElem?_cons_succ, List.set_cons_zero, List.set_cons_succ, List.map_cons, List.map_nil, List.length_cons, List.length_nil, Nat.reduceAdd, Nat.reduceSub, List.replicate_succ, List.replicate_zero, List.cons_append, List.nil_append, List.append_nil, Bool.not_true, Bool.not_false, if_true, if_false, ite_true, ite_false, Bool.false_eq_true, Bool.true_eq_false, reduceIte]
    intro p1 hp1
    have x1 := Ext.new (o := HO.tup [V.ty "tuple", V.ty "list"]) hp1
    have y1 := x.trans x1
    refine isi_rd (.inl (y1.get h2)) rfl ?_
    simp only [it6, e_k, e_v, e_g, e_bop, e_uop, e_not, e_and, e_or, e_ite, e_cmp, e_cmp2, e_lst, e_tup, e_dic, e_call, e_mk, e_bi, e_isi, e_meth, e_bm, e_icall, e_ostr, e_att, e_ix, e_sl, e_lc, e_isiM, e_methk, e_smeth, e_cmeth, e_mkv, e_mkk, kw_nil, e_oeq, e_eatt, e_eisi, t_v, t_isi, t_call, t_meth, t_bop, t_bi, t_att, t_not, t_and, t_or, t_cmp, t_cmp2, trQ_bl, blQ_bl, t_methk, t_smeth, t_oeq, t_eisi, t_ix, t_icall, a_nil', a_cons, s_nil, s_cons, s_set, s_setLc, s_par, s_expr, s_ret, s_retN, s_if, s_for, s_never, s_pass, s_brk, s_cont, s_par3, s_raise, g_v', g_tup, g_sub, g_att, gs_nil, gs_cons, gs_tup, i_L, i_T, i_S, i_R1, i_ES, i_E, i_Z, p_nil, p_pair, o_nil, o_k, o_v, o_bop, o_uop, o_bi, o_ix, oQ_int, x_K, x_w, x_fn, x_gv, x_tabs, x_mth, x_prp, x_fld, x_isi, x_kwo, x_xf, x_exm, x_eis, x_lt, x_lfn, x_smt, x_cmt, y_cmt, y_K, y_w, y_fn, y_gv, y_tabs, y_mth, y_prp, y_fld, y_isi, y_kwo, y_xf, y_exm, y_eis, y_smt, isi_int, isi_str, isi_bl, isi_non, ii1, ii2, ii3, ii4, ii5, ii6, ii7, it1, it2, it3, it4, it5, it6, it7, it8, it9, it10, it11, it12, it13, r_add, r_sub, r_mul, r_div, r_mod, r_pow, r_shl, r_shr, r_and, r_or, r_xor, r_neg, r_inv, r_lt, r_le, r_gt, r_ge, r_eqI, r_neI, r_eqS, r_neS, r_inS, r_niS, b_int, b_intB, b_abs, b_lenS, r_addS, r_isN, r_eqB, r_neB, List.getElem?_cons_zero, List.getElem?_cons_succ, List.set_cons_zero, List.set_cons_succ, List.map_cons, List.map_nil, List.length_cons, List.length_nil, Nat.reduceAdd, Nat.reduceSub, List.replicate_succ, List.replicate_zero, List.cons_append, List.nil_append, List.append_nil, Bool.not_true, Bool.not_false, if_true, if_false, ite_true, ite_false, Bool.false_eq_true, Bool.true_eq_false, reduceIte]
    refine isi_rd (.inl (y1.get h2)) rfl ?_
    simp only [it8, e_k, e_v, e_g, e_bop, e_uop, e_not, e_and, e_or, e_ite, e_cmp, e_cmp2, e_lst, e_tup, e_dic, e_call, e_mk, e_bi, e_isi, e_meth, e_bm, e_icall, e_ostr, e_att, e_ix, e_sl, e_lc, e_isiM, e_methk, e_smeth, e_cmeth, e_mkv, e_mkk, kw_nil, e_oeq, e_eatt, e_eisi, t_v, t_isi, t_call, t_meth, t_bop, t_bi, t_att, t_not, t_and, t_or, t_cmp, t_cmp2, trQ_bl, blQ_bl, t_methk, t_smeth, t_oeq, t_eisi, t_ix, t_icall, a_nil', a_cons, s_nil, s_cons, s_set, s_setLc, s_par, s_expr, s_ret, s_retN, s_if, s_for, s_never, s_pass, s_brk, s_cont, s_par3, s_raise, g_v', g_tup, g_sub, g_att, gs_nil, gs_cons, gs_tup, i_L, i_T, i_S, i_R1, i_ES, i_E, i_Z, p_nil, p_pair, o_nil, o_k, o_v, o_bop, o_uop, o_bi, o_ix, oQ_int, x_K, x_w, x_fn, x_gv, x_tabs, x_mth, x_prp, x_fld, x_isi, x_kwo, x_xf, x_exm, x_eis, x_lt, x_lfn, x_smt, x_cmt, y_cmt, y_K, y_w, y_fn, y_gv, y_tabs, y_mth, y_prp, y_fld, y_isi, y_kwo, y_xf, y_exm, y_eis, y_smt, isi_int, isi_str, isi_bl, isi_non, ii1, ii2, ii3, ii4, ii5, ii6, ii7, it1, it2, it3, it4, it5, it6, it7, it8, it9, it10, it11, it12, it13, r_add, r_sub, r_mul, r_div, r_mod, r_pow, r_shl, r_shr, r_and, r_or, r_xor, r_neg, r_inv, r_lt, r_le, r_gt, r_ge, r_eqI, r_neI, r_eqS, r_neS, r_inS, r_niS, b_int, b_intB, b_abs, b_lenS, r_addS, r_isN, r_eqB, r_neB, List.getElem?_cons_zero, List.getElem?_cons_succ, List.set_cons_zero, List.set_cons_succ, List.map_cons, List.map_nil, List.length_cons, List.length_nil, Nat.reduceAdd, Nat.reduceSub, List.replicate_succ, List.replicate_zero, List.cons_append, List.nil_append, List.append_nil, Bool.not_true, Bool.not_false, if_true, if_false, ite_true, ite_false, Bool.false_eq_true, Bool.true_eq_false, reduceIte]
    refine isi_rd (.inl (y1.get h1)) rfl ?_
    simp only [it8, r_neB, beq_self_eq_true, e_k, e_v, e_g, e_bop, e_uop, e_not, e_and, e_or, e_ite, e_cmp, e_cmp2, e_lst, e_tup, e_dic, e_call, e_mk, e_bi, e_isi, e_meth, e_bm, e_icall, e_ostr, e_att, e_ix, e_sl, e_lc, e_isiM, e_methk, e_smeth, e_cmeth, e_mkv, e_mkk, kw_nil, e_oeq, e_eatt, e_eisi, t_v, t_isi, t_call, t_meth, t_bop, t_bi, t_att, t_not, t_and, t_or, t_cmp, t_cmp2, trQ_bl, blQ_bl, t_methk, t_smeth, t_oeq, t_eisi, t_ix, t_icall, a_nil', a_cons, s_nil, s_cons, s_set, s_setLc, s_par, s_expr, s_ret, s_retN, s_if, s_for, s_never, s_pass, s_brk, s_cont, s_par3, s_raise, g_v', g_tup, g_sub, g_att, gs_nil, gs_cons, gs_tup, i_L, i_T, i_S, i_R1, i_ES, i_E, i_Z, p_nil, p_pair, o_nil, o_k, o_v, o_bop, o_uop, o_bi, o_ix, oQ_int, x_K, x_w, x_fn, x_gv, x_tabs, x_mth, x_prp, x_fld, x_isi, x_kwo, x_xf, x_exm, x_eis, x_lt, x_lfn, x_smt, x_cmt, y_cmt, y_K, y_w, y_fn, y_gv, y_tabs, y_mth, y_prp, y_fld, y_isi, y_kwo, y_xf, y_exm, y_eis, y_smt, isi_int, isi_str, isi_bl, isi_non, ii1, ii2, ii3, ii4, ii5, ii6, ii7, it1, it2, it3, it4, it5, it6, it7, it8, it9, it10, it11, it12, it13, r_add, r_sub, r_mul, r_div, r_mod, r_pow, r_shl, r_shr, r_and, r_or, r_xor, r_neg, r_inv, r_lt, r_le, r_gt, r_ge, r_eqI, r_neI, r_eqS, r_neS, r_inS, r_niS, b_int, b_intB, b_abs, b_lenS, r_addS, r_isN, r_eqB, r_neB, List.getElem?_cons_zero, List.getElem?_cons_succ, List.set_cons_zero, List.set_cons_succ, List.map_cons, List.map_nil, List.length_cons, List.length_nil, Nat.reduceAdd, Nat.reduceSub, List.replicate_succ, List.replicate_zero, List.cons_append, List.nil_append, List.append_nil, Bool.not_true, Bool.not_false, if_true, if_false, ite_true, ite_false, Bool.false_eq_true, Bool.true_eq_false, reduceIte]
    intro p2 hp2
    have x2 := Ext.new (o := HO.tup [V.ty "tuple", V.ty "list"]) hp2
    have y2 := y1.trans x2
    refine isi_rd (.inl (y2.get h1)) rfl ?_
    simp only [it6, e_k, e_v, e_g, e_bop, e_uop, e_not, e_and, e_or, e_ite, e_cmp, e_cmp2, e_lst, e_tup, e_dic, e_call, e_mk, e_bi, e_isi, e_meth, e_bm, e_icall, e_ostr, e_att, e_ix, e_sl, e_lc, e_isiM, e_methk, e_smeth, e_cmeth, e_mkv, e_mkk, kw_nil, e_oeq, e_eatt, e_eisi, t_v, t_isi, t_call, t_meth, t_bop, t_bi, t_att, t_not, t_and, t_or, t_cmp, t_cmp2, trQ_bl, blQ_bl, t_methk, t_smeth, t_oeq, t_eisi, t_ix, t_icall, a_nil', a_cons, s_nil, s_cons, s_set, s_setLc, s_par, s_expr, s_ret, s_retN, s_if, s_for, s_never, s_pass, s_brk, s_cont, s_par3, s_raise, g_v', g_tup, g_sub, g_att, gs_nil, gs_cons, gs_tup, i_L, i_T, i_S, i_R1, i_ES, i_E, i_Z, p_nil, p_pair, o_nil, o_k, o_v, o_bop, o_uop, o_bi, o_ix, oQ_int, x_K, x_w, x_fn, x_gv, x_tabs, x_mth, x_prp, x_fld, x_isi, x_kwo, x_xf, x_exm, x_eis, x_lt, x_lfn, x_smt, x_cmt, y_cmt, y_K, y_w, y_fn, y_gv, y_tabs, y_mth, y_prp, y_fld, y_isi, y_kwo, y_xf, y_exm, y_eis, y_smt, isi_int, isi_str, isi_bl, isi_non, ii1, ii2, ii3, ii4, ii5, ii6, ii7, it1, it2, it3, it4, it5, it6, it7, it8, it9, it10, it11, it12, it13, r_add, r_sub, r_mul, r_div, r_mod, r_pow, r_shl, r_shr, r_and, r_or, r_xor, r_neg, r_inv, r_lt, r_le, r_gt, r_ge, r_eqI, r_neI, r_eqS, r_neS, r_inS, r_niS, b_int, b_intB, b_abs, b_lenS, r_addS, r_isN, r_eqB, r_neB, List.getElem?_cons_zero, List.getElem?_cons_succ, List.set_cons_zero, List.set_cons_succ, List.map_cons, List.map_nil, List.length_cons, List.length_nil, Nat.reduceAdd, Nat.reduceSub, List.replicate_succ, List.replicate_zero, List.cons_append, List.nil_append, List.append_nil, Bool.not_true, Bool.not_false, if_true, if_false, ite_true, ite_false, Bool.false_eq_true, Bool.true_eq_false, reduceIte]
    refine b_lenT (.inl (.inl (y2.get h1))) ?_
    refine b_lenT (.inl (.inl (y2.get h2))) ?_
    simp only [h3, beq_self_eq_true, e_k, e_v, e_g, e_bop, e_uop, e_not, e_and, e_or, e_ite, e_cmp, e_cmp2, e_lst, e_tup, e_dic, e_call, e_mk, e_bi, e_isi, e_meth, e_bm, e_icall, e_ostr, e_att, e_ix, e_sl, e_lc, e_isiM, e_methk, e_smeth, e_cmeth, e_mkv, e_mkk, kw_nil, e_oeq, e_eatt, e_eisi, t_v, t_isi, t_call, t_meth, t_bop, t_bi, t_att, t_not, t_and, t_or, t_cmp, t_cmp2, trQ_bl, blQ_bl, t_methk, t_smeth, t_oeq, t_eisi, t_ix, t_icall, a_nil', a_cons, s_nil, s_cons, s_set, s_setLc, s_par, s_expr, s_ret, s_retN, s_if, s_for, s_never, s_pass, s_brk, s_cont, s_par3, s_raise, g_v', g_tup, g_sub, g_att, gs_nil, gs_cons, gs_tup, i_L, i_T, i_S, i_R1, i_ES, i_E, i_Z, p_nil, p_pair, o_nil, o_k, o_v, o_bop, o_uop, o_bi, o_ix, oQ_int, x_K, x_w, x_fn, x_gv, x_tabs, x_mth, x_prp, x_fld, x_isi, x_kwo, x_xf, x_exm, x_eis, x_lt, x_lfn, x_smt, x_cmt, y_cmt, y_K, y_w, y_fn, y_gv, y_tabs, y_mth, y_prp, y_fld, y_isi, y_kwo, y_xf, y_exm, y_eis, y_smt, isi_int, isi_str, isi_bl, isi_non, ii1, ii2, ii3, ii4, ii5, ii6, ii7, it1, it2, it3, it4, it5, it6, it7, it8, it9, it10, it11, it12, it13, r_add, r_sub, r_mul, r_div, r_mod, r_pow, r_shl, r_shr, r_and, r_or, r_xor, r_neg, r_inv, r_lt, r_le, r_gt, r_ge, r_eqI, r_neI, r_eqS, r_neS, r_inS, r_niS, b_int, b_intB, b_abs, b_lenS, r_addS, r_isN, r_eqB, r_neB, List.getElem?_cons_zero, List.getElem?_cons_succ, List.set_cons_zero, List.set_cons_succ, List.map_cons, List.map_nil, List.length_cons, List.length_nil, Nat.reduceAdd, Nat.reduceSub, List.replicate_succ, List.replicate_zero, List.cons_append, List.nil_append, List.append_nil, Bool.not_true, Bool.not_false, if_true, if_false, ite_true, ite_false, Bool.false_eq_true, Bool.true_eq_false, reduceIte]
    refine b_lenT (.inl (.inl (y2.get h2))) ?_
    refine ⟨by omega, by omega, ?_⟩
    rw [Int.toNat_natCast]
    refine same_loop (H := upd _ p2 _) (fun H' x' i v e T Q q => x_ixT ((y2.trans x').get h1) (atI_nat e) q) (fun H' x' i v e T Q q => x_ixT ((y2.trans x').get h2) (atI_nat e) q) h3
      (fun i u v e1 e2 H' Q E x' q => ih i u v e1 e2 (by omega) (y2.trans x') q) (fun H' v x' => ?_) _ _ _ Ext.refl fun i hi => mem_rng hi
    simp only [e_k, e_v, e_g, e_bop, e_uop, e_not, e_and, e_or, e_ite, e_cmp, e_cmp2, e_lst, e_tup, e_dic, e_call, e_mk, e_bi, e_isi, e_meth, e_bm, e_icall, e_ostr, e_att, e_ix, e_sl, e_lc, e_isiM, e_methk, e_smeth, e_cmeth, e_mkv, e_mkk, kw_nil, e_oeq, e_eatt, e_eisi, t_v, t_isi, t_call, t_meth, t_bop, t_bi, t_att, t_not, t_and, t_or, t_cmp, t_cmp2, trQ_bl, blQ_bl, t_methk, t_smeth, t_oeq, t_eisi, t_ix, t_icall, a_nil', a_cons, s_nil, s_cons, s_set, s_setLc, s_par, s_expr, s_ret, s_retN, s_if, s_for, s_never, s_pass, s_brk, s_cont, s_par3, s_raise, g_v', g_tup, g_sub, g_att, gs_nil, gs_cons, gs_tup, i_L, i_T, i_S, i_R1, i_ES, i_E, i_Z, p_nil, p_pair, o_nil, o_k, o_v, o_bop, o_uop, o_bi, o_ix, oQ_int, x_K, x_w, x_fn, x_gv, x_tabs, x_mth, x_prp, x_fld, x_isi, x_kwo, x_xf, x_exm, x_eis, x_lt, x_lfn, x_smt, x_cmt, y_cmt, y_K, y_w, y_fn, y_gv, y_tabs, y_mth, y_prp, y_fld, y_isi, y_kwo, y_xf, y_exm, y_eis, y_smt, isi_int, isi_str, isi_bl, isi_non, ii1, ii2, ii3, ii4, ii5, ii6, ii7, it1, it2, it3, it4, it5, it6, it7, it8, it9, it10, it11, it12, it13, r_add, r_sub, r_mul, r_div, r_mod, r_pow, r_shl, r_shr, r_and, r_or, r_xor, r_neg, r_inv, r_lt, r_le, r_gt, r_ge, r_eqI, r_neI, r_eqS, r_neS, r_inS, r_niS, b_int, b_intB, b_abs, b_lenS, r_addS, r_isN, r_eqB, r_neB, List.getElem?_cons_zero, List.getElem?_cons_succ, List.set_cons_zero, List.set_cons_succ, List.map_cons, List.map_nil, List.length_cons, List.length_nil, Nat.reduceAdd, Nat.reduceSub, List.replicate_succ, List.replicate_zero, List.cons_append, List.nil_append, List.append_nil, Bool.not_true, Bool.not_false, if_true, if_false, ite_true, ite_false, Bool.false_eq_true, Bool.true_eq_false, reduceIte]
    exact h _ (x1.trans (x2.trans x'))
end U

namespace U
open PySem PySem.Spec PyProof.Rows L2
variable {K : PySem.W.Frag} {w : World} {n : Nat} {H : Hp} {Q : VK} {E : XK}
theorem gv1 : hd.pg.gv K s_GREATEST = some (.int 511) := rfl
theorem c_is_integer {t lo hi : Int} (hn : 1 ≤ n) (h : Q (.bl (decide (lo ≤ t ∧ t ≤ hi))) H) : run hd.pg K w n s_is_integer [.int t, .int lo, .int hi] H Q E := by
  refine run_at f_is_integer hn rfl ?_
  simp only [d_is_integer, b_is_integer, L2.start, e_k, e_v, e_g, e_bop, e_uop, e_not, e_and, e_or, e_ite, e_cmp, e_cmp2, e_lst, e_tup, e_dic, e_call, e_mk, e_bi, e_isi, e_meth, e_bm, e_icall, e_ostr, e_att, e_ix, e_sl, e_lc, e_isiM, e_methk, e_smeth, e_cmeth, e_mkv, e_mkk, kw_nil, e_oeq, e_eatt, e_eisi, t_v, t_isi, t_call, t_meth, t_bop, t_bi, t_att, t_not, t_and, t_or, t_cmp, t_cmp2, trQ_bl, blQ_bl, t_methk, t_smeth, t_oeq, t_eisi, t_ix, t_icall, a_nil', a_cons, s_nil, s_cons, s_set, s_setLc, s_par, s_expr, s_ret, s_retN, s_if, s_for, s_never, s_pass, s_brk, s_cont, s_par3, s_raise, g_v', g_tup, g_sub, g_att, gs_nil, gs_cons, gs_tup, i_L, i_T, i_S, i_R1, i_ES, i_E, i_Z, p_nil, p_pair, o_nil, o_k, o_v, o_bop, o_uop, o_bi, o_ix, oQ_int, x_K, x_w, x_fn, x_gv, x_tabs, x_mth, x_prp, x_fld, x_isi, x_kwo, x_xf, x_exm, x_eis, x_lt, x_lfn, x_smt, x_cmt, y_cmt, y_K, y_w, y_fn, y_gv, y_tabs, y_mth, y_prp, y_fld, y_isi, y_kwo, y_xf, y_exm, y_eis, y_smt, isi_int, isi_str, isi_bl, isi_non, ii1, ii2, ii3, ii4, ii5, ii6, ii7, it1, it2, it3, it4, it5, it6, it7, it8, it9, it10, it11, it12, it13, r_add, r_sub, r_mul, r_div, r_mod, r_pow, r_shl, r_shr, r_and, r_or, r_xor, r_neg, r_inv, r_lt, r_le, r_gt, r_ge, r_eqI, r_neI, r_eqS, r_neS, r_inS, r_niS, b_int, b_intB, b_abs, b_lenS, r_addS, r_isN, r_eqB, r_neB, List.getElem?_cons_zero, List.getElem?_cons_succ, List.set_cons_zero, List.set_cons_succ, List.map_cons, List.map_nil, List.length_cons, List.length_nil, Nat.reduceAdd, Nat.reduceSub, List.replicate_succ, List.replicate_zero, List.cons_append, List.nil_append, List.append_nil, Bool.not_true, Bool.not_false, if_true, if_false, ite_true, ite_false, Bool.false_eq_true, Bool.true_eq_false, reduceIte]
  by_cases h1 : lo ≤ t <;> by_cases h2 : t ≤ hi <;> simp [h1, h2] at h ⊢ <;> exact h
theorem c_Mode_number {m dx : Addr} {v : V} (hn : 1 ≤ n) (hm : H m = some (.ins (He.ga K s_Mode) dx [(s_bits, v)])) (h : Q v H) : run hd.pg K w n s_Mode_number [.ref m] H Q E := by
  refine run_at f_Mode_number hn rfl ?_
  simp only [d_Mode_number, b_Mode_number, L2.start, e_k, e_v, e_g, e_bop, e_uop, e_not, e_and, e_or, e_ite, e_cmp, e_cmp2, e_lst, e_tup, e_dic, e_call, e_mk, e_bi, e_isi, e_meth, e_bm, e_icall, e_ostr, e_att, e_ix, e_sl, e_lc, e_isiM, e_methk, e_smeth, e_cmeth, e_mkv, e_mkk, kw_nil, e_oeq, e_eatt, e_eisi, t_v, t_isi, t_call, t_meth, t_bop, t_bi, t_att, t_not, t_and, t_or, t_cmp, t_cmp2, trQ_bl, blQ_bl, t_methk, t_smeth, t_oeq, t_eisi, t_ix, t_icall, a_nil', a_cons, s_nil, s_cons, s_set, s_setLc, s_par, s_expr, s_ret, s_retN, s_if, s_for, s_never, s_pass, s_brk, s_cont, s_par3, s_raise, g_v', g_tup, g_sub, g_att, gs_nil, gs_cons, gs_tup, i_L, i_T, i_S, i_R1, i_ES, i_E, i_Z, p_nil, p_pair, o_nil, o_k, o_v, o_bop, o_uop, o_bi, o_ix, oQ_int, x_K, x_w, x_fn, x_gv, x_tabs, x_mth, x_prp, x_fld, x_isi, x_kwo, x_xf, x_exm, x_eis, x_lt, x_lfn, x_smt, x_cmt, y_cmt, y_K, y_w, y_fn, y_gv, y_tabs, y_mth, y_prp, y_fld, y_isi, y_kwo, y_xf, y_exm, y_eis, y_smt, isi_int, isi_str, isi_bl, isi_non, ii1, ii2, ii3, ii4, ii5, ii6, ii7, it1, it2, it3, it4, it5, it6, it7, it8, it9, it10, it11, it12, it13, r_add, r_sub, r_mul, r_div, r_mod, r_pow, r_shl, r_shr, r_and, r_or, r_xor, r_neg, r_inv, r_lt, r_le, r_gt, r_ge, r_eqI, r_neI, r_eqS, r_neS, r_inS, r_niS, b_int, b_intB, b_abs, b_lenS, r_addS, r_isN, r_eqB, r_neB, List.getElem?_cons_zero, List.getElem?_cons_succ, List.set_cons_zero, List.set_cons_succ, List.map_cons, List.map_nil, List.length_cons, List.length_nil, Nat.reduceAdd, Nat.reduceSub, List.replicate_succ, List.replicate_zero, List.cons_append, List.nil_append, List.append_nil, Bool.not_true, Bool.not_false, if_true, if_false, ite_true, ite_false, Bool.false_eq_true, Bool.true_eq_false, reduceIte]
  exact x_fldv hm rfl rfl h
def IsM (K : PySem.W.Frag) (H : Hp) (m : Addr) (b : Int) : Prop := ∃ dx, H m = some (.ins (He.ga K s_Mode) dx [(s_bits, .int b)])
theorem IsM.ext {H' : Hp} {m : Addr} {b : Int} (h : IsM K H m b) (x : Ext H H') : IsM K H' m b := by
  obtain ⟨dx, h⟩ := h
  exact ⟨dx, x.get h⟩
theorem IsM.extN {H' : Hp} {m : Addr} {b : Int} (h : IsM K H m b) (x : LamX.ExtN H H') : IsM K H' m b := by
  obtain ⟨dx, h⟩ := h
  exact ⟨dx, x _ _ h fun _ e => by cases e⟩
theorem mth1 : hd.pg.mth s_Mode "__init__" = some s_Mode___init__ := by decide +kernel
theorem mk_Mode {Q' : Addr → Hp → Prop} {b : Int} (hn : 2 ≤ n) (hb : 0 ≤ b ∧ b ≤ 511) (h : ∀ x H', Ext H H' → IsM K H' x b → Q' x H') :
    ∀ x dx, H x = none → H dx = none → dx ≠ x → ∃ key, hd.pg.mth s_Mode "__init__" = some key ∧ run hd.pg K w n key [.ref x, .int b] (upd (upd H dx (.own x)) x (.ins (He.ga K s_Mode) dx [])) (fun v H2 => v = .non ∧ Q' x H2) E := by
  intro x dx hx hdx hne
  refine ⟨_, mth1, ?_⟩
  refine run_at f_Mode___init__ (by omega) rfl ?_
  simp only [d_Mode___init__, b_Mode___init__, L2.start, gv1, e_k, e_v, e_g, e_bop, e_uop, e_not, e_and, e_or, e_ite, e_cmp, e_cmp2, e_lst, e_tup, e_dic, e_call, e_mk, e_bi, e_isi, e_meth, e_bm, e_icall, e_ostr, e_att, e_ix, e_sl, e_lc, e_isiM, e_methk, e_smeth, e_cmeth, e_mkv, e_mkk, kw_nil, e_oeq, e_eatt, e_eisi, t_v, t_isi, t_call, t_meth, t_bop, t_bi, t_att, t_not, t_and, t_or, t_cmp, t_cmp2, trQ_bl, blQ_bl, t_methk, t_smeth, t_oeq, t_eisi, t_ix, t_icall, a_nil', a_cons, s_nil, s_cons, s_set, s_setLc, s_par, s_expr, s_ret, s_retN, s_if, s_for, s_never, s_pass, s_brk, s_cont, s_par3, s_raise, g_v', g_tup, g_sub, g_att, gs_nil, gs_cons, gs_tup, i_L, i_T, i_S, i_R1, i_ES, i_E, i_Z, p_nil, p_pair, o_nil, o_k, o_v, o_bop, o_uop, o_bi, o_ix, oQ_int, x_K, x_w, x_fn, x_gv, x_tabs, x_mth, x_prp, x_fld, x_isi, x_kwo, x_xf, x_exm, x_eis, x_lt, x_lfn, x_smt, x_cmt, y_cmt, y_K, y_w, y_fn, y_gv, y_tabs, y_mth, y_prp, y_fld, y_isi, y_kwo, y_xf, y_exm, y_eis, y_smt, isi_int, isi_str, isi_bl, isi_non, ii1, ii2, ii3, ii4, ii5, ii6, ii7, it1, it2, it3, it4, it5, it6, it7, it8, it9, it10, it11, it12, it13, r_add, r_sub, r_mul, r_div, r_mod, r_pow, r_shl, r_shr, r_and, r_or, r_xor, r_neg, r_inv, r_lt, r_le, r_gt, r_ge, r_eqI, r_neI, r_eqS, r_neS, r_inS, r_niS, b_int, b_intB, b_abs, b_lenS, r_addS, r_isN, r_eqB, r_neB, List.getElem?_cons_zero, List.getElem?_cons_succ, List.set_cons_zero, List.set_cons_succ, List.map_cons, List.map_nil, List.length_cons, List.length_nil, Nat.reduceAdd, Nat.reduceSub, List.replicate_succ, List.replicate_zero, List.cons_append, List.nil_append, List.append_nil, Bool.not_true, Bool.not_false, if_true, if_false, ite_true, ite_false, Bool.false_eq_true, Bool.true_eq_false, reduceIte]
  refine c_is_integer (by omega) ?_
  simp only [hb, decide_true, true_and, and_true, upd_same, upd_upd, Option.some.injEq, HO.lst.injEq, HO.tup.injEq, HO.dK.injEq, exists_eq_left', List.singleton_append, Int.cast_ofNat_Int, e_k, e_v, e_g, e_bop, e_uop, e_not, e_and, e_or, e_ite, e_cmp, e_cmp2, e_lst, e_tup, e_dic, e_call, e_mk, e_bi, e_isi, e_meth, e_bm, e_icall, e_ostr, e_att, e_ix, e_sl, e_lc, e_isiM, e_methk, e_smeth, e_cmeth, e_mkv, e_mkk, kw_nil, e_oeq, e_eatt, e_eisi, t_v, t_isi, t_call, t_meth, t_bop, t_bi, t_att, t_not, t_and, t_or, t_cmp, t_cmp2, trQ_bl, blQ_bl, t_methk, t_smeth, t_oeq, t_eisi, t_ix, t_icall, a_nil', a_cons, s_nil, s_cons, s_set, s_setLc, s_par, s_expr, s_ret, s_retN, s_if, s_for, s_never, s_pass, s_brk, s_cont, s_par3, s_raise, g_v', g_tup, g_sub, g_att, gs_nil, gs_cons, gs_tup, i_L, i_T, i_S, i_R1, i_ES, i_E, i_Z, p_nil, p_pair, o_nil, o_k, o_v, o_bop, o_uop, o_bi, o_ix, oQ_int, x_K, x_w, x_fn, x_gv, x_tabs, x_mth, x_prp, x_fld, x_isi, x_kwo, x_xf, x_exm, x_eis, x_lt, x_lfn, x_smt, x_cmt, y_cmt, y_K, y_w, y_fn, y_gv, y_tabs, y_mth, y_prp, y_fld, y_isi, y_kwo, y_xf, y_exm, y_eis, y_smt, isi_int, isi_str, isi_bl, isi_non, ii1, ii2, ii3, ii4, ii5, ii6, ii7, it1, it2, it3, it4, it5, it6, it7, it8, it9, it10, it11, it12, it13, r_add, r_sub, r_mul, r_div, r_mod, r_pow, r_shl, r_shr, r_and, r_or, r_xor, r_neg, r_inv, r_lt, r_le, r_gt, r_ge, r_eqI, r_neI, r_eqS, r_neS, r_inS, r_niS, b_int, b_intB, b_abs, b_lenS, r_addS, r_isN, r_eqB, r_neB, List.getElem?_cons_zero, List.getElem?_cons_succ, List.set_cons_zero, List.set_cons_succ, List.map_cons, List.map_nil, List.length_cons, List.length_nil, Nat.reduceAdd, Nat.reduceSub, List.replicate_succ, List.replicate_zero, List.cons_append, List.nil_append, List.append_nil, Bool.not_true, Bool.not_false, if_true, if_false, ite_true, ite_false, Bool.false_eq_true, Bool.true_eq_false, reduceIte]
  refine ⟨s_Mode, dx, [], rfl, rfl, by decide, ?_⟩
  refine h x _ ?_ ⟨dx, upd_same⟩
  exact fun a o e => by
    rw [upd_ne (ne_of_none e hx), upd_ne (ne_of_none e hdx)]
    exact e
theorem num_att {fn : Str → Sp} {E : XK} {m : Addr} {b : Int} (hm : IsM K H m b) (hf : ∀ (Q : VK) E, Q (.int b) H → fn s_Mode_number [.ref m] H Q E) (h : Q (.int b) H) : rAtt (hd.pg.ctx K w fn) s_number E (.ref m) H Q := by
  obtain ⟨dx, hm⟩ := hm
  exact x_prpv hm rfl (hf _ _ h)
end U

namespace U
open PySem PySem.Spec PyProof.Rows L2
variable {K : PySem.W.Frag} {w : World} {n : Nat} {H : Hp} {Q : VK} {E : XK} {p : Addr}
theorem gv7 : hd.pg.gv K s_SIGNS = some (.str (S [114, 119, 120, 114, 119, 120, 114, 119, 120])) := rfl
theorem mthS : hd.pg.mth s_Mode "__str__" = some s_Mode___str__ := by decide +kernel
theorem and1 (x : Int) : CPow (Builtin.bitAnd x 1) y ↔ 0 ≤ y ∧ y ≤ 1000000 := by
  have h := bitAnd_range x (show (0 : Int) ≤ 1 by decide)
  unfold CPow
  constructor
  · exact fun h => ⟨h.1, h.2.1⟩
  · exact fun k => ⟨k.1, k.2, by omega⟩
/-- the sign at a place -/
def sgn (b : Int) (i : Nat) (c : Nat) : List Nat := if Builtin.bitAnd (b / 2 ^ (8 - (i : Int)).toNat) 1 != 0 then [c] else [45]
def strM (b : Int) : List Str := (([114, 119, 120, 114, 119, 120, 114, 119, 120] : List Nat).zipIdx.map fun q => S (sgn b q.2 q.1))
theorem c_Mode_str {m : Addr} {b : Int} (hm : IsM K H m b) (hn : 1 ≤ n) (hl : ((strM b).map (·.length)).sum + 9 * 0 ≤ 16777216) (h : ∀ H', Ext H H' → Q (.str (Txt.join (S []) (strM b))) H') : run hd.pg K w n s_Mode___str__ [.ref m] H Q E := by
  obtain ⟨dx, hm⟩ := hm
  refine run_at f_Mode___str__ hn rfl ?_
  simp only [d_Mode___str__, b_Mode___str__, L2.start, gv7, cps_S, e_k, e_v, e_g, e_bop, e_uop, e_not, e_and, e_or, e_ite, e_cmp, e_cmp2, e_lst, e_tup, e_dic, e_call, e_mk, e_bi, e_isi, e_meth, e_bm, e_icall, e_ostr, e_att, e_ix, e_sl, e_lc, e_isiM, e_methk, e_smeth, e_cmeth, e_mkv, e_mkk, kw_nil, e_oeq, e_eatt, e_eisi, t_v, t_isi, t_call, t_meth, t_bop, t_bi, t_att, t_not, t_and, t_or, t_cmp, t_cmp2, trQ_bl, blQ_bl, t_methk, t_smeth, t_oeq, t_eisi, t_ix, t_icall, a_nil', a_cons, s_nil, s_cons, s_set, s_setLc, s_par, s_expr, s_ret, s_retN, s_if, s_for, s_never, s_pass, s_brk, s_cont, s_par3, s_raise, g_v', g_tup, g_sub, g_att, gs_nil, gs_cons, gs_tup, i_L, i_T, i_S, i_R1, i_ES, i_E, i_Z, p_nil, p_pair, o_nil, o_k, o_v, o_bop, o_uop, o_bi, o_ix, oQ_int, x_K, x_w, x_fn, x_gv, x_tabs, x_mth, x_prp, x_fld, x_isi, x_kwo, x_xf, x_exm, x_eis, x_lt, x_lfn, x_smt, x_cmt, y_cmt, y_K, y_w, y_fn, y_gv, y_tabs, y_mth, y_prp, y_fld, y_isi, y_kwo, y_xf, y_exm, y_eis, y_smt, isi_int, isi_str, isi_bl, isi_non, ii1, ii2, ii3, ii4, ii5, ii6, ii7, it1, it2, it3, it4, it5, it6, it7, it8, it9, it10, it11, it12, it13, r_add, r_sub, r_mul, r_div, r_mod, r_pow, r_shl, r_shr, r_and, r_or, r_xor, r_neg, r_inv, r_lt, r_le, r_gt, r_ge, r_eqI, r_neI, r_eqS, r_neS, r_inS, r_niS, b_int, b_intB, b_abs, b_lenS, r_addS, r_isN, r_eqB, r_neB, List.getElem?_cons_zero, List.getElem?_cons_succ, List.set_cons_zero, List.set_cons_succ, List.map_cons, List.map_nil, List.length_cons, List.length_nil, Nat.reduceAdd, Nat.reduceSub, List.replicate_succ, List.replicate_zero, List.cons_append, List.nil_append, List.append_nil, Bool.not_true, Bool.not_false, if_true, if_false, ite_true, ite_false, Bool.false_eq_true, Bool.true_eq_false, reduceIte]
  refine ⟨rfl, fun D hD => ?_⟩
  refine lcs_inv (H := H) (f := fun | .t [.int i, .str ⟨⟨[c]⟩⟩] => some (.str (S (sgn b i.toNat c))) | _ => none) (fun _ _ => trivial) _ [] _ (Ext.new hD) upd_same ?_ (by decide) ?_
  · intro x hx H' acc nx x1 e1 hl hq
    obtain ⟨⟨c, i⟩, hc, rfl⟩ := List.mem_map.mp hx
    intro T hT
    have hne : D ≠ T := ne_of_none e1 hT
    have hi : i < 9 := by
      have := List.mem_zipIdx hc
      simp at this
      omega
    have x2 : Ext H (upd H' T (.tup [.int (i : Nat), .str (S [c])])) := x1.upd_of hT
    simp only [for_nil, for_v, for_t, lc_nil, lc_v, lc_t, lc_turn0, lc_turn1, wipe_nil, wipe_cons, true_and, and_true, upd_same, upd_upd, Option.some.injEq, HO.lst.injEq, HO.tup.injEq, HO.dK.injEq, exists_eq_left', List.singleton_append, Int.cast_ofNat_Int, e_k, e_v, e_g, e_bop, e_uop, e_not, e_and, e_or, e_ite, e_cmp, e_cmp2, e_lst, e_tup, e_dic, e_call, e_mk, e_bi, e_isi, e_meth, e_bm, e_icall, e_ostr, e_att, e_ix, e_sl, e_lc, e_isiM, e_methk, e_smeth, e_cmeth, e_mkv, e_mkk, kw_nil, e_oeq, e_eatt, e_eisi, t_v, t_isi, t_call, t_meth, t_bop, t_bi, t_att, t_not, t_and, t_or, t_cmp, t_cmp2, trQ_bl, blQ_bl, t_methk, t_smeth, t_oeq, t_eisi, t_ix, t_icall, a_nil', a_cons, s_nil, s_cons, s_set, s_setLc, s_par, s_expr, s_ret, s_retN, s_if, s_for, s_never, s_pass, s_brk, s_cont, s_par3, s_raise, g_v', g_tup, g_sub, g_att, gs_nil, gs_cons, gs_tup, i_L, i_T, i_S, i_R1, i_ES, i_E, i_Z, p_nil, p_pair, o_nil, o_k, o_v, o_bop, o_uop, o_bi, o_ix, oQ_int, x_K, x_w, x_fn, x_gv, x_tabs, x_mth, x_prp, x_fld, x_isi, x_kwo, x_xf, x_exm, x_eis, x_lt, x_lfn, x_smt, x_cmt, y_cmt, y_K, y_w, y_fn, y_gv, y_tabs, y_mth, y_prp, y_fld, y_isi, y_kwo, y_xf, y_exm, y_eis, y_smt, isi_int, isi_str, isi_bl, isi_non, ii1, ii2, ii3, ii4, ii5, ii6, ii7, it1, it2, it3, it4, it5, it6, it7, it8, it9, it10, it11, it12, it13, r_add, r_sub, r_mul, r_div, r_mod, r_pow, r_shl, r_shr, r_and, r_or, r_xor, r_neg, r_inv, r_lt, r_le, r_gt, r_ge, r_eqI, r_neI, r_eqS, r_neS, r_inS, r_niS, b_int, b_intB, b_abs, b_lenS, r_addS, r_isN, r_eqB, r_neB, List.getElem?_cons_zero, List.getElem?_cons_succ, List.set_cons_zero, List.set_cons_succ, List.map_cons, List.map_nil, List.length_cons, List.length_nil, Nat.reduceAdd, Nat.reduceSub, List.replicate_succ, List.replicate_zero, List.cons_append, List.nil_append, List.append_nil, Bool.not_true, Bool.not_false, if_true, if_false, ite_true, ite_false, Bool.false_eq_true, Bool.true_eq_false, reduceIte]
    refine ⟨rfl, x_fldv (x2.get hm) rfl rfl ?_⟩
    simp only [e_k, e_v, e_g, e_bop, e_uop, e_not, e_and, e_or, e_ite, e_cmp, e_cmp2, e_lst, e_tup, e_dic, e_call, e_mk, e_bi, e_isi, e_meth, e_bm, e_icall, e_ostr, e_att, e_ix, e_sl, e_lc, e_isiM, e_methk, e_smeth, e_cmeth, e_mkv, e_mkk, kw_nil, e_oeq, e_eatt, e_eisi, t_v, t_isi, t_call, t_meth, t_bop, t_bi, t_att, t_not, t_and, t_or, t_cmp, t_cmp2, trQ_bl, blQ_bl, t_methk, t_smeth, t_oeq, t_eisi, t_ix, t_icall, a_nil', a_cons, s_nil, s_cons, s_set, s_setLc, s_par, s_expr, s_ret, s_retN, s_if, s_for, s_never, s_pass, s_brk, s_cont, s_par3, s_raise, g_v', g_tup, g_sub, g_att, gs_nil, gs_cons, gs_tup, i_L, i_T, i_S, i_R1, i_ES, i_E, i_Z, p_nil, p_pair, o_nil, o_k, o_v, o_bop, o_uop, o_bi, o_ix, oQ_int, x_K, x_w, x_fn, x_gv, x_tabs, x_mth, x_prp, x_fld, x_isi, x_kwo, x_xf, x_exm, x_eis, x_lt, x_lfn, x_smt, x_cmt, y_cmt, y_K, y_w, y_fn, y_gv, y_tabs, y_mth, y_prp, y_fld, y_isi, y_kwo, y_xf, y_exm, y_eis, y_smt, isi_int, isi_str, isi_bl, isi_non, ii1, ii2, ii3, ii4, ii5, ii6, ii7, it1, it2, it3, it4, it5, it6, it7, it8, it9, it10, it11, it12, it13, r_add, r_sub, r_mul, r_div, r_mod, r_pow, r_shl, r_shr, r_and, r_or, r_xor, r_neg, r_inv, r_lt, r_le, r_gt, r_ge, r_eqI, r_neI, r_eqS, r_neS, r_inS, r_niS, b_int, b_intB, b_abs, b_lenS, r_addS, r_isN, r_eqB, r_neB, List.getElem?_cons_zero, List.getElem?_cons_succ, List.set_cons_zero, List.set_cons_succ, List.map_cons, List.map_nil, List.length_cons, List.length_nil, Nat.reduceAdd, Nat.reduceSub, List.replicate_succ, List.replicate_zero, List.cons_append, List.nil_append, List.append_nil, Bool.not_true, Bool.not_false, if_true, if_false, ite_true, ite_false, Bool.false_eq_true, Bool.true_eq_false, reduceIte]
    refine ⟨by omega, trQ_int ?_⟩
    have fin : ∀ c', sgn b i c = c' → ∃ acc, upd H' T (.tup [.int (i : Nat), .str (S [c])]) D = some (.lst acc) ∧ acc.length < sizeLine ∧ nx (upd (upd H' T (.tup [.int (i : Nat), .str (S [c])])) D (.lst (acc ++ [.str (S c')]))) := by
      intro c' ec
      refine ⟨acc, by rw [upd_ne hne]; exact e1, hl, hq _ (x2.put hD) ?_⟩
      rw [upd_same, ← ec]
      rfl
    unfold sgn at fin
    cases e : (Builtin.bitAnd (b / 2 ^ (8 - (i : Int)).toNat) 1 != 0) with
    | true =>
      rw [e] at fin
      try simp only [for_nil, for_v, for_t, lc_nil, lc_v, lc_t, lc_turn0, lc_turn1, wipe_nil, wipe_cons, true_and, and_true, upd_same, upd_upd, Option.some.injEq, HO.lst.injEq, HO.tup.injEq, HO.dK.injEq, exists_eq_left', List.singleton_append, Int.cast_ofNat_Int, and1, e_k, e_v, e_g, e_bop, e_uop, e_not, e_and, e_or, e_ite, e_cmp, e_cmp2, e_lst, e_tup, e_dic, e_call, e_mk, e_bi, e_isi, e_meth, e_bm, e_icall, e_ostr, e_att, e_ix, e_sl, e_lc, e_isiM, e_methk, e_smeth, e_cmeth, e_mkv, e_mkk, kw_nil, e_oeq, e_eatt, e_eisi, t_v, t_isi, t_call, t_meth, t_bop, t_bi, t_att, t_not, t_and, t_or, t_cmp, t_cmp2, trQ_bl, blQ_bl, t_methk, t_smeth, t_oeq, t_eisi, t_ix, t_icall, a_nil', a_cons, s_nil, s_cons, s_set, s_setLc, s_par, s_expr, s_ret, s_retN, s_if, s_for, s_never, s_pass, s_brk, s_cont, s_par3, s_raise, g_v', g_tup, g_sub, g_att, gs_nil, gs_cons, gs_tup, i_L, i_T, i_S, i_R1, i_ES, i_E, i_Z, p_nil, p_pair, o_nil, o_k, o_v, o_bop, o_uop, o_bi, o_ix, oQ_int, x_K, x_w, x_fn, x_gv, x_tabs, x_mth, x_prp, x_fld, x_isi, x_kwo, x_xf, x_exm, x_eis, x_lt, x_lfn, x_smt, x_cmt, y_cmt, y_K, y_w, y_fn, y_gv, y_tabs, y_mth, y_prp, y_fld, y_isi, y_kwo, y_xf, y_exm, y_eis, y_smt, isi_int, isi_str, isi_bl, isi_non, ii1, ii2, ii3, ii4, ii5, ii6, ii7, it1, it2, it3, it4, it5, it6, it7, it8, it9, it10, it11, it12, it13, r_add, r_sub, r_mul, r_div, r_mod, r_pow, r_shl, r_shr, r_and, r_or, r_xor, r_neg, r_inv, r_lt, r_le, r_gt, r_ge, r_eqI, r_neI, r_eqS, r_neS, r_inS, r_niS, b_int, b_intB, b_abs, b_lenS, r_addS, r_isN, r_eqB, r_neB, List.getElem?_cons_zero, List.getElem?_cons_succ, List.set_cons_zero, List.set_cons_succ, List.map_cons, List.map_nil, List.length_cons, List.length_nil, Nat.reduceAdd, Nat.reduceSub, List.replicate_succ, List.replicate_zero, List.cons_append, List.nil_append, List.append_nil, Bool.not_true, Bool.not_false, if_true, if_false, ite_true, ite_false, Bool.false_eq_true, Bool.true_eq_false, reduceIte]
      exact fin _ rfl
    | false =>
      rw [e] at fin
      try simp only [for_nil, for_v, for_t, lc_nil, lc_v, lc_t, lc_turn0, lc_turn1, wipe_nil, wipe_cons, true_and, and_true, upd_same, upd_upd, Option.some.injEq, HO.lst.injEq, HO.tup.injEq, HO.dK.injEq, exists_eq_left', List.singleton_append, Int.cast_ofNat_Int, and1, e_k, e_v, e_g, e_bop, e_uop, e_not, e_and, e_or, e_ite, e_cmp, e_cmp2, e_lst, e_tup, e_dic, e_call, e_mk, e_bi, e_isi, e_meth, e_bm, e_icall, e_ostr, e_att, e_ix, e_sl, e_lc, e_isiM, e_methk, e_smeth, e_cmeth, e_mkv, e_mkk, kw_nil, e_oeq, e_eatt, e_eisi, t_v, t_isi, t_call, t_meth, t_bop, t_bi, t_att, t_not, t_and, t_or, t_cmp, t_cmp2, trQ_bl, blQ_bl, t_methk, t_smeth, t_oeq, t_eisi, t_ix, t_icall, a_nil', a_cons, s_nil, s_cons, s_set, s_setLc, s_par, s_expr, s_ret, s_retN, s_if, s_for, s_never, s_pass, s_brk, s_cont, s_par3, s_raise, g_v', g_tup, g_sub, g_att, gs_nil, gs_cons, gs_tup, i_L, i_T, i_S, i_R1, i_ES, i_E, i_Z, p_nil, p_pair, o_nil, o_k, o_v, o_bop, o_uop, o_bi, o_ix, oQ_int, x_K, x_w, x_fn, x_gv, x_tabs, x_mth, x_prp, x_fld, x_isi, x_kwo, x_xf, x_exm, x_eis, x_lt, x_lfn, x_smt, x_cmt, y_cmt, y_K, y_w, y_fn, y_gv, y_tabs, y_mth, y_prp, y_fld, y_isi, y_kwo, y_xf, y_exm, y_eis, y_smt, isi_int, isi_str, isi_bl, isi_non, ii1, ii2, ii3, ii4, ii5, ii6, ii7, it1, it2, it3, it4, it5, it6, it7, it8, it9, it10, it11, it12, it13, r_add, r_sub, r_mul, r_div, r_mod, r_pow, r_shl, r_shr, r_and, r_or, r_xor, r_neg, r_inv, r_lt, r_le, r_gt, r_ge, r_eqI, r_neI, r_eqS, r_neS, r_inS, r_niS, b_int, b_intB, b_abs, b_lenS, r_addS, r_isN, r_eqB, r_neB, List.getElem?_cons_zero, List.getElem?_cons_succ, List.set_cons_zero, List.set_cons_succ, List.map_cons, List.map_nil, List.length_cons, List.length_nil, Nat.reduceAdd, Nat.reduceSub, List.replicate_succ, List.replicate_zero, List.cons_append, List.nil_append, List.append_nil, Bool.not_true, Bool.not_false, if_true, if_false, ite_true, ite_false, Bool.false_eq_true, Bool.true_eq_false, reduceIte]
      exact fin _ rfl
  · intro H1 x1 e1
    try simp only [for_nil, for_v, for_t, lc_nil, lc_v, lc_t, lc_turn0, lc_turn1, wipe_nil, wipe_cons, true_and, and_true, upd_same, upd_upd, Option.some.injEq, HO.lst.injEq, HO.tup.injEq, HO.dK.injEq, exists_eq_left', List.singleton_append, Int.cast_ofNat_Int, and1, e_k, e_v, e_g, e_bop, e_uop, e_not, e_and, e_or, e_ite, e_cmp, e_cmp2, e_lst, e_tup, e_dic, e_call, e_mk, e_bi, e_isi, e_meth, e_bm, e_icall, e_ostr, e_att, e_ix, e_sl, e_lc, e_isiM, e_methk, e_smeth, e_cmeth, e_mkv, e_mkk, kw_nil, e_oeq, e_eatt, e_eisi, t_v, t_isi, t_call, t_meth, t_bop, t_bi, t_att, t_not, t_and, t_or, t_cmp, t_cmp2, trQ_bl, blQ_bl, t_methk, t_smeth, t_oeq, t_eisi, t_ix, t_icall, a_nil', a_cons, s_nil, s_cons, s_set, s_setLc, s_par, s_expr, s_ret, s_retN, s_if, s_for, s_never, s_pass, s_brk, s_cont, s_par3, s_raise, g_v', g_tup, g_sub, g_att, gs_nil, gs_cons, gs_tup, i_L, i_T, i_S, i_R1, i_ES, i_E, i_Z, p_nil, p_pair, o_nil, o_k, o_v, o_bop, o_uop, o_bi, o_ix, oQ_int, x_K, x_w, x_fn, x_gv, x_tabs, x_mth, x_prp, x_fld, x_isi, x_kwo, x_xf, x_exm, x_eis, x_lt, x_lfn, x_smt, x_cmt, y_cmt, y_K, y_w, y_fn, y_gv, y_tabs, y_mth, y_prp, y_fld, y_isi, y_kwo, y_xf, y_exm, y_eis, y_smt, isi_int, isi_str, isi_bl, isi_non, ii1, ii2, ii3, ii4, ii5, ii6, ii7, it1, it2, it3, it4, it5, it6, it7, it8, it9, it10, it11, it12, it13, r_add, r_sub, r_mul, r_div, r_mod, r_pow, r_shl, r_shr, r_and, r_or, r_xor, r_neg, r_inv, r_lt, r_le, r_gt, r_ge, r_eqI, r_neI, r_eqS, r_neS, r_inS, r_niS, b_int, b_intB, b_abs, b_lenS, r_addS, r_isN, r_eqB, r_neB, List.getElem?_cons_zero, List.getElem?_cons_succ, List.set_cons_zero, List.set_cons_succ, List.map_cons, List.map_nil, List.length_cons, List.length_nil, Nat.reduceAdd, Nat.reduceSub, List.replicate_succ, List.replicate_zero, List.cons_append, List.nil_append, List.append_nil, Bool.not_true, Bool.not_false, if_true, if_false, ite_true, ite_false, Bool.false_eq_true, Bool.true_eq_false, reduceIte]
    refine ⟨S [], D, strM b, rfl, rfl, .inl (.inl (.inl ?_)), ?_, h H1 x1⟩
    · rw [e1]
      rfl
    · exact hl
theorem ostr_of {m : Int} {z : Str} {q : Addr} (hn : 1 ≤ n) (hq : IsM K H q m) (hl : ((strM m).map (·.length)).sum + 9 * 0 ≤ 16777216) (hz : Txt.join (S []) (strM m) = z)
    (h : ∀ H', Ext H H' → Q (.str z) H') : ∃ cn dx fs key, H q = some (.ins (He.ga K cn) dx fs) ∧ hd.pg.mth cn "__str__" = some key ∧ run hd.pg K w n key [.ref q] H (fun v H2 => match v with | .str z => Q (.str z) H2 | _ => False) fun _ _ _ => False := by
  obtain ⟨dx, e⟩ := id hq
  refine ⟨s_Mode, dx, _, _, e, mthS, c_Mode_str hq hn hl fun H2 x2 => ?_⟩
  rw [hz]
  exact h H2 x2
end U

namespace U
open PySem PySem.Spec PyProof.Rows L2
variable {K : PySem.W.Frag} {w : World} {n : Nat} {H : Hp} {Q : VK} {E : XK}
/-- raises BadText with these parts -/
def BadsT (K : PySem.W.Frag) (u v : V) (H : Hp) (tl : XK → Hp → VK → Prop) : Prop := ∀ (H' : Hp) (E : XK) (Q : VK), Ext H H' → (∀ d H'', Ext H' H'' → H'' d = some (.xd [(s_word, v), (s_line, u)]) → E (.ref (He.ga K s_BadText)) (some d) H'') → tl E H' Q
theorem marks_ok {p q : Addr} {a b c : Bool} {T : List KTab} (h1 : H p = some (.lst [.bl a, .bl b, .bl c])) (h2 : H q = some (.lst [.bl a, .bl b, .bl c])) (k : Q (.bl false) H) : rCmp K w T .NotEq (.ref p) (.ref q) H Q := by
  have dp : DpAll K H [.bl a, .bl b, .bl c] [.bool a, .bool b, .bool c] := .cons (.bl _) (.cons (.bl _) (.cons (.bl _) .nil))
  refine r_neD rfl (.lst (.inl (.inl h1)) dp) (.lst (.inl (.inl h2)) dp) (by cases a <;> cases b <;> cases c <;> decide +kernel) (by cases a <;> cases b <;> cases c <;> decide +kernel) ?_
  rw [show PyData.eqv _ _ = true from by cases a <;> cases b <;> cases c <;> decide +kernel]
  exact k
theorem heard_text {tl : XK → Hp → VK → Prop} {fn : Str → Sp} {u v : V} (ht : BadsT K u v H tl) (h : ∀ p H', Ext H H' → H' p = some (.tup [.str (S [116, 101, 120, 116]), u, v]) → Q (.ref p) H') : hd.pg.lrun K w fn s__law_heard tl H Q := by
  unfold Pg.lrun
  rw [f__law_heard]
  intro f c q hc
  simp only [d__law_heard, b__law_heard, L2.start, s_cons, s_try, s_ret, e_tup, a_cons, a_nil', e_k, e_act, y_lam, List.getElem?_cons_zero, List.getElem?_cons_succ, List.set_cons_zero, List.set_cons_succ, List.map_cons, List.map_nil, List.length_cons, List.length_nil, Nat.reduceAdd, Nat.reduceSub, List.replicate_succ, List.replicate_zero, List.cons_append, List.nil_append, List.append_nil, Bool.not_true, Bool.not_false, if_true, if_false, ite_true, ite_false, Bool.false_eq_true, Bool.true_eq_false, reduceIte]
  refine ⟨trivial, trivial, hc, ht _ _ _ Ext.refl fun d H1 x1 h1 => ?_⟩
  refine ⟨s_BadText, true, rfl, rfl, fun _ a ha => ?_, fun e => nomatch e⟩
  have x2 := Ext.new (o := errO a (.ref (He.ga K s_BadText)) (some d)) ha
  have hA : upd H1 a (errO a (.ref (He.ga K s_BadText)) (some d)) a = some (errO a (.ref (He.ga K s_BadText)) (some d)) := upd_same
  have hD := x2.get h1
  have y2 := x1.trans x2
  generalize upd H1 a (errO a (.ref (He.ga K s_BadText)) (some d)) = H2 at x2 hA hD y2 ⊢
  simp only [e_k, e_v, e_g, e_bop, e_uop, e_not, e_and, e_or, e_ite, e_cmp, e_cmp2, e_lst, e_tup, e_dic, e_call, e_mk, e_bi, e_isi, e_meth, e_bm, e_icall, e_ostr, e_att, e_ix, e_sl, e_lc, e_isiM, e_methk, e_smeth, e_cmeth, e_mkv, e_mkk, kw_nil, e_oeq, e_eatt, e_eisi, t_v, t_isi, t_call, t_meth, t_bop, t_bi, t_att, t_not, t_and, t_or, t_cmp, t_cmp2, trQ_bl, blQ_bl, t_methk, t_smeth, t_oeq, t_eisi, t_ix, t_icall, a_nil', a_cons, s_nil, s_cons, s_set, s_setLc, s_par, s_expr, s_ret, s_retN, s_if, s_for, s_never, s_pass, s_brk, s_cont, s_par3, s_raise, g_v', g_tup, g_sub, g_att, gs_nil, gs_cons, gs_tup, i_L, i_T, i_S, i_R1, i_ES, i_E, i_Z, p_nil, p_pair, o_nil, o_k, o_v, o_bop, o_uop, o_bi, o_ix, oQ_int, x_K, x_w, x_fn, x_gv, x_tabs, x_mth, x_prp, x_fld, x_isi, x_kwo, x_xf, x_exm, x_eis, x_lt, x_lfn, x_smt, x_cmt, y_cmt, y_K, y_w, y_fn, y_gv, y_tabs, y_mth, y_prp, y_fld, y_isi, y_kwo, y_xf, y_exm, y_eis, y_smt, isi_int, isi_str, isi_bl, isi_non, ii1, ii2, ii3, ii4, ii5, ii6, ii7, it1, it2, it3, it4, it5, it6, it7, it8, it9, it10, it11, it12, it13, r_add, r_sub, r_mul, r_div, r_mod, r_pow, r_shl, r_shr, r_and, r_or, r_xor, r_neg, r_inv, r_lt, r_le, r_gt, r_ge, r_eqI, r_neI, r_eqS, r_neS, r_inS, r_niS, b_int, b_intB, b_abs, b_lenS, r_addS, r_isN, r_eqB, r_neB, List.getElem?_cons_zero, List.getElem?_cons_succ, List.set_cons_zero, List.set_cons_succ, List.map_cons, List.map_nil, List.length_cons, List.length_nil, Nat.reduceAdd, Nat.reduceSub, List.replicate_succ, List.replicate_zero, List.cons_append, List.nil_append, List.append_nil, Bool.not_true, Bool.not_false, if_true, if_false, ite_true, ite_false, Bool.false_eq_true, Bool.true_eq_false, reduceIte]
  refine ⟨s_BadText, d, _, true, hA, hD, rfl, ?_⟩
  refine ⟨s_BadText, d, _, false, hA, hD, rfl, ?_⟩
  refine ⟨s_BadText, d, _, true, hA, hD, rfl, ?_⟩
  refine ⟨(by decide : 3 ≤ sizeLine), fun p hp => ?_⟩
  refine ⟨(by decide : 3 ≤ sizeLine), fun p2 hp2 => ?_⟩
  have x3 := Ext.new (o := .lst [.bl true, .bl false, .bl true]) hp
  have x4 := Ext.new (o := .lst [.bl true, .bl false, .bl true]) hp2
  have x34 := x3.trans x4
  refine marks_ok (x4.get upd_same) upd_same ?_
  simp only [e_k, e_v, e_g, e_bop, e_uop, e_not, e_and, e_or, e_ite, e_cmp, e_cmp2, e_lst, e_tup, e_dic, e_call, e_mk, e_bi, e_isi, e_meth, e_bm, e_icall, e_ostr, e_att, e_ix, e_sl, e_lc, e_isiM, e_methk, e_smeth, e_cmeth, e_mkv, e_mkk, kw_nil, e_oeq, e_eatt, e_eisi, t_v, t_isi, t_call, t_meth, t_bop, t_bi, t_att, t_not, t_and, t_or, t_cmp, t_cmp2, trQ_bl, blQ_bl, t_methk, t_smeth, t_oeq, t_eisi, t_ix, t_icall, a_nil', a_cons, s_nil, s_cons, s_set, s_setLc, s_par, s_expr, s_ret, s_retN, s_if, s_for, s_never, s_pass, s_brk, s_cont, s_par3, s_raise, g_v', g_tup, g_sub, g_att, gs_nil, gs_cons, gs_tup, i_L, i_T, i_S, i_R1, i_ES, i_E, i_Z, p_nil, p_pair, o_nil, o_k, o_v, o_bop, o_uop, o_bi, o_ix, oQ_int, x_K, x_w, x_fn, x_gv, x_tabs, x_mth, x_prp, x_fld, x_isi, x_kwo, x_xf, x_exm, x_eis, x_lt, x_lfn, x_smt, x_cmt, y_cmt, y_K, y_w, y_fn, y_gv, y_tabs, y_mth, y_prp, y_fld, y_isi, y_kwo, y_xf, y_exm, y_eis, y_smt, isi_int, isi_str, isi_bl, isi_non, ii1, ii2, ii3, ii4, ii5, ii6, ii7, it1, it2, it3, it4, it5, it6, it7, it8, it9, it10, it11, it12, it13, r_add, r_sub, r_mul, r_div, r_mod, r_pow, r_shl, r_shr, r_and, r_or, r_xor, r_neg, r_inv, r_lt, r_le, r_gt, r_ge, r_eqI, r_neI, r_eqS, r_neS, r_inS, r_niS, b_int, b_intB, b_abs, b_lenS, r_addS, r_isN, r_eqB, r_neB, List.getElem?_cons_zero, List.getElem?_cons_succ, List.set_cons_zero, List.set_cons_succ, List.map_cons, List.map_nil, List.length_cons, List.length_nil, Nat.reduceAdd, Nat.reduceSub, List.replicate_succ, List.replicate_zero, List.cons_append, List.nil_append, List.append_nil, Bool.not_true, Bool.not_false, if_true, if_false, ite_true, ite_false, Bool.false_eq_true, Bool.true_eq_false, reduceIte]
  refine ⟨s_BadText, d, _, false, x34.get hA, x34.get hD, rfl, ?_⟩
  simp only [e_k, e_v, e_g, e_bop, e_uop, e_not, e_and, e_or, e_ite, e_cmp, e_cmp2, e_lst, e_tup, e_dic, e_call, e_mk, e_bi, e_isi, e_meth, e_bm, e_icall, e_ostr, e_att, e_ix, e_sl, e_lc, e_isiM, e_methk, e_smeth, e_cmeth, e_mkv, e_mkk, kw_nil, e_oeq, e_eatt, e_eisi, t_v, t_isi, t_call, t_meth, t_bop, t_bi, t_att, t_not, t_and, t_or, t_cmp, t_cmp2, trQ_bl, blQ_bl, t_methk, t_smeth, t_oeq, t_eisi, t_ix, t_icall, a_nil', a_cons, s_nil, s_cons, s_set, s_setLc, s_par, s_expr, s_ret, s_retN, s_if, s_for, s_never, s_pass, s_brk, s_cont, s_par3, s_raise, g_v', g_tup, g_sub, g_att, gs_nil, gs_cons, gs_tup, i_L, i_T, i_S, i_R1, i_ES, i_E, i_Z, p_nil, p_pair, o_nil, o_k, o_v, o_bop, o_uop, o_bi, o_ix, oQ_int, x_K, x_w, x_fn, x_gv, x_tabs, x_mth, x_prp, x_fld, x_isi, x_kwo, x_xf, x_exm, x_eis, x_lt, x_lfn, x_smt, x_cmt, y_cmt, y_K, y_w, y_fn, y_gv, y_tabs, y_mth, y_prp, y_fld, y_isi, y_kwo, y_xf, y_exm, y_eis, y_smt, isi_int, isi_str, isi_bl, isi_non, ii1, ii2, ii3, ii4, ii5, ii6, ii7, it1, it2, it3, it4, it5, it6, it7, it8, it9, it10, it11, it12, it13, r_add, r_sub, r_mul, r_div, r_mod, r_pow, r_shl, r_shr, r_and, r_or, r_xor, r_neg, r_inv, r_lt, r_le, r_gt, r_ge, r_eqI, r_neI, r_eqS, r_neS, r_inS, r_niS, b_int, b_intB, b_abs, b_lenS, r_addS, r_isN, r_eqB, r_neB, List.getElem?_cons_zero, List.getElem?_cons_succ, List.set_cons_zero, List.set_cons_succ, List.map_cons, List.map_nil, List.length_cons, List.length_nil, Nat.reduceAdd, Nat.reduceSub, List.replicate_succ, List.replicate_zero, List.cons_append, List.nil_append, List.append_nil, Bool.not_true, Bool.not_false, if_true, if_false, ite_true, ite_false, Bool.false_eq_true, Bool.true_eq_false, reduceIte]
  refine ⟨s_BadText, d, _, true, x34.get hA, x34.get hD, rfl, ?_⟩
  simp only [e_k, e_v, e_g, e_bop, e_uop, e_not, e_and, e_or, e_ite, e_cmp, e_cmp2, e_lst, e_tup, e_dic, e_call, e_mk, e_bi, e_isi, e_meth, e_bm, e_icall, e_ostr, e_att, e_ix, e_sl, e_lc, e_isiM, e_methk, e_smeth, e_cmeth, e_mkv, e_mkk, kw_nil, e_oeq, e_eatt, e_eisi, t_v, t_isi, t_call, t_meth, t_bop, t_bi, t_att, t_not, t_and, t_or, t_cmp, t_cmp2, trQ_bl, blQ_bl, t_methk, t_smeth, t_oeq, t_eisi, t_ix, t_icall, a_nil', a_cons, s_nil, s_cons, s_set, s_setLc, s_par, s_expr, s_ret, s_retN, s_if, s_for, s_never, s_pass, s_brk, s_cont, s_par3, s_raise, g_v', g_tup, g_sub, g_att, gs_nil, gs_cons, gs_tup, i_L, i_T, i_S, i_R1, i_ES, i_E, i_Z, p_nil, p_pair, o_nil, o_k, o_v, o_bop, o_uop, o_bi, o_ix, oQ_int, x_K, x_w, x_fn, x_gv, x_tabs, x_mth, x_prp, x_fld, x_isi, x_kwo, x_xf, x_exm, x_eis, x_lt, x_lfn, x_smt, x_cmt, y_cmt, y_K, y_w, y_fn, y_gv, y_tabs, y_mth, y_prp, y_fld, y_isi, y_kwo, y_xf, y_exm, y_eis, y_smt, isi_int, isi_str, isi_bl, isi_non, ii1, ii2, ii3, ii4, ii5, ii6, ii7, it1, it2, it3, it4, it5, it6, it7, it8, it9, it10, it11, it12, it13, r_add, r_sub, r_mul, r_div, r_mod, r_pow, r_shl, r_shr, r_and, r_or, r_xor, r_neg, r_inv, r_lt, r_le, r_gt, r_ge, r_eqI, r_neI, r_eqS, r_neS, r_inS, r_niS, b_int, b_intB, b_abs, b_lenS, r_addS, r_isN, r_eqB, r_neB, List.getElem?_cons_zero, List.getElem?_cons_succ, List.set_cons_zero, List.set_cons_succ, List.map_cons, List.map_nil, List.length_cons, List.length_nil, Nat.reduceAdd, Nat.reduceSub, List.replicate_succ, List.replicate_zero, List.cons_append, List.nil_append, List.append_nil, Bool.not_true, Bool.not_false, if_true, if_false, ite_true, ite_false, Bool.false_eq_true, Bool.true_eq_false, reduceIte]
  refine ⟨s_BadText, d, _, x34.get hA, x34.get hD, ⟨_, rfl, by decide +kernel⟩, u, rfl, ?_⟩
  refine ⟨s_BadText, d, _, x34.get hA, x34.get hD, ⟨_, rfl, by decide +kernel⟩, v, rfl, ?_⟩
  refine ⟨(by decide : 3 ≤ sizeLine), fun p3 hp3 => ?_⟩
  exact h p3 _ (y2.trans (x34.trans (Ext.new hp3))) upd_same
/-- tells a value -/
theorem heard_told {tl : XK → Hp → VK → Prop} {fn : Str → Sp} (ht : ∀ (E : XK) (Q' : VK), (∀ v H', Ext H H' → (∀ p H'', Ext H' H'' → H'' p = some (.tup [.str (S [116, 111, 108, 100]), v]) → Q (.ref p) H'') → Q' v H') → tl E H Q') : hd.pg.lrun K w fn s__law_heard tl H Q := by
  unfold Pg.lrun
  rw [f__law_heard]
  intro f c q hc
  simp only [d__law_heard, b__law_heard, L2.start, s_cons, s_try, s_ret, e_tup, a_cons, a_nil', e_k, e_act, y_lam, List.getElem?_cons_zero, List.getElem?_cons_succ, List.set_cons_zero, List.set_cons_succ, List.map_cons, List.map_nil, List.length_cons, List.length_nil, Nat.reduceAdd, Nat.reduceSub, List.replicate_succ, List.replicate_zero, List.cons_append, List.nil_append, List.append_nil, Bool.not_true, Bool.not_false, if_true, if_false, ite_true, ite_false, Bool.false_eq_true, Bool.true_eq_false, reduceIte]
  refine ⟨trivial, trivial, hc, ht _ _ fun v H1 x1 h => ?_⟩
  exact ⟨(by decide : 2 ≤ sizeLine), fun p hp => h p _ (Ext.new hp) upd_same⟩
/-! ### Mode.read -/
def sgL : List Nat := [114, 119, 120, 114, 119, 120, 114, 119, 120]
def badC (t : List Nat) (p : Nat × Nat) : Bool := match t[p.2]? with
  | none => true
  | some d => !(d == p.1 || d == 45)
theorem inV2 {d c : Nat} : inV (.str (S [d])) [.str (S [c]), .str (S [45])] = (d == c || d == 45) := by
  show ((eqV (.str (S [c])) (.str (S [d]))) || ((eqV (.str (S [45])) (.str (S [d]))) || false)) = _
  have e : ∀ a b : Nat, eqV (.str (S [a])) (.str (S [b])) = (b == a) := fun a b => by
    show (S [a] == S [b]) = (b == a)
    rw [show (S [a] == S [b]) = (a == b) from by simp [BEq.beq, S]]
    exact Bool.beq_comm
  rw [e, e, Bool.or_false]
theorem xfT : hd.pg.xf s_BadText = some [s_line, s_word] := by decide +kernel
theorem gvS : hd.pg.gv K s_SIGNS = some (.str (S sgL)) := rfl
theorem gvG : hd.pg.gv K s_GREATEST = some (.int 511) := rfl
theorem read_loop {t : List Nat} {fn : Str → Sp} {W : WX} {D : Ends} {v0 : Option V} (ht : t.length ≤ 1000) : ∀ (l : List (Nat × Nat)) (H' : Hp) (v2 v3 : Option V), Ext H H' →
    (∀ c k, l.find? (badC t) = some (c, k) → ∀ d H'' σ, Ext H H'' → H'' d = some (.xd [(s_word, .int k), (s_line, .int 0)]) → W (.ref (He.ga K s_BadText)) (some d) σ H'') →
    (l.find? (badC t) = none → ∀ H'' v2 v3, Ext H H'' → D.nx [v0, some (.str (S t)), v2, v3] H'') →
    forGo (fun _ => True) (rd (hd.pg.ctx K w fn) (.tupG (.cons (.v 2) (.cons (.v 3) .nil))) W).g (rd (hd.pg.ctx K w fn) (.tupG (.cons (.v 2) (.cons (.v 3) .nil))) W).gs (rd (hd.pg.ctx K w fn) (.cons (.if_ (.or (.cmp .GtE (.v 2) (.bi .len (.cons (.v 1) .nil))) (.cmp .NotIn (.ix (.v 1) (.v 2)) (.tup (.cons (.v 3) (.cons (.k (V.str (S [45]))) .nil))))) (.cons (.raise s_BadText (.cons (.k (V.int 0)) (.cons (.v 2) .nil))) .nil) .nil) .nil) W).s D
      (l.map fun p => .t [.int (p.2 : Nat), .str (S [p.1])]) [v0, some (.str (S t)), v2, v3] H'
  | [], H', v2, v3, x, _, h2 => ⟨trivial, h2 rfl H' v2 v3 x⟩
  | p :: l, H', v2, v3, x, h1, h2 => by
    obtain ⟨c, i⟩ := p
    have hs : (1000 : Nat) ≤ sizeLine := by decide
    have hlen : (S t).length = t.length := rfl
    rw [List.map_cons, for_t]
    refine ⟨trivial, fun T hT => ?_⟩
    have xT := x.upd_of (o := .tup [.int (i : Nat), .str (S [c])]) hT
    generalize upd H' T (.tup [.int (i : Nat), .str (S [c])]) = H1 at xT ⊢
    simp only [I.len, true_and, e_k, e_v, e_g, e_bop, e_uop, e_not, e_and, e_or, e_ite, e_cmp, e_cmp2, e_lst, e_tup, e_call, e_mk, e_bi, e_isi, e_meth, e_bm, e_icall, e_ostr, e_att, e_ix, e_sl, e_isiM, e_methk, e_smeth, e_cmeth, e_mkv, e_mkk, kw_nil, e_oeq, e_eatt, e_eisi, t_v, t_isi, t_call, t_meth, t_bop, t_bi, t_att, t_not, t_and, t_or, t_cmp, t_cmp2, trQ_bl, blQ_bl, t_methk, t_smeth, t_oeq, t_eisi, t_ix, t_icall, a_nil', a_cons, s_nil, s_cons, s_set, s_setLc, s_par, s_expr, s_ret, s_retN, s_if, s_never, s_pass, s_brk, s_cont, s_par3, s_raise, g_v', g_tup, g_sub, g_att, gs_nil, gs_cons, gs_tup, i_L, i_T, i_S, i_R1, i_ES, i_E, i_Z, p_nil, p_pair, o_nil, o_k, o_v, o_bop, o_uop, o_bi, o_ix, oQ_int, x_K, x_w, x_fn, x_gv, x_tabs, x_mth, x_prp, x_fld, x_isi, x_kwo, x_xf, x_exm, x_eis, x_lt, x_lfn, x_smt, x_cmt, y_cmt, y_K, y_w, y_fn, y_gv, y_tabs, y_mth, y_prp, y_fld, y_isi, y_kwo, y_xf, y_exm, y_eis, y_smt, isi_int, isi_str, isi_bl, isi_non, ii1, ii2, ii3, ii4, ii5, ii6, ii7, it1, it2, it3, it4, it5, it6, it7, it8, it9, it10, it11, it12, it13, r_add, r_sub, r_mul, r_div, r_mod, r_pow, r_shl, r_shr, r_and, r_or, r_xor, r_neg, r_inv, r_lt, r_le, r_gt, r_ge, r_eqI, r_neI, r_eqS, r_neS, r_inS, r_niS, b_int, b_intB, b_abs, b_lenS, r_addS, r_isN, r_eqB, r_neB, List.getElem?_cons_zero, List.getElem?_cons_succ, List.set_cons_zero, List.set_cons_succ, List.map_cons, List.map_nil, List.length_cons, List.length_nil, Nat.reduceAdd, Nat.reduceSub, List.replicate_succ, List.replicate_zero, List.cons_append, List.nil_append, List.append_nil, Bool.not_true, Bool.not_false, if_true, if_false, ite_true, ite_false, Bool.false_eq_true, Bool.true_eq_false, reduceIte]
    refine ⟨by omega, ?_⟩
    have rs : badC t (c, i) = true → ∀ H2, Ext H H2 → ∃ fs, hd.pg.xf s_BadText = some fs ∧ 2 = fs.length ∧ ∀ d, H2 d = none → W (.ref (He.ga K s_BadText)) (some d) [v0, some (.str (S t)), some (.int (i : Nat)), some (.str (S [c]))] (upd H2 d (.xd (fs.zip [V.int 0, V.int (i : Nat)]).reverse)) := fun hb H2 x2 =>
      ⟨_, xfT, rfl, fun d hd => h1 c i (by rw [List.find?_cons, hb]) d _ _ (x2.upd_of hd) upd_same⟩
    rw [hlen]
    by_cases hi : i < t.length
    · have hi' : ¬ ((t.length : Int) ≤ (i : Nat)) := by omega
      simp only [hi', decide_false, e_k, e_v, e_g, e_bop, e_uop, e_not, e_and, e_or, e_ite, e_cmp, e_cmp2, e_lst, e_tup, e_call, e_mk, e_bi, e_isi, e_meth, e_bm, e_icall, e_ostr, e_att, e_ix, e_sl, e_isiM, e_methk, e_smeth, e_cmeth, e_mkv, e_mkk, kw_nil, e_oeq, e_eatt, e_eisi, t_v, t_isi, t_call, t_meth, t_bop, t_bi, t_att, t_not, t_and, t_or, t_cmp, t_cmp2, trQ_bl, blQ_bl, t_methk, t_smeth, t_oeq, t_eisi, t_ix, t_icall, a_nil', a_cons, s_nil, s_cons, s_set, s_setLc, s_par, s_expr, s_ret, s_retN, s_if, s_never, s_pass, s_brk, s_cont, s_par3, s_raise, g_v', g_tup, g_sub, g_att, gs_nil, gs_cons, gs_tup, i_L, i_T, i_S, i_R1, i_ES, i_E, i_Z, p_nil, p_pair, o_nil, o_k, o_v, o_bop, o_uop, o_bi, o_ix, oQ_int, x_K, x_w, x_fn, x_gv, x_tabs, x_mth, x_prp, x_fld, x_isi, x_kwo, x_xf, x_exm, x_eis, x_lt, x_lfn, x_smt, x_cmt, y_cmt, y_K, y_w, y_fn, y_gv, y_tabs, y_mth, y_prp, y_fld, y_isi, y_kwo, y_xf, y_exm, y_eis, y_smt, isi_int, isi_str, isi_bl, isi_non, ii1, ii2, ii3, ii4, ii5, ii6, ii7, it1, it2, it3, it4, it5, it6, it7, it8, it9, it10, it11, it12, it13, r_add, r_sub, r_mul, r_div, r_mod, r_pow, r_shl, r_shr, r_and, r_or, r_xor, r_neg, r_inv, r_lt, r_le, r_gt, r_ge, r_eqI, r_neI, r_eqS, r_neS, r_inS, r_niS, b_int, b_intB, b_abs, b_lenS, r_addS, r_isN, r_eqB, r_neB, List.getElem?_cons_zero, List.getElem?_cons_succ, List.set_cons_zero, List.set_cons_succ, List.map_cons, List.map_nil, List.length_cons, List.length_nil, Nat.reduceAdd, Nat.reduceSub, List.replicate_succ, List.replicate_zero, List.cons_append, List.nil_append, List.append_nil, Bool.not_true, Bool.not_false, if_true, if_false, ite_true, ite_false, Bool.false_eq_true, Bool.true_eq_false, reduceIte]
      obtain ⟨d, hd⟩ : ∃ d, t[i]? = some d := ⟨_, List.getElem?_eq_getElem hi⟩
      refine ⟨by omega, d, atI_nat hd, by decide, fun q hq => ?_⟩
      refine r_niL (.inr (.inl (.inl upd_same))) rfl rfl ?_
      rw [inV2]
      have xq := xT.upd_of (o := .tup [.str (S [c]), .str (S [45])]) hq
      generalize upd H1 q (.tup [.str (S [c]), .str (S [45])]) = H2 at xq ⊢
      cases hb : (d == c || d == 45) with
      | false =>
        have hbad : badC t (c, i) = true := by
          show (match t[i]? with | none => true | some d => !(d == c || d == 45)) = true
          rw [hd]
          show (!(d == c || d == 45)) = true
          rw [hb]; rfl
        simp only [e_k, e_v, e_g, e_bop, e_uop, e_not, e_and, e_or, e_ite, e_cmp, e_cmp2, e_lst, e_tup, e_call, e_mk, e_bi, e_isi, e_meth, e_bm, e_icall, e_ostr, e_att, e_ix, e_sl, e_isiM, e_methk, e_smeth, e_cmeth, e_mkv, e_mkk, kw_nil, e_oeq, e_eatt, e_eisi, t_v, t_isi, t_call, t_meth, t_bop, t_bi, t_att, t_not, t_and, t_or, t_cmp, t_cmp2, trQ_bl, blQ_bl, t_methk, t_smeth, t_oeq, t_eisi, t_ix, t_icall, a_nil', a_cons, s_nil, s_cons, s_set, s_setLc, s_par, s_expr, s_ret, s_retN, s_if, s_never, s_pass, s_brk, s_cont, s_par3, s_raise, g_v', g_tup, g_sub, g_att, gs_nil, gs_cons, gs_tup, i_L, i_T, i_S, i_R1, i_ES, i_E, i_Z, p_nil, p_pair, o_nil, o_k, o_v, o_bop, o_uop, o_bi, o_ix, oQ_int, x_K, x_w, x_fn, x_gv, x_tabs, x_mth, x_prp, x_fld, x_isi, x_kwo, x_xf, x_exm, x_eis, x_lt, x_lfn, x_smt, x_cmt, y_cmt, y_K, y_w, y_fn, y_gv, y_tabs, y_mth, y_prp, y_fld, y_isi, y_kwo, y_xf, y_exm, y_eis, y_smt, isi_int, isi_str, isi_bl, isi_non, ii1, ii2, ii3, ii4, ii5, ii6, ii7, it1, it2, it3, it4, it5, it6, it7, it8, it9, it10, it11, it12, it13, r_add, r_sub, r_mul, r_div, r_mod, r_pow, r_shl, r_shr, r_and, r_or, r_xor, r_neg, r_inv, r_lt, r_le, r_gt, r_ge, r_eqI, r_neI, r_eqS, r_neS, r_inS, r_niS, b_int, b_intB, b_abs, b_lenS, r_addS, r_isN, r_eqB, r_neB, List.getElem?_cons_zero, List.getElem?_cons_succ, List.set_cons_zero, List.set_cons_succ, List.map_cons, List.map_nil, List.length_cons, List.length_nil, Nat.reduceAdd, Nat.reduceSub, List.replicate_succ, List.replicate_zero, List.cons_append, List.nil_append, List.append_nil, Bool.not_true, Bool.not_false, if_true, if_false, ite_true, ite_false, Bool.false_eq_true, Bool.true_eq_false, reduceIte]
        exact rs hbad H2 xq
      | true =>
        have hbad : badC t (c, i) = false := by
          show (match t[i]? with | none => true | some d => !(d == c || d == 45)) = false
          rw [hd]
          show (!(d == c || d == 45)) = false
          rw [hb]; rfl
        simp only [e_k, e_v, e_g, e_bop, e_uop, e_not, e_and, e_or, e_ite, e_cmp, e_cmp2, e_lst, e_tup, e_call, e_mk, e_bi, e_isi, e_meth, e_bm, e_icall, e_ostr, e_att, e_ix, e_sl, e_isiM, e_methk, e_smeth, e_cmeth, e_mkv, e_mkk, kw_nil, e_oeq, e_eatt, e_eisi, t_v, t_isi, t_call, t_meth, t_bop, t_bi, t_att, t_not, t_and, t_or, t_cmp, t_cmp2, trQ_bl, blQ_bl, t_methk, t_smeth, t_oeq, t_eisi, t_ix, t_icall, a_nil', a_cons, s_nil, s_cons, s_set, s_setLc, s_par, s_expr, s_ret, s_retN, s_if, s_never, s_pass, s_brk, s_cont, s_par3, s_raise, g_v', g_tup, g_sub, g_att, gs_nil, gs_cons, gs_tup, i_L, i_T, i_S, i_R1, i_ES, i_E, i_Z, p_nil, p_pair, o_nil, o_k, o_v, o_bop, o_uop, o_bi, o_ix, oQ_int, x_K, x_w, x_fn, x_gv, x_tabs, x_mth, x_prp, x_fld, x_isi, x_kwo, x_xf, x_exm, x_eis, x_lt, x_lfn, x_smt, x_cmt, y_cmt, y_K, y_w, y_fn, y_gv, y_tabs, y_mth, y_prp, y_fld, y_isi, y_kwo, y_xf, y_exm, y_eis, y_smt, isi_int, isi_str, isi_bl, isi_non, ii1, ii2, ii3, ii4, ii5, ii6, ii7, it1, it2, it3, it4, it5, it6, it7, it8, it9, it10, it11, it12, it13, r_add, r_sub, r_mul, r_div, r_mod, r_pow, r_shl, r_shr, r_and, r_or, r_xor, r_neg, r_inv, r_lt, r_le, r_gt, r_ge, r_eqI, r_neI, r_eqS, r_neS, r_inS, r_niS, b_int, b_intB, b_abs, b_lenS, r_addS, r_isN, r_eqB, r_neB, List.getElem?_cons_zero, List.getElem?_cons_succ, List.set_cons_zero, List.set_cons_succ, List.map_cons, List.map_nil, List.length_cons, List.length_nil, Nat.reduceAdd, Nat.reduceSub, List.replicate_succ, List.replicate_zero, List.cons_append, List.nil_append, List.append_nil, Bool.not_true, Bool.not_false, if_true, if_false, ite_true, ite_false, Bool.false_eq_true, Bool.true_eq_false, reduceIte]
        refine read_loop ht l H2 _ _ xq (fun c' k hk => h1 c' k ?_) (fun hk => h2 ?_)
        · rw [List.find?_cons, hbad]
          exact hk
        · rw [List.find?_cons, hbad]
          exact hk
    · have hi' : (t.length : Int) ≤ (i : Nat) := by omega
      simp only [hi', decide_true, e_k, e_v, e_g, e_bop, e_uop, e_not, e_and, e_or, e_ite, e_cmp, e_cmp2, e_lst, e_tup, e_call, e_mk, e_bi, e_isi, e_meth, e_bm, e_icall, e_ostr, e_att, e_ix, e_sl, e_isiM, e_methk, e_smeth, e_cmeth, e_mkv, e_mkk, kw_nil, e_oeq, e_eatt, e_eisi, t_v, t_isi, t_call, t_meth, t_bop, t_bi, t_att, t_not, t_and, t_or, t_cmp, t_cmp2, trQ_bl, blQ_bl, t_methk, t_smeth, t_oeq, t_eisi, t_ix, t_icall, a_nil', a_cons, s_nil, s_cons, s_set, s_setLc, s_par, s_expr, s_ret, s_retN, s_if, s_never, s_pass, s_brk, s_cont, s_par3, s_raise, g_v', g_tup, g_sub, g_att, gs_nil, gs_cons, gs_tup, i_L, i_T, i_S, i_R1, i_ES, i_E, i_Z, p_nil, p_pair, o_nil, o_k, o_v, o_bop, o_uop, o_bi, o_ix, oQ_int, x_K, x_w, x_fn, x_gv, x_tabs, x_mth, x_prp, x_fld, x_isi, x_kwo, x_xf, x_exm, x_eis, x_lt, x_lfn, x_smt, x_cmt, y_cmt, y_K, y_w, y_fn, y_gv, y_tabs, y_mth, y_prp, y_fld, y_isi, y_kwo, y_xf, y_exm, y_eis, y_smt, isi_int, isi_str, isi_bl, isi_non, ii1, ii2, ii3, ii4, ii5, ii6, ii7, it1, it2, it3, it4, it5, it6, it7, it8, it9, it10, it11, it12, it13, r_add, r_sub, r_mul, r_div, r_mod, r_pow, r_shl, r_shr, r_and, r_or, r_xor, r_neg, r_inv, r_lt, r_le, r_gt, r_ge, r_eqI, r_neI, r_eqS, r_neS, r_inS, r_niS, b_int, b_intB, b_abs, b_lenS, r_addS, r_isN, r_eqB, r_neB, List.getElem?_cons_zero, List.getElem?_cons_succ, List.set_cons_zero, List.set_cons_succ, List.map_cons, List.map_nil, List.length_cons, List.length_nil, Nat.reduceAdd, Nat.reduceSub, List.replicate_succ, List.replicate_zero, List.cons_append, List.nil_append, List.append_nil, Bool.not_true, Bool.not_false, if_true, if_false, ite_true, ite_false, Bool.false_eq_true, Bool.true_eq_false, reduceIte]
      refine rs ?_ H1 xT
      show (match t[i]? with | none => true | some d => !(d == c || d == 45)) = true
      rw [List.getElem?_eq_none (by omega)]
end U

namespace U
open PySem PySem.Spec PyProof.Rows L2
variable {K : PySem.W.Frag} {w : World} {n : Nat} {H : Hp} {Q : VK} {E : XK}
/-- the first sign that cannot stand -/
def fbK (t : List Nat) : Option Nat := match sgL.zipIdx.find? (badC t) with
  | some p => some p.2
  | none => if 9 < t.length then some 9 else none
def tOf (bs : List Bool) : List Nat := (sgL.zip bs).map fun p => if p.2 then p.1 else 45
def numR (t : List Nat) : Int := (t.zipIdx.filterMap fun p => if p.1 = 45 then none else some (1 * 2 ^ (8 - (p.2 : Int)).toNat : Int)).sum
def numD (t : List Nat) : Int := t.foldl (fun a c => 2 * a + (if (!(S [c] == S [45])) then 1 else 0)) 0
theorem tOf_all : ∀ b0 b1 b2 b3 b4 b5 b6 b7 b8 : Bool, (0 ≤ numR (tOf [b0, b1, b2, b3, b4, b5, b6, b7, b8]) ∧ numR (tOf [b0, b1, b2, b3, b4, b5, b6, b7, b8]) ≤ 511) ∧ numD (tOf [b0, b1, b2, b3, b4, b5, b6, b7, b8]) = numR (tOf [b0, b1, b2, b3, b4, b5, b6, b7, b8]) ∧
    Txt.join (S []) (strM (numR (tOf [b0, b1, b2, b3, b4, b5, b6, b7, b8]))) = S (tOf [b0, b1, b2, b3, b4, b5, b6, b7, b8]) ∧ ((strM (numR (tOf [b0, b1, b2, b3, b4, b5, b6, b7, b8]))).map (·.length)).sum + 9 * 0 ≤ 16777216 := by decide +kernel
theorem sign_of {t : List Nat} {c i : Nat} (h : badC t (c, i) = false) : ∃ b : Bool, t[i]? = some (if b then c else 45) := by
  unfold badC at h
  cases e : t[i]? with
  | none => rw [e] at h; cases h
  | some d =>
    rw [e] at h
    dsimp only at h
    cases h1 : (d == c) with
    | true => exact ⟨true, by simp at h1; simp [h1]⟩
    | false =>
      cases h2 : (d == 45) with
      | true => exact ⟨false, by simp at h2; simp [h2]⟩
      | false => rw [h1, h2] at h; cases h
theorem tOf_of {t : List Nat} (h : fbK t = none) : ∃ b0 b1 b2 b3 b4 b5 b6 b7 b8 : Bool, t = tOf [b0, b1, b2, b3, b4, b5, b6, b7, b8] := by
  unfold fbK at h
  cases hf : sgL.zipIdx.find? (badC t) with
  | some p => rw [hf] at h; cases h
  | none =>
    rw [hf] at h
    dsimp only at h
    have hl : t.length ≤ 9 := by
      by_cases e : 9 < t.length
      · rw [if_pos e] at h; cases h
      · omega
    have al : ∀ p ∈ sgL.zipIdx, badC t p = false := fun p hp => by simpa using List.find?_eq_none.mp hf p hp
    obtain ⟨b0, e0⟩ := sign_of (al (114, 0) (by decide))
    obtain ⟨b1, e1⟩ := sign_of (al (119, 1) (by decide))
    obtain ⟨b2, e2⟩ := sign_of (al (120, 2) (by decide))
    obtain ⟨b3, e3⟩ := sign_of (al (114, 3) (by decide))
    obtain ⟨b4, e4⟩ := sign_of (al (119, 4) (by decide))
    obtain ⟨b5, e5⟩ := sign_of (al (120, 5) (by decide))
    obtain ⟨b6, e6⟩ := sign_of (al (114, 6) (by decide))
    obtain ⟨b7, e7⟩ := sign_of (al (119, 7) (by decide))
    obtain ⟨b8, e8⟩ := sign_of (al (120, 8) (by decide))
    have hl9 : 8 < t.length := (List.getElem?_eq_some_iff.mp e8).1
    refine ⟨b0, b1, b2, b3, b4, b5, b6, b7, b8, ?_⟩
    match t, hl, hl9, e0, e1, e2, e3, e4, e5, e6, e7, e8 with
    | [c0, c1, c2, c3, c4, c5, c6, c7, c8], _, _, e0, e1, e2, e3, e4, e5, e6, e7, e8 =>
      cases e0; cases e1; cases e2; cases e3; cases e4; cases e5; cases e6; cases e7; cases e8
      rfl
theorem len_tOf {t : List Nat} (h : fbK t = none) : t.length = 9 := by
  obtain ⟨b0, b1, b2, b3, b4, b5, b6, b7, b8, rfl⟩ := tOf_of h
  rfl
/-- the sum of the bits of nine signs -/
theorem sum_ok {t : List Nat} {fn : Str → Sp} {W : WX} {v0 v2 v3 : Option V} (hl : t.length = 9) (h : ∀ p H', Ext H H' → H' p = some (.lst ((t.zipIdx.filterMap fun p => if p.1 = 45 then none else some (1 * 2 ^ (8 - (p.2 : Int)).toNat : Int)).map V.int)) → Q (.ref p) H') :
    (rd (hd.pg.ctx K w fn) (.lc [(s_at, 2), (s_sign, 3)] (.bop .LShift (.k (V.int 1)) (.bop .Sub (.k (V.int 8)) (.v 2))) (.tupG (.cons (.v 2) (.cons (.v 3) .nil))) (.itES (.v 1)) true (.cmp .NotEq (.v 3) (.k (V.str (S [45]))))) W).e [v0, some (.str (S t)), v2, v3] H Q := by
  rw [e_lc, i_ES, e_v]
  simp only [List.getElem?_cons_zero, List.getElem?_cons_succ, List.set_cons_zero, List.set_cons_succ, List.map_cons, List.map_nil, List.length_cons, List.length_nil, Nat.reduceAdd, Nat.reduceSub, List.replicate_succ, List.replicate_zero, List.cons_append, List.nil_append, List.append_nil, Bool.not_true, Bool.not_false, if_true, if_false, ite_true, ite_false, Bool.false_eq_true, Bool.true_eq_false, reduceIte]
  intro D hD
  have hs : (9 : Nat) ≤ sizeLine := by decide
  refine lcs_inv (H := H) (f := fun | .t [.int i, .str ⟨⟨[c]⟩⟩] => if c = 45 then none else some (.int (1 * 2 ^ (8 - i).toNat)) | _ => none) (fun _ _ => trivial) _ [] _ (Ext.new hD) upd_same ?_ (by simp [hl]; omega) ?_
  · intro x hx H' acc nx x1 e1 hl' hq
    obtain ⟨⟨c, i⟩, hc, rfl⟩ := List.mem_map.mp hx
    intro T hT
    have hne : D ≠ T := ne_of_none e1 hT
    have hi : i < 9 := by
      have := List.mem_zipIdx hc
      simp at this
      omega
    have x2 : Ext H (upd H' T (.tup [.int (i : Nat), .str (S [c])])) := x1.upd_of hT
    have e2 : upd H' T (.tup [.int (i : Nat), .str (S [c])]) D = some (.lst acc) := by rw [upd_ne hne]; exact e1
    generalize upd H' T (.tup [.int (i : Nat), .str (S [c])]) = H2 at x2 e2 ⊢
    simp only [I.len, for_nil, for_v, for_t, lc_nil, lc_v, lc_t, lc_turn0, lc_turn1, wipe_nil, wipe_cons, true_and, and_true, upd_same, upd_upd, Option.some.injEq, HO.lst.injEq, HO.tup.injEq, HO.dK.injEq, exists_eq_left', List.singleton_append, Int.cast_ofNat_Int, e_k, e_v, e_g, e_bop, e_uop, e_not, e_and, e_or, e_ite, e_cmp, e_cmp2, e_lst, e_tup, e_dic, e_call, e_mk, e_bi, e_isi, e_meth, e_bm, e_icall, e_ostr, e_att, e_ix, e_sl, e_lc, e_isiM, e_methk, e_smeth, e_cmeth, e_mkv, e_mkk, kw_nil, e_oeq, e_eatt, e_eisi, t_v, t_isi, t_call, t_meth, t_bop, t_bi, t_att, t_not, t_and, t_or, t_cmp, t_cmp2, trQ_bl, blQ_bl, t_methk, t_smeth, t_oeq, t_eisi, t_ix, t_icall, a_nil', a_cons, s_nil, s_cons, s_set, s_setLc, s_par, s_expr, s_ret, s_retN, s_if, s_for, s_never, s_pass, s_brk, s_cont, s_par3, s_raise, g_v', g_tup, g_sub, g_att, gs_nil, gs_cons, gs_tup, i_L, i_T, i_S, i_R1, i_ES, i_E, i_Z, p_nil, p_pair, o_nil, o_k, o_v, o_bop, o_uop, o_bi, o_ix, oQ_int, x_K, x_w, x_fn, x_gv, x_tabs, x_mth, x_prp, x_fld, x_isi, x_kwo, x_xf, x_exm, x_eis, x_lt, x_lfn, x_smt, x_cmt, y_cmt, y_K, y_w, y_fn, y_gv, y_tabs, y_mth, y_prp, y_fld, y_isi, y_kwo, y_xf, y_exm, y_eis, y_smt, isi_int, isi_str, isi_bl, isi_non, ii1, ii2, ii3, ii4, ii5, ii6, ii7, it1, it2, it3, it4, it5, it6, it7, it8, it9, it10, it11, it12, it13, r_add, r_sub, r_mul, r_div, r_mod, r_pow, r_shl, r_shr, r_and, r_or, r_xor, r_neg, r_inv, r_lt, r_le, r_gt, r_ge, r_eqI, r_neI, r_eqS, r_neS, r_inS, r_niS, b_int, b_intB, b_abs, b_lenS, r_addS, r_isN, r_eqB, r_neB, List.getElem?_cons_zero, List.getElem?_cons_succ, List.set_cons_zero, List.set_cons_succ, List.map_cons, List.map_nil, List.length_cons, List.length_nil, Nat.reduceAdd, Nat.reduceSub, List.replicate_succ, List.replicate_zero, List.cons_append, List.nil_append, List.append_nil, Bool.not_true, Bool.not_false, if_true, if_false, ite_true, ite_false, Bool.false_eq_true, Bool.true_eq_false, reduceIte]
    by_cases h45 : c = 45
    · subst h45
      simp only [beq_self_eq_true, e_k, e_v, e_g, e_bop, e_uop, e_not, e_and, e_or, e_ite, e_cmp, e_cmp2, e_lst, e_tup, e_dic, e_call, e_mk, e_bi, e_isi, e_meth, e_bm, e_icall, e_ostr, e_att, e_ix, e_sl, e_lc, e_isiM, e_methk, e_smeth, e_cmeth, e_mkv, e_mkk, kw_nil, e_oeq, e_eatt, e_eisi, t_v, t_isi, t_call, t_meth, t_bop, t_bi, t_att, t_not, t_and, t_or, t_cmp, t_cmp2, trQ_bl, blQ_bl, t_methk, t_smeth, t_oeq, t_eisi, t_ix, t_icall, a_nil', a_cons, s_nil, s_cons, s_set, s_setLc, s_par, s_expr, s_ret, s_retN, s_if, s_for, s_never, s_pass, s_brk, s_cont, s_par3, s_raise, g_v', g_tup, g_sub, g_att, gs_nil, gs_cons, gs_tup, i_L, i_T, i_S, i_R1, i_ES, i_E, i_Z, p_nil, p_pair, o_nil, o_k, o_v, o_bop, o_uop, o_bi, o_ix, oQ_int, x_K, x_w, x_fn, x_gv, x_tabs, x_mth, x_prp, x_fld, x_isi, x_kwo, x_xf, x_exm, x_eis, x_lt, x_lfn, x_smt, x_cmt, y_cmt, y_K, y_w, y_fn, y_gv, y_tabs, y_mth, y_prp, y_fld, y_isi, y_kwo, y_xf, y_exm, y_eis, y_smt, isi_int, isi_str, isi_bl, isi_non, ii1, ii2, ii3, ii4, ii5, ii6, ii7, it1, it2, it3, it4, it5, it6, it7, it8, it9, it10, it11, it12, it13, r_add, r_sub, r_mul, r_div, r_mod, r_pow, r_shl, r_shr, r_and, r_or, r_xor, r_neg, r_inv, r_lt, r_le, r_gt, r_ge, r_eqI, r_neI, r_eqS, r_neS, r_inS, r_niS, b_int, b_intB, b_abs, b_lenS, r_addS, r_isN, r_eqB, r_neB, List.getElem?_cons_zero, List.getElem?_cons_succ, List.set_cons_zero, List.set_cons_succ, List.map_cons, List.map_nil, List.length_cons, List.length_nil, Nat.reduceAdd, Nat.reduceSub, List.replicate_succ, List.replicate_zero, List.cons_append, List.nil_append, List.append_nil, Bool.not_true, Bool.not_false, if_true, if_false, ite_true, ite_false, Bool.false_eq_true, Bool.true_eq_false, reduceIte]
      refine hq _ x2 ?_
      rw [e2]
      simp
    · have : (S [c] == S [45]) = false := beq_eq_false_iff_ne.mpr fun e => h45 (by injection e with e; injection e with e; injection e)
      simp only [this, e_k, e_v, e_g, e_bop, e_uop, e_not, e_and, e_or, e_ite, e_cmp, e_cmp2, e_lst, e_tup, e_dic, e_call, e_mk, e_bi, e_isi, e_meth, e_bm, e_icall, e_ostr, e_att, e_ix, e_sl, e_lc, e_isiM, e_methk, e_smeth, e_cmeth, e_mkv, e_mkk, kw_nil, e_oeq, e_eatt, e_eisi, t_v, t_isi, t_call, t_meth, t_bop, t_bi, t_att, t_not, t_and, t_or, t_cmp, t_cmp2, trQ_bl, blQ_bl, t_methk, t_smeth, t_oeq, t_eisi, t_ix, t_icall, a_nil', a_cons, s_nil, s_cons, s_set, s_setLc, s_par, s_expr, s_ret, s_retN, s_if, s_for, s_never, s_pass, s_brk, s_cont, s_par3, s_raise, g_v', g_tup, g_sub, g_att, gs_nil, gs_cons, gs_tup, i_L, i_T, i_S, i_R1, i_ES, i_E, i_Z, p_nil, p_pair, o_nil, o_k, o_v, o_bop, o_uop, o_bi, o_ix, oQ_int, x_K, x_w, x_fn, x_gv, x_tabs, x_mth, x_prp, x_fld, x_isi, x_kwo, x_xf, x_exm, x_eis, x_lt, x_lfn, x_smt, x_cmt, y_cmt, y_K, y_w, y_fn, y_gv, y_tabs, y_mth, y_prp, y_fld, y_isi, y_kwo, y_xf, y_exm, y_eis, y_smt, isi_int, isi_str, isi_bl, isi_non, ii1, ii2, ii3, ii4, ii5, ii6, ii7, it1, it2, it3, it4, it5, it6, it7, it8, it9, it10, it11, it12, it13, r_add, r_sub, r_mul, r_div, r_mod, r_pow, r_shl, r_shr, r_and, r_or, r_xor, r_neg, r_inv, r_lt, r_le, r_gt, r_ge, r_eqI, r_neI, r_eqS, r_neS, r_inS, r_niS, b_int, b_intB, b_abs, b_lenS, r_addS, r_isN, r_eqB, r_neB, List.getElem?_cons_zero, List.getElem?_cons_succ, List.set_cons_zero, List.set_cons_succ, List.map_cons, List.map_nil, List.length_cons, List.length_nil, Nat.reduceAdd, Nat.reduceSub, List.replicate_succ, List.replicate_zero, List.cons_append, List.nil_append, List.append_nil, Bool.not_true, Bool.not_false, if_true, if_false, ite_true, ite_false, Bool.false_eq_true, Bool.true_eq_false, reduceIte]
      refine ⟨⟨by omega, by omega, by decide⟩, acc, e2, hl', hq _ (x2.put hD) ?_⟩
      rw [upd_same]
      simp [h45]
  · intro H1 x1 e1
    refine h D H1 x1 ?_
    rw [e1, List.nil_append, List.filterMap_map, List.map_filterMap]
    congr 2
    refine congrArg (fun f => List.filterMap f t.zipIdx) (funext fun p => ?_)
    obtain ⟨c, i⟩ := p
    by_cases h45 : c = 45
    · subst h45; rfl
    · show (if c = 45 then none else _) = _
      simp [h45]
theorem c_read {t : List Nat} (hl : t.length ≤ 1000) (hn : 3 ≤ n) (hb : ∀ k, fbK t = some k → ∀ d H', Ext H H' → H' d = some (.xd [(s_word, .int k), (s_line, .int 0)]) → E (.ref (He.ga K s_BadText)) (some d) H')
    (ho : fbK t = none → ∀ m H', Ext H H' → IsM K H' m (numR t) → Q (.ref m) H') : run hd.pg K w n s_Mode_read [.ref (He.ga K s_Mode), .str (S t)] H Q E := by
  refine run_at f_Mode_read (by omega) rfl ?_
  have hs : (1000 : Nat) ≤ sizeLine := by decide
  have hlen : (S t).length = t.length := rfl
  simp only [d_Mode_read, b_Mode_read, L2.start]
  rw [s_cons, s_if]
  simp only [e_k, e_v, e_g, e_bop, e_uop, e_not, e_and, e_or, e_ite, e_cmp, e_cmp2, e_lst, e_tup, e_call, e_mk, e_bi, e_isi, e_meth, e_bm, e_icall, e_ostr, e_att, e_ix, e_sl, e_isiM, e_methk, e_smeth, e_cmeth, e_mkv, e_mkk, kw_nil, e_oeq, e_eatt, e_eisi, t_v, t_isi, t_call, t_meth, t_bop, t_bi, t_att, t_not, t_and, t_or, t_cmp, t_cmp2, trQ_bl, blQ_bl, t_methk, t_smeth, t_oeq, t_eisi, t_ix, t_icall, a_nil', a_cons, s_nil, s_cons, s_set, s_setLc, s_par, s_expr, s_ret, s_retN, s_if, s_never, s_pass, s_brk, s_cont, s_par3, s_raise, g_v', g_tup, g_sub, g_att, gs_nil, gs_cons, gs_tup, i_L, i_T, i_S, i_R1, i_ES, i_E, i_Z, p_nil, p_pair, o_nil, o_k, o_v, o_bop, o_uop, o_bi, o_ix, oQ_int, x_K, x_w, x_fn, x_gv, x_tabs, x_mth, x_prp, x_fld, x_isi, x_kwo, x_xf, x_exm, x_eis, x_lt, x_lfn, x_smt, x_cmt, y_cmt, y_K, y_w, y_fn, y_gv, y_tabs, y_mth, y_prp, y_fld, y_isi, y_kwo, y_xf, y_exm, y_eis, y_smt, isi_int, isi_str, isi_bl, isi_non, ii1, ii2, ii3, ii4, ii5, ii6, ii7, it1, it2, it3, it4, it5, it6, it7, it8, it9, it10, it11, it12, it13, r_add, r_sub, r_mul, r_div, r_mod, r_pow, r_shl, r_shr, r_and, r_or, r_xor, r_neg, r_inv, r_lt, r_le, r_gt, r_ge, r_eqI, r_neI, r_eqS, r_neS, r_inS, r_niS, b_int, b_intB, b_abs, b_lenS, r_addS, r_isN, r_eqB, r_neB, List.getElem?_cons_zero, List.getElem?_cons_succ, List.set_cons_zero, List.set_cons_succ, List.map_cons, List.map_nil, List.length_cons, List.length_nil, Nat.reduceAdd, Nat.reduceSub, List.replicate_succ, List.replicate_zero, List.cons_append, List.nil_append, List.append_nil, Bool.not_true, Bool.not_false, if_true, if_false, ite_true, ite_false, Bool.false_eq_true, Bool.true_eq_false, reduceIte]
  rw [s_for, i_ES, e_g, x_gv, gvS]
  dsimp only
  refine read_loop (H := H) hl _ _ _ _ Ext.refl (fun c k hk d H' σ x hd => hb k ?_ d H' x hd) fun hk H1 v2 v3 x1 => ?_
  · unfold fbK
    rw [hk]
  simp only [gvS, e_k, e_v, e_g, e_bop, e_uop, e_not, e_and, e_or, e_ite, e_cmp, e_cmp2, e_lst, e_tup, e_call, e_mk, e_bi, e_isi, e_meth, e_bm, e_icall, e_ostr, e_att, e_ix, e_sl, e_isiM, e_methk, e_smeth, e_cmeth, e_mkv, e_mkk, kw_nil, e_oeq, e_eatt, e_eisi, t_v, t_isi, t_call, t_meth, t_bop, t_bi, t_att, t_not, t_and, t_or, t_cmp, t_cmp2, trQ_bl, blQ_bl, t_methk, t_smeth, t_oeq, t_eisi, t_ix, t_icall, a_nil', a_cons, s_nil, s_cons, s_set, s_setLc, s_par, s_expr, s_ret, s_retN, s_if, s_never, s_pass, s_brk, s_cont, s_par3, s_raise, g_v', g_tup, g_sub, g_att, gs_nil, gs_cons, gs_tup, i_L, i_T, i_S, i_R1, i_ES, i_E, i_Z, p_nil, p_pair, o_nil, o_k, o_v, o_bop, o_uop, o_bi, o_ix, oQ_int, x_K, x_w, x_fn, x_gv, x_tabs, x_mth, x_prp, x_fld, x_isi, x_kwo, x_xf, x_exm, x_eis, x_lt, x_lfn, x_smt, x_cmt, y_cmt, y_K, y_w, y_fn, y_gv, y_tabs, y_mth, y_prp, y_fld, y_isi, y_kwo, y_xf, y_exm, y_eis, y_smt, isi_int, isi_str, isi_bl, isi_non, ii1, ii2, ii3, ii4, ii5, ii6, ii7, it1, it2, it3, it4, it5, it6, it7, it8, it9, it10, it11, it12, it13, r_add, r_sub, r_mul, r_div, r_mod, r_pow, r_shl, r_shr, r_and, r_or, r_xor, r_neg, r_inv, r_lt, r_le, r_gt, r_ge, r_eqI, r_neI, r_eqS, r_neS, r_inS, r_niS, b_int, b_intB, b_abs, b_lenS, r_addS, r_isN, r_eqB, r_neB, List.getElem?_cons_zero, List.getElem?_cons_succ, List.set_cons_zero, List.set_cons_succ, List.map_cons, List.map_nil, List.length_cons, List.length_nil, Nat.reduceAdd, Nat.reduceSub, List.replicate_succ, List.replicate_zero, List.cons_append, List.nil_append, List.append_nil, Bool.not_true, Bool.not_false, if_true, if_false, ite_true, ite_false, Bool.false_eq_true, Bool.true_eq_false, reduceIte]
  rw [hlen, show (S sgL).length = 9 from rfl]
  refine ⟨by omega, by decide, ?_⟩
  by_cases h9 : 9 < t.length
  · have h9' : ((9 : Nat) : Int) < t.length := by omega
    simp only [h9', decide_true, e_k, e_v, e_g, e_bop, e_uop, e_not, e_and, e_or, e_ite, e_cmp, e_cmp2, e_lst, e_tup, e_call, e_mk, e_bi, e_isi, e_meth, e_bm, e_icall, e_ostr, e_att, e_ix, e_sl, e_isiM, e_methk, e_smeth, e_cmeth, e_mkv, e_mkk, kw_nil, e_oeq, e_eatt, e_eisi, t_v, t_isi, t_call, t_meth, t_bop, t_bi, t_att, t_not, t_and, t_or, t_cmp, t_cmp2, trQ_bl, blQ_bl, t_methk, t_smeth, t_oeq, t_eisi, t_ix, t_icall, a_nil', a_cons, s_nil, s_cons, s_set, s_setLc, s_par, s_expr, s_ret, s_retN, s_if, s_never, s_pass, s_brk, s_cont, s_par3, s_raise, g_v', g_tup, g_sub, g_att, gs_nil, gs_cons, gs_tup, i_L, i_T, i_S, i_R1, i_ES, i_E, i_Z, p_nil, p_pair, o_nil, o_k, o_v, o_bop, o_uop, o_bi, o_ix, oQ_int, x_K, x_w, x_fn, x_gv, x_tabs, x_mth, x_prp, x_fld, x_isi, x_kwo, x_xf, x_exm, x_eis, x_lt, x_lfn, x_smt, x_cmt, y_cmt, y_K, y_w, y_fn, y_gv, y_tabs, y_mth, y_prp, y_fld, y_isi, y_kwo, y_xf, y_exm, y_eis, y_smt, isi_int, isi_str, isi_bl, isi_non, ii1, ii2, ii3, ii4, ii5, ii6, ii7, it1, it2, it3, it4, it5, it6, it7, it8, it9, it10, it11, it12, it13, r_add, r_sub, r_mul, r_div, r_mod, r_pow, r_shl, r_shr, r_and, r_or, r_xor, r_neg, r_inv, r_lt, r_le, r_gt, r_ge, r_eqI, r_neI, r_eqS, r_neS, r_inS, r_niS, b_int, b_intB, b_abs, b_lenS, r_addS, r_isN, r_eqB, r_neB, List.getElem?_cons_zero, List.getElem?_cons_succ, List.set_cons_zero, List.set_cons_succ, List.map_cons, List.map_nil, List.length_cons, List.length_nil, Nat.reduceAdd, Nat.reduceSub, List.replicate_succ, List.replicate_zero, List.cons_append, List.nil_append, List.append_nil, Bool.not_true, Bool.not_false, if_true, if_false, ite_true, ite_false, Bool.false_eq_true, Bool.true_eq_false, reduceIte]
    refine ⟨by decide, _, xfT, rfl, fun d hd => hb 9 ?_ d _ (x1.upd_of hd) upd_same⟩
    unfold fbK
    rw [hk]
    simp [h9]
  · have h9' : ¬ ((9 : Nat) : Int) < t.length := by omega
    simp only [h9', decide_false, e_k, e_v, e_g, e_bop, e_uop, e_not, e_and, e_or, e_ite, e_cmp, e_cmp2, e_lst, e_tup, e_call, e_mk, e_bi, e_isi, e_meth, e_bm, e_icall, e_ostr, e_att, e_ix, e_sl, e_isiM, e_methk, e_smeth, e_cmeth, e_mkv, e_mkk, kw_nil, e_oeq, e_eatt, e_eisi, t_v, t_isi, t_call, t_meth, t_bop, t_bi, t_att, t_not, t_and, t_or, t_cmp, t_cmp2, trQ_bl, blQ_bl, t_methk, t_smeth, t_oeq, t_eisi, t_ix, t_icall, a_nil', a_cons, s_nil, s_cons, s_set, s_setLc, s_par, s_expr, s_ret, s_retN, s_if, s_never, s_pass, s_brk, s_cont, s_par3, s_raise, g_v', g_tup, g_sub, g_att, gs_nil, gs_cons, gs_tup, i_L, i_T, i_S, i_R1, i_ES, i_E, i_Z, p_nil, p_pair, o_nil, o_k, o_v, o_bop, o_uop, o_bi, o_ix, oQ_int, x_K, x_w, x_fn, x_gv, x_tabs, x_mth, x_prp, x_fld, x_isi, x_kwo, x_xf, x_exm, x_eis, x_lt, x_lfn, x_smt, x_cmt, y_cmt, y_K, y_w, y_fn, y_gv, y_tabs, y_mth, y_prp, y_fld, y_isi, y_kwo, y_xf, y_exm, y_eis, y_smt, isi_int, isi_str, isi_bl, isi_non, ii1, ii2, ii3, ii4, ii5, ii6, ii7, it1, it2, it3, it4, it5, it6, it7, it8, it9, it10, it11, it12, it13, r_add, r_sub, r_mul, r_div, r_mod, r_pow, r_shl, r_shr, r_and, r_or, r_xor, r_neg, r_inv, r_lt, r_le, r_gt, r_ge, r_eqI, r_neI, r_eqS, r_neS, r_inS, r_niS, b_int, b_intB, b_abs, b_lenS, r_addS, r_isN, r_eqB, r_neB, List.getElem?_cons_zero, List.getElem?_cons_succ, List.set_cons_zero, List.set_cons_succ, List.map_cons, List.map_nil, List.length_cons, List.length_nil, Nat.reduceAdd, Nat.reduceSub, List.replicate_succ, List.replicate_zero, List.cons_append, List.nil_append, List.append_nil, Bool.not_true, Bool.not_false, if_true, if_false, ite_true, ite_false, Bool.false_eq_true, Bool.true_eq_false, reduceIte]
    have hf : fbK t = none := by
      unfold fbK
      rw [hk]
      simp [h9]
    refine ⟨s_Mode, List.Mem.head _, rfl, ?_⟩
    refine sum_ok (len_tOf hf) fun p H2 x2 h2 => ?_
    refine b_sum (.inl (.inl h2)) ?_
    obtain ⟨b0, b1, b2, b3, b4, b5, b6, b7, b8, rfl⟩ := tOf_of hf
    obtain ⟨g1, _⟩ := tOf_all b0 b1 b2 b3 b4 b5 b6 b7 b8
    exact mk_Mode (by omega) g1 fun x H3 x3 h3 => ho hf x H3 (x1.trans (x2.trans x3)) h3
end U

namespace U
open PySem PySem.Spec PyProof.Rows L2
variable {K : PySem.W.Frag} {w : World} {n : Nat} {H : Hp} {Q : VK} {E : XK}
def sgA (i : Nat) : Nat := [114, 119, 120].getD (i % 3) 0
theorem sg_at : ∀ i : Nat, i < 9 → atI [V.str (S [114]), V.str (S [119]), V.str (S [120])] ((i : Int) - (i : Int) / 3 * 3) = some (.str (S [sgA i])) := by
  intro i hi
  have : i = 0 ∨ i = 1 ∨ i = 2 ∨ i = 3 ∨ i = 4 ∨ i = 5 ∨ i = 6 ∨ i = 7 ∨ i = 8 := by omega
  rcases this with rfl | rfl | rfl | rfl | rfl | rfl | rfl | rfl | rfl <;> rfl
theorem sg_all : sgL.zipIdx = (List.range 9).map fun i => (sgA i, i) := by decide +kernel
theorem due_loop {t : List Nat} {fn : Str → Sp} {W : WX} {D : Ends} {v2 v3 : Option V} (ht : t.length ≤ 1000) : ∀ (l : List Nat) (H' : Hp) (v1 : Option V), (∀ i ∈ l, i < 9) → Ext H H' →
    (∀ c k, (l.map fun i => (sgA i, i)).find? (badC t) = some (c, k) → ∀ p H'', Ext H H'' → H'' p = some (.tup [.str (S [116, 101, 120, 116]), .int 0, .int (k : Nat)]) → D.rt (.ref p) H'') →
    ((l.map fun i => (sgA i, i)).find? (badC t) = none → ∀ H'' v1, Ext H H'' → D.nx [some (.str (S t)), v1, v2, v3] H'') →
    forGo (fun _ => True) (rd (hd.pg.ctx K w fn) (.v 1) W).g (rd (hd.pg.ctx K w fn) (.v 1) W).gs (rd (hd.pg.ctx K w fn) (.cons (.if_ (.or (.cmp .GtE (.v 1) (.bi .len (.cons (.v 0) .nil))) (.cmp .NotIn (.ix (.v 0) (.v 1)) (.lst (.cons (.ix (.lst (.cons (.k (V.str (S [114]))) (.cons (.k (V.str (S [119]))) (.cons (.k (V.str (S [120]))) .nil)))) (.bop .Sub (.v 1) (.bop .Mult (.bop .FloorDiv (.v 1) (.k (V.int 3))) (.k (V.int 3))))) (.cons (.k (V.str (S [45]))) .nil))))) (.cons (.ret (.tup (.cons (.k (V.str (S [116, 101, 120, 116]))) (.cons (.k (V.int 0)) (.cons (.v 1) .nil))))) .nil) .nil) .nil) W).s D
      (l.map fun i => .v (.int (i : Nat))) [some (.str (S t)), v1, v2, v3] H'
  | [], H', v1, _, x, _, h2 => ⟨trivial, h2 rfl H' v1 x⟩
  | i :: l, H', v1, hl, x, h1, h2 => by
    have hs : (1000 : Nat) ≤ sizeLine := by decide
    have hlen : (S t).length = t.length := rfl
    have hi9 := hl i (List.mem_cons_self ..)
    rw [List.map_cons, for_v]
    refine ⟨trivial, ?_⟩
    simp only [e_k, e_v, e_g, e_bop, e_uop, e_not, e_and, e_or, e_ite, e_cmp, e_cmp2, e_lst, e_tup, e_call, e_mk, e_bi, e_isi, e_meth, e_bm, e_icall, e_ostr, e_att, e_ix, e_sl, e_isiM, e_methk, e_smeth, e_cmeth, e_mkv, e_mkk, kw_nil, e_oeq, e_eatt, e_eisi, t_v, t_isi, t_call, t_meth, t_bop, t_bi, t_att, t_not, t_and, t_or, t_cmp, t_cmp2, trQ_bl, blQ_bl, t_methk, t_smeth, t_oeq, t_eisi, t_ix, t_icall, a_nil', a_cons, s_nil, s_cons, s_set, s_setLc, s_par, s_expr, s_ret, s_retN, s_if, s_never, s_pass, s_brk, s_cont, s_par3, s_raise, g_v', g_tup, g_sub, g_att, gs_nil, gs_cons, gs_tup, i_L, i_T, i_S, i_R1, i_ES, i_E, i_Z, p_nil, p_pair, o_nil, o_k, o_v, o_bop, o_uop, o_bi, o_ix, oQ_int, x_K, x_w, x_fn, x_gv, x_tabs, x_mth, x_prp, x_fld, x_isi, x_kwo, x_xf, x_exm, x_eis, x_lt, x_lfn, x_smt, x_cmt, y_cmt, y_K, y_w, y_fn, y_gv, y_tabs, y_mth, y_prp, y_fld, y_isi, y_kwo, y_xf, y_exm, y_eis, y_smt, isi_int, isi_str, isi_bl, isi_non, ii1, ii2, ii3, ii4, ii5, ii6, ii7, it1, it2, it3, it4, it5, it6, it7, it8, it9, it10, it11, it12, it13, r_add, r_sub, r_mul, r_div, r_mod, r_pow, r_shl, r_shr, r_and, r_or, r_xor, r_neg, r_inv, r_lt, r_le, r_gt, r_ge, r_eqI, r_neI, r_eqS, r_neS, r_inS, r_niS, b_int, b_intB, b_abs, b_lenS, r_addS, r_isN, r_eqB, r_neB, List.getElem?_cons_zero, List.getElem?_cons_succ, List.set_cons_zero, List.set_cons_succ, List.map_cons, List.map_nil, List.length_cons, List.length_nil, Nat.reduceAdd, Nat.reduceSub, List.replicate_succ, List.replicate_zero, List.cons_append, List.nil_append, List.append_nil, Bool.not_true, Bool.not_false, if_true, if_false, ite_true, ite_false, Bool.false_eq_true, Bool.true_eq_false, reduceIte]
    rw [hlen]
    refine ⟨by omega, ?_⟩
    have rs : badC t (sgA i, i) = true → ∀ H2, Ext H H2 → 3 ≤ sizeLine ∧ ∀ p, H2 p = none → D.rt (.ref p) (upd H2 p (.tup [.str (S [116, 101, 120, 116]), .int 0, .int (i : Nat)])) := fun hb H2 x2 =>
      ⟨by decide, fun p hp => h1 (sgA i) i (by rw [List.map_cons, List.find?_cons, hb]) p _ (x2.upd_of hp) upd_same⟩
    by_cases hi : i < t.length
    · have hi' : ¬ ((t.length : Int) ≤ (i : Nat)) := by omega
      simp only [hi', decide_false, e_k, e_v, e_g, e_bop, e_uop, e_not, e_and, e_or, e_ite, e_cmp, e_cmp2, e_lst, e_tup, e_call, e_mk, e_bi, e_isi, e_meth, e_bm, e_icall, e_ostr, e_att, e_ix, e_sl, e_isiM, e_methk, e_smeth, e_cmeth, e_mkv, e_mkk, kw_nil, e_oeq, e_eatt, e_eisi, t_v, t_isi, t_call, t_meth, t_bop, t_bi, t_att, t_not, t_and, t_or, t_cmp, t_cmp2, trQ_bl, blQ_bl, t_methk, t_smeth, t_oeq, t_eisi, t_ix, t_icall, a_nil', a_cons, s_nil, s_cons, s_set, s_setLc, s_par, s_expr, s_ret, s_retN, s_if, s_never, s_pass, s_brk, s_cont, s_par3, s_raise, g_v', g_tup, g_sub, g_att, gs_nil, gs_cons, gs_tup, i_L, i_T, i_S, i_R1, i_ES, i_E, i_Z, p_nil, p_pair, o_nil, o_k, o_v, o_bop, o_uop, o_bi, o_ix, oQ_int, x_K, x_w, x_fn, x_gv, x_tabs, x_mth, x_prp, x_fld, x_isi, x_kwo, x_xf, x_exm, x_eis, x_lt, x_lfn, x_smt, x_cmt, y_cmt, y_K, y_w, y_fn, y_gv, y_tabs, y_mth, y_prp, y_fld, y_isi, y_kwo, y_xf, y_exm, y_eis, y_smt, isi_int, isi_str, isi_bl, isi_non, ii1, ii2, ii3, ii4, ii5, ii6, ii7, it1, it2, it3, it4, it5, it6, it7, it8, it9, it10, it11, it12, it13, r_add, r_sub, r_mul, r_div, r_mod, r_pow, r_shl, r_shr, r_and, r_or, r_xor, r_neg, r_inv, r_lt, r_le, r_gt, r_ge, r_eqI, r_neI, r_eqS, r_neS, r_inS, r_niS, b_int, b_intB, b_abs, b_lenS, r_addS, r_isN, r_eqB, r_neB, List.getElem?_cons_zero, List.getElem?_cons_succ, List.set_cons_zero, List.set_cons_succ, List.map_cons, List.map_nil, List.length_cons, List.length_nil, Nat.reduceAdd, Nat.reduceSub, List.replicate_succ, List.replicate_zero, List.cons_append, List.nil_append, List.append_nil, Bool.not_true, Bool.not_false, if_true, if_false, ite_true, ite_false, Bool.false_eq_true, Bool.true_eq_false, reduceIte]
      obtain ⟨d, hd⟩ : ∃ d, t[i]? = some d := ⟨_, List.getElem?_eq_getElem hi⟩
      refine ⟨by omega, d, atI_nat hd, by decide, fun q hq => ?_⟩
      have xq := x.upd_of (o := .lst [.str (S [114]), .str (S [119]), .str (S [120])]) hq
      have hq2 : upd H' q (.lst [.str (S [114]), .str (S [119]), .str (S [120])]) q = some (.lst [.str (S [114]), .str (S [119]), .str (S [120])]) := upd_same
      generalize upd H' q (.lst [.str (S [114]), .str (S [119]), .str (S [120])]) = H1 at xq hq2 ⊢
      refine ⟨.inl ⟨by decide, by decide⟩, .inl (.inl ⟨by omega, by omega⟩), ?_⟩
      refine x_ixL (.inl (.inl hq2)) (sg_at i hi9) ?_
      refine ⟨by decide, fun q3 hq3 => ?_⟩
      refine r_niL (.inl (.inl (.inl upd_same))) rfl rfl ?_
      rw [inV2]
      have xr := xq.upd_of (o := .lst [.str (S [sgA i]), .str (S [45])]) hq3
      generalize upd H1 q3 (.lst [.str (S [sgA i]), .str (S [45])]) = H2 at xr ⊢
      cases hb : (d == sgA i || d == 45) with
      | false =>
        have hbad : badC t (sgA i, i) = true := by
          show (match t[i]? with | none => true | some d => !(d == sgA i || d == 45)) = true
          rw [hd]
          show (!(d == sgA i || d == 45)) = true
          rw [hb]; rfl
        simp only [e_k, e_v, e_g, e_bop, e_uop, e_not, e_and, e_or, e_ite, e_cmp, e_cmp2, e_lst, e_tup, e_call, e_mk, e_bi, e_isi, e_meth, e_bm, e_icall, e_ostr, e_att, e_ix, e_sl, e_isiM, e_methk, e_smeth, e_cmeth, e_mkv, e_mkk, kw_nil, e_oeq, e_eatt, e_eisi, t_v, t_isi, t_call, t_meth, t_bop, t_bi, t_att, t_not, t_and, t_or, t_cmp, t_cmp2, trQ_bl, blQ_bl, t_methk, t_smeth, t_oeq, t_eisi, t_ix, t_icall, a_nil', a_cons, s_nil, s_cons, s_set, s_setLc, s_par, s_expr, s_ret, s_retN, s_if, s_never, s_pass, s_brk, s_cont, s_par3, s_raise, g_v', g_tup, g_sub, g_att, gs_nil, gs_cons, gs_tup, i_L, i_T, i_S, i_R1, i_ES, i_E, i_Z, p_nil, p_pair, o_nil, o_k, o_v, o_bop, o_uop, o_bi, o_ix, oQ_int, x_K, x_w, x_fn, x_gv, x_tabs, x_mth, x_prp, x_fld, x_isi, x_kwo, x_xf, x_exm, x_eis, x_lt, x_lfn, x_smt, x_cmt, y_cmt, y_K, y_w, y_fn, y_gv, y_tabs, y_mth, y_prp, y_fld, y_isi, y_kwo, y_xf, y_exm, y_eis, y_smt, isi_int, isi_str, isi_bl, isi_non, ii1, ii2, ii3, ii4, ii5, ii6, ii7, it1, it2, it3, it4, it5, it6, it7, it8, it9, it10, it11, it12, it13, r_add, r_sub, r_mul, r_div, r_mod, r_pow, r_shl, r_shr, r_and, r_or, r_xor, r_neg, r_inv, r_lt, r_le, r_gt, r_ge, r_eqI, r_neI, r_eqS, r_neS, r_inS, r_niS, b_int, b_intB, b_abs, b_lenS, r_addS, r_isN, r_eqB, r_neB, List.getElem?_cons_zero, List.getElem?_cons_succ, List.set_cons_zero, List.set_cons_succ, List.map_cons, List.map_nil, List.length_cons, List.length_nil, Nat.reduceAdd, Nat.reduceSub, List.replicate_succ, List.replicate_zero, List.cons_append, List.nil_append, List.append_nil, Bool.not_true, Bool.not_false, if_true, if_false, ite_true, ite_false, Bool.false_eq_true, Bool.true_eq_false, reduceIte]
        exact rs hbad H2 xr
      | true =>
        have hbad : badC t (sgA i, i) = false := by
          show (match t[i]? with | none => true | some d => !(d == sgA i || d == 45)) = false
          rw [hd]
          show (!(d == sgA i || d == 45)) = false
          rw [hb]; rfl
        simp only [e_k, e_v, e_g, e_bop, e_uop, e_not, e_and, e_or, e_ite, e_cmp, e_cmp2, e_lst, e_tup, e_call, e_mk, e_bi, e_isi, e_meth, e_bm, e_icall, e_ostr, e_att, e_ix, e_sl, e_isiM, e_methk, e_smeth, e_cmeth, e_mkv, e_mkk, kw_nil, e_oeq, e_eatt, e_eisi, t_v, t_isi, t_call, t_meth, t_bop, t_bi, t_att, t_not, t_and, t_or, t_cmp, t_cmp2, trQ_bl, blQ_bl, t_methk, t_smeth, t_oeq, t_eisi, t_ix, t_icall, a_nil', a_cons, s_nil, s_cons, s_set, s_setLc, s_par, s_expr, s_ret, s_retN, s_if, s_never, s_pass, s_brk, s_cont, s_par3, s_raise, g_v', g_tup, g_sub, g_att, gs_nil, gs_cons, gs_tup, i_L, i_T, i_S, i_R1, i_ES, i_E, i_Z, p_nil, p_pair, o_nil, o_k, o_v, o_bop, o_uop, o_bi, o_ix, oQ_int, x_K, x_w, x_fn, x_gv, x_tabs, x_mth, x_prp, x_fld, x_isi, x_kwo, x_xf, x_exm, x_eis, x_lt, x_lfn, x_smt, x_cmt, y_cmt, y_K, y_w, y_fn, y_gv, y_tabs, y_mth, y_prp, y_fld, y_isi, y_kwo, y_xf, y_exm, y_eis, y_smt, isi_int, isi_str, isi_bl, isi_non, ii1, ii2, ii3, ii4, ii5, ii6, ii7, it1, it2, it3, it4, it5, it6, it7, it8, it9, it10, it11, it12, it13, r_add, r_sub, r_mul, r_div, r_mod, r_pow, r_shl, r_shr, r_and, r_or, r_xor, r_neg, r_inv, r_lt, r_le, r_gt, r_ge, r_eqI, r_neI, r_eqS, r_neS, r_inS, r_niS, b_int, b_intB, b_abs, b_lenS, r_addS, r_isN, r_eqB, r_neB, List.getElem?_cons_zero, List.getElem?_cons_succ, List.set_cons_zero, List.set_cons_succ, List.map_cons, List.map_nil, List.length_cons, List.length_nil, Nat.reduceAdd, Nat.reduceSub, List.replicate_succ, List.replicate_zero, List.cons_append, List.nil_append, List.append_nil, Bool.not_true, Bool.not_false, if_true, if_false, ite_true, ite_false, Bool.false_eq_true, Bool.true_eq_false, reduceIte]
        refine due_loop ht l H2 _ (fun j hj => hl j (List.mem_cons_of_mem _ hj)) xr (fun c' k hk => h1 c' k ?_) (fun hk => h2 ?_)
        · rw [List.map_cons, List.find?_cons, hbad]
          exact hk
        · rw [List.map_cons, List.find?_cons, hbad]
          exact hk
    · have hi' : (t.length : Int) ≤ (i : Nat) := by omega
      simp only [hi', decide_true, e_k, e_v, e_g, e_bop, e_uop, e_not, e_and, e_or, e_ite, e_cmp, e_cmp2, e_lst, e_tup, e_call, e_mk, e_bi, e_isi, e_meth, e_bm, e_icall, e_ostr, e_att, e_ix, e_sl, e_isiM, e_methk, e_smeth, e_cmeth, e_mkv, e_mkk, kw_nil, e_oeq, e_eatt, e_eisi, t_v, t_isi, t_call, t_meth, t_bop, t_bi, t_att, t_not, t_and, t_or, t_cmp, t_cmp2, trQ_bl, blQ_bl, t_methk, t_smeth, t_oeq, t_eisi, t_ix, t_icall, a_nil', a_cons, s_nil, s_cons, s_set, s_setLc, s_par, s_expr, s_ret, s_retN, s_if, s_never, s_pass, s_brk, s_cont, s_par3, s_raise, g_v', g_tup, g_sub, g_att, gs_nil, gs_cons, gs_tup, i_L, i_T, i_S, i_R1, i_ES, i_E, i_Z, p_nil, p_pair, o_nil, o_k, o_v, o_bop, o_uop, o_bi, o_ix, oQ_int, x_K, x_w, x_fn, x_gv, x_tabs, x_mth, x_prp, x_fld, x_isi, x_kwo, x_xf, x_exm, x_eis, x_lt, x_lfn, x_smt, x_cmt, y_cmt, y_K, y_w, y_fn, y_gv, y_tabs, y_mth, y_prp, y_fld, y_isi, y_kwo, y_xf, y_exm, y_eis, y_smt, isi_int, isi_str, isi_bl, isi_non, ii1, ii2, ii3, ii4, ii5, ii6, ii7, it1, it2, it3, it4, it5, it6, it7, it8, it9, it10, it11, it12, it13, r_add, r_sub, r_mul, r_div, r_mod, r_pow, r_shl, r_shr, r_and, r_or, r_xor, r_neg, r_inv, r_lt, r_le, r_gt, r_ge, r_eqI, r_neI, r_eqS, r_neS, r_inS, r_niS, b_int, b_intB, b_abs, b_lenS, r_addS, r_isN, r_eqB, r_neB, List.getElem?_cons_zero, List.getElem?_cons_succ, List.set_cons_zero, List.set_cons_succ, List.map_cons, List.map_nil, List.length_cons, List.length_nil, Nat.reduceAdd, Nat.reduceSub, List.replicate_succ, List.replicate_zero, List.cons_append, List.nil_append, List.append_nil, Bool.not_true, Bool.not_false, if_true, if_false, ite_true, ite_false, Bool.false_eq_true, Bool.true_eq_false, reduceIte]
      refine rs ?_ H' x
      show (match t[i]? with | none => true | some d => !(d == sgA i || d == 45)) = true
      rw [List.getElem?_eq_none (by omega)]
theorem num_loop {fn : Str → Sp} {W : WX} {D : Ends} {v0 v1 : Option V} (h : ∀ (a : Int) v3, D.nx [v0, v1, some (.int a), v3] H → True) : ∀ (t : List Nat) (a : Int) (v3 : Option V), (∀ v3, D.nx [v0, v1, some (.int (t.foldl (fun a c => 2 * a + (if (!(S [c] == S [45])) then 1 else 0)) a)), v3] H) →
    forGo (fun _ => True) (rd (hd.pg.ctx K w fn) (.v 3) W).g (rd (hd.pg.ctx K w fn) (.v 3) W).gs (rd (hd.pg.ctx K w fn) (.cons (.set (.v 2) (.bop .Add (.bop .Mult (.k (V.int 2)) (.v 2)) (.bi .int (.cons (.cmp .NotEq (.v 3) (.k (V.str (S [45])))) .nil)))) .nil) W).s D
      (t.map fun c => .v (.str (S [c]))) [v0, v1, some (.int a), v3] H
  | [], a, v3, q => ⟨trivial, q v3⟩
  | c :: t, a, v3, q => by
    rw [List.map_cons, for_v]
    refine ⟨trivial, ?_⟩
    simp only [e_k, e_v, e_g, e_bop, e_uop, e_not, e_and, e_or, e_ite, e_cmp, e_cmp2, e_lst, e_tup, e_call, e_mk, e_bi, e_isi, e_meth, e_bm, e_icall, e_ostr, e_att, e_ix, e_sl, e_isiM, e_methk, e_smeth, e_cmeth, e_mkv, e_mkk, kw_nil, e_oeq, e_eatt, e_eisi, t_v, t_isi, t_call, t_meth, t_bop, t_bi, t_att, t_not, t_and, t_or, t_cmp, t_cmp2, trQ_bl, blQ_bl, t_methk, t_smeth, t_oeq, t_eisi, t_ix, t_icall, a_nil', a_cons, s_nil, s_cons, s_set, s_setLc, s_par, s_expr, s_ret, s_retN, s_if, s_never, s_pass, s_brk, s_cont, s_par3, s_raise, g_v', g_tup, g_sub, g_att, gs_nil, gs_cons, gs_tup, i_L, i_T, i_S, i_R1, i_ES, i_E, i_Z, p_nil, p_pair, o_nil, o_k, o_v, o_bop, o_uop, o_bi, o_ix, oQ_int, x_K, x_w, x_fn, x_gv, x_tabs, x_mth, x_prp, x_fld, x_isi, x_kwo, x_xf, x_exm, x_eis, x_lt, x_lfn, x_smt, x_cmt, y_cmt, y_K, y_w, y_fn, y_gv, y_tabs, y_mth, y_prp, y_fld, y_isi, y_kwo, y_xf, y_exm, y_eis, y_smt, isi_int, isi_str, isi_bl, isi_non, ii1, ii2, ii3, ii4, ii5, ii6, ii7, it1, it2, it3, it4, it5, it6, it7, it8, it9, it10, it11, it12, it13, r_add, r_sub, r_mul, r_div, r_mod, r_pow, r_shl, r_shr, r_and, r_or, r_xor, r_neg, r_inv, r_lt, r_le, r_gt, r_ge, r_eqI, r_neI, r_eqS, r_neS, r_inS, r_niS, b_int, b_intB, b_abs, b_lenS, r_addS, r_isN, r_eqB, r_neB, List.getElem?_cons_zero, List.getElem?_cons_succ, List.set_cons_zero, List.set_cons_succ, List.map_cons, List.map_nil, List.length_cons, List.length_nil, Nat.reduceAdd, Nat.reduceSub, List.replicate_succ, List.replicate_zero, List.cons_append, List.nil_append, List.append_nil, Bool.not_true, Bool.not_false, if_true, if_false, ite_true, ite_false, Bool.false_eq_true, Bool.true_eq_false, reduceIte]
    refine ⟨.inl (.inl (by decide)), ?_⟩
    exact num_loop h t _ _ q
theorem c_due {t : List Nat} (hl : t.length ≤ 1000) (hn : 1 ≤ n) (hb : ∀ k, fbK t = some k → ∀ p H', Ext H H' → H' p = some (.tup [.str (S [116, 101, 120, 116]), .int 0, .int (k : Nat)]) → Q (.ref p) H')
    (ho : fbK t = none → ∀ p H', Ext H H' → H' p = some (.tup [.str (S [116, 111, 108, 100]), .int (numD t)]) → Q (.ref p) H') : run hd.pg K w n s__law_due [.str (S t)] H Q E := by
  refine run_at f__law_due (by omega) rfl ?_
  have hs : (1000 : Nat) ≤ sizeLine := by decide
  have hlen : (S t).length = t.length := rfl
  simp only [d__law_due, b__law_due, L2.start]
  rw [s_cons, s_for, i_R1, e_k]
  refine ⟨by decide, by decide, ?_⟩
  rw [show Int.toNat 9 = 9 from rfl]
  simp only [List.getElem?_cons_zero, List.getElem?_cons_succ, List.set_cons_zero, List.set_cons_succ, List.map_cons, List.map_nil, List.length_cons, List.length_nil, Nat.reduceAdd, Nat.reduceSub, List.replicate_succ, List.replicate_zero, List.cons_append, List.nil_append, List.append_nil, Bool.not_true, Bool.not_false, if_true, if_false, ite_true, ite_false, Bool.false_eq_true, Bool.true_eq_false, reduceIte]
  refine due_loop (H := H) hl _ _ _ (fun i hi => List.mem_range.mp hi) Ext.refl (fun c k hk p H' x hp => hb k ?_ p H' x hp) fun hk H1 v1 x1 => ?_
  · unfold fbK
    rw [sg_all, hk]
  rw [← sg_all] at hk
  simp only [e_k, e_v, e_g, e_bop, e_uop, e_not, e_and, e_or, e_ite, e_cmp, e_cmp2, e_lst, e_tup, e_call, e_mk, e_bi, e_isi, e_meth, e_bm, e_icall, e_ostr, e_att, e_ix, e_sl, e_isiM, e_methk, e_smeth, e_cmeth, e_mkv, e_mkk, kw_nil, e_oeq, e_eatt, e_eisi, t_v, t_isi, t_call, t_meth, t_bop, t_bi, t_att, t_not, t_and, t_or, t_cmp, t_cmp2, trQ_bl, blQ_bl, t_methk, t_smeth, t_oeq, t_eisi, t_ix, t_icall, a_nil', a_cons, s_nil, s_cons, s_set, s_setLc, s_par, s_expr, s_ret, s_retN, s_if, s_never, s_pass, s_brk, s_cont, s_par3, s_raise, g_v', g_tup, g_sub, g_att, gs_nil, gs_cons, gs_tup, i_L, i_T, i_S, i_R1, i_ES, i_E, i_Z, p_nil, p_pair, o_nil, o_k, o_v, o_bop, o_uop, o_bi, o_ix, oQ_int, x_K, x_w, x_fn, x_gv, x_tabs, x_mth, x_prp, x_fld, x_isi, x_kwo, x_xf, x_exm, x_eis, x_lt, x_lfn, x_smt, x_cmt, y_cmt, y_K, y_w, y_fn, y_gv, y_tabs, y_mth, y_prp, y_fld, y_isi, y_kwo, y_xf, y_exm, y_eis, y_smt, isi_int, isi_str, isi_bl, isi_non, ii1, ii2, ii3, ii4, ii5, ii6, ii7, it1, it2, it3, it4, it5, it6, it7, it8, it9, it10, it11, it12, it13, r_add, r_sub, r_mul, r_div, r_mod, r_pow, r_shl, r_shr, r_and, r_or, r_xor, r_neg, r_inv, r_lt, r_le, r_gt, r_ge, r_eqI, r_neI, r_eqS, r_neS, r_inS, r_niS, b_int, b_intB, b_abs, b_lenS, r_addS, r_isN, r_eqB, r_neB, List.getElem?_cons_zero, List.getElem?_cons_succ, List.set_cons_zero, List.set_cons_succ, List.map_cons, List.map_nil, List.length_cons, List.length_nil, Nat.reduceAdd, Nat.reduceSub, List.replicate_succ, List.replicate_zero, List.cons_append, List.nil_append, List.append_nil, Bool.not_true, Bool.not_false, if_true, if_false, ite_true, ite_false, Bool.false_eq_true, Bool.true_eq_false, reduceIte]
  rw [hlen]
  refine ⟨by omega, ?_⟩
  by_cases h9 : 9 < t.length
  · have h9' : (9 : Int) < t.length := by omega
    simp only [h9', decide_true, e_k, e_v, e_g, e_bop, e_uop, e_not, e_and, e_or, e_ite, e_cmp, e_cmp2, e_lst, e_tup, e_call, e_mk, e_bi, e_isi, e_meth, e_bm, e_icall, e_ostr, e_att, e_ix, e_sl, e_isiM, e_methk, e_smeth, e_cmeth, e_mkv, e_mkk, kw_nil, e_oeq, e_eatt, e_eisi, t_v, t_isi, t_call, t_meth, t_bop, t_bi, t_att, t_not, t_and, t_or, t_cmp, t_cmp2, trQ_bl, blQ_bl, t_methk, t_smeth, t_oeq, t_eisi, t_ix, t_icall, a_nil', a_cons, s_nil, s_cons, s_set, s_setLc, s_par, s_expr, s_ret, s_retN, s_if, s_never, s_pass, s_brk, s_cont, s_par3, s_raise, g_v', g_tup, g_sub, g_att, gs_nil, gs_cons, gs_tup, i_L, i_T, i_S, i_R1, i_ES, i_E, i_Z, p_nil, p_pair, o_nil, o_k, o_v, o_bop, o_uop, o_bi, o_ix, oQ_int, x_K, x_w, x_fn, x_gv, x_tabs, x_mth, x_prp, x_fld, x_isi, x_kwo, x_xf, x_exm, x_eis, x_lt, x_lfn, x_smt, x_cmt, y_cmt, y_K, y_w, y_fn, y_gv, y_tabs, y_mth, y_prp, y_fld, y_isi, y_kwo, y_xf, y_exm, y_eis, y_smt, isi_int, isi_str, isi_bl, isi_non, ii1, ii2, ii3, ii4, ii5, ii6, ii7, it1, it2, it3, it4, it5, it6, it7, it8, it9, it10, it11, it12, it13, r_add, r_sub, r_mul, r_div, r_mod, r_pow, r_shl, r_shr, r_and, r_or, r_xor, r_neg, r_inv, r_lt, r_le, r_gt, r_ge, r_eqI, r_neI, r_eqS, r_neS, r_inS, r_niS, b_int, b_intB, b_abs, b_lenS, r_addS, r_isN, r_eqB, r_neB, List.getElem?_cons_zero, List.getElem?_cons_succ, List.set_cons_zero, List.set_cons_succ, List.map_cons, List.map_nil, List.length_cons, List.length_nil, Nat.reduceAdd, Nat.reduceSub, List.replicate_succ, List.replicate_zero, List.cons_append, List.nil_append, List.append_nil, Bool.not_true, Bool.not_false, if_true, if_false, ite_true, ite_false, Bool.false_eq_true, Bool.true_eq_false, reduceIte]
    refine ⟨by decide, fun p hp => hb 9 ?_ p _ (x1.upd_of hp) upd_same⟩
    unfold fbK
    rw [hk]
    simp [h9]
  · have h9' : ¬ (9 : Int) < t.length := by omega
    simp only [h9', decide_false, e_k, e_v, e_g, e_bop, e_uop, e_not, e_and, e_or, e_ite, e_cmp, e_cmp2, e_lst, e_tup, e_call, e_mk, e_bi, e_isi, e_meth, e_bm, e_icall, e_ostr, e_att, e_ix, e_sl, e_isiM, e_methk, e_smeth, e_cmeth, e_mkv, e_mkk, kw_nil, e_oeq, e_eatt, e_eisi, t_v, t_isi, t_call, t_meth, t_bop, t_bi, t_att, t_not, t_and, t_or, t_cmp, t_cmp2, trQ_bl, blQ_bl, t_methk, t_smeth, t_oeq, t_eisi, t_ix, t_icall, a_nil', a_cons, s_nil, s_cons, s_set, s_setLc, s_par, s_expr, s_ret, s_retN, s_if, s_never, s_pass, s_brk, s_cont, s_par3, s_raise, g_v', g_tup, g_sub, g_att, gs_nil, gs_cons, gs_tup, i_L, i_T, i_S, i_R1, i_ES, i_E, i_Z, p_nil, p_pair, o_nil, o_k, o_v, o_bop, o_uop, o_bi, o_ix, oQ_int, x_K, x_w, x_fn, x_gv, x_tabs, x_mth, x_prp, x_fld, x_isi, x_kwo, x_xf, x_exm, x_eis, x_lt, x_lfn, x_smt, x_cmt, y_cmt, y_K, y_w, y_fn, y_gv, y_tabs, y_mth, y_prp, y_fld, y_isi, y_kwo, y_xf, y_exm, y_eis, y_smt, isi_int, isi_str, isi_bl, isi_non, ii1, ii2, ii3, ii4, ii5, ii6, ii7, it1, it2, it3, it4, it5, it6, it7, it8, it9, it10, it11, it12, it13, r_add, r_sub, r_mul, r_div, r_mod, r_pow, r_shl, r_shr, r_and, r_or, r_xor, r_neg, r_inv, r_lt, r_le, r_gt, r_ge, r_eqI, r_neI, r_eqS, r_neS, r_inS, r_niS, b_int, b_intB, b_abs, b_lenS, r_addS, r_isN, r_eqB, r_neB, List.getElem?_cons_zero, List.getElem?_cons_succ, List.set_cons_zero, List.set_cons_succ, List.map_cons, List.map_nil, List.length_cons, List.length_nil, Nat.reduceAdd, Nat.reduceSub, List.replicate_succ, List.replicate_zero, List.cons_append, List.nil_append, List.append_nil, Bool.not_true, Bool.not_false, if_true, if_false, ite_true, ite_false, Bool.false_eq_true, Bool.true_eq_false, reduceIte]
    have hf : fbK t = none := by
      unfold fbK
      rw [hk]
      simp [h9]
    rw [s_for, i_S, e_v]
    simp only [List.getElem?_cons_zero, List.getElem?_cons_succ, List.set_cons_zero, List.set_cons_succ, List.map_cons, List.map_nil, List.length_cons, List.length_nil, Nat.reduceAdd, Nat.reduceSub, List.replicate_succ, List.replicate_zero, List.cons_append, List.nil_append, List.append_nil, Bool.not_true, Bool.not_false, if_true, if_false, ite_true, ite_false, Bool.false_eq_true, Bool.true_eq_false, reduceIte]
    refine num_loop (fun _ _ _ => trivial) t 0 _ fun v3 => ?_
    simp only [e_k, e_v, e_g, e_bop, e_uop, e_not, e_and, e_or, e_ite, e_cmp, e_cmp2, e_lst, e_tup, e_call, e_mk, e_bi, e_isi, e_meth, e_bm, e_icall, e_ostr, e_att, e_ix, e_sl, e_isiM, e_methk, e_smeth, e_cmeth, e_mkv, e_mkk, kw_nil, e_oeq, e_eatt, e_eisi, t_v, t_isi, t_call, t_meth, t_bop, t_bi, t_att, t_not, t_and, t_or, t_cmp, t_cmp2, trQ_bl, blQ_bl, t_methk, t_smeth, t_oeq, t_eisi, t_ix, t_icall, a_nil', a_cons, s_nil, s_cons, s_set, s_setLc, s_par, s_expr, s_ret, s_retN, s_if, s_never, s_pass, s_brk, s_cont, s_par3, s_raise, g_v', g_tup, g_sub, g_att, gs_nil, gs_cons, gs_tup, i_L, i_T, i_S, i_R1, i_ES, i_E, i_Z, p_nil, p_pair, o_nil, o_k, o_v, o_bop, o_uop, o_bi, o_ix, oQ_int, x_K, x_w, x_fn, x_gv, x_tabs, x_mth, x_prp, x_fld, x_isi, x_kwo, x_xf, x_exm, x_eis, x_lt, x_lfn, x_smt, x_cmt, y_cmt, y_K, y_w, y_fn, y_gv, y_tabs, y_mth, y_prp, y_fld, y_isi, y_kwo, y_xf, y_exm, y_eis, y_smt, isi_int, isi_str, isi_bl, isi_non, ii1, ii2, ii3, ii4, ii5, ii6, ii7, it1, it2, it3, it4, it5, it6, it7, it8, it9, it10, it11, it12, it13, r_add, r_sub, r_mul, r_div, r_mod, r_pow, r_shl, r_shr, r_and, r_or, r_xor, r_neg, r_inv, r_lt, r_le, r_gt, r_ge, r_eqI, r_neI, r_eqS, r_neS, r_inS, r_niS, b_int, b_intB, b_abs, b_lenS, r_addS, r_isN, r_eqB, r_neB, List.getElem?_cons_zero, List.getElem?_cons_succ, List.set_cons_zero, List.set_cons_succ, List.map_cons, List.map_nil, List.length_cons, List.length_nil, Nat.reduceAdd, Nat.reduceSub, List.replicate_succ, List.replicate_zero, List.cons_append, List.nil_append, List.append_nil, Bool.not_true, Bool.not_false, if_true, if_false, ite_true, ite_false, Bool.false_eq_true, Bool.true_eq_false, reduceIte]
    exact ⟨by decide, fun p hp => ho hf p _ (x1.upd_of hp) upd_same⟩
end U

namespace U
open PySem PySem.Spec PyProof.Rows L2
variable {K : PySem.W.Frag} {w : World} {n : Nat} {H : Hp} {Q : VK} {E : XK} {t : List Nat}
/-- what is heard of a text -/
def Fnd (K : PySem.W.Frag) (H : Hp) (t : List Nat) (q : Addr) : Prop := match fbK t with
  | some k => H q = some (.tup [.str (S [116, 101, 120, 116]), .int 0, .int (k : Nat)])
  | none => ∃ M, H q = some (.tup [.str (S [116, 111, 108, 100]), .ref M]) ∧ IsM K H M (numR t)
def DueT (H : Hp) (t : List Nat) (q : Addr) : Prop := match fbK t with
  | some k => H q = some (.tup [.str (S [116, 101, 120, 116]), .int 0, .int (k : Nat)])
  | none => H q = some (.tup [.str (S [116, 111, 108, 100]), .int (numD t)])
theorem Fnd.extN {H' : Hp} {q : Addr} (h : Fnd K H t q) (x : LamX.ExtN H H') : Fnd K H' t q := by
  unfold Fnd at h ⊢
  cases e : fbK t with
  | some k =>
    rw [e] at h
    exact x _ _ h fun _ z => by cases z
  | none =>
    rw [e] at h
    obtain ⟨M, h1, h2⟩ := h
    exact ⟨M, x _ _ h1 fun _ z => (by cases z), h2.extN x⟩
theorem DueT.extN {H' : Hp} {q : Addr} (h : DueT H t q) (x : LamX.ExtN H H') : DueT H' t q := by
  unfold DueT at h ⊢
  cases e : fbK t with
  | some k =>
    rw [e] at h
    exact x _ _ h fun _ z => by cases z
  | none =>
    rw [e] at h
    exact x _ _ h fun _ z => by cases z
theorem Fnd.tup {q : Addr} (h : Fnd K H t q) : ∃ xs, H q = some (.tup xs) := by
  unfold Fnd at h
  cases e : fbK t with
  | some k => rw [e] at h; exact ⟨_, h⟩
  | none => rw [e] at h; obtain ⟨M, h1, _⟩ := h; exact ⟨_, h1⟩
theorem DueT.tup {q : Addr} (h : DueT H t q) : ∃ xs, H q = some (.tup xs) := by
  unfold DueT at h
  cases e : fbK t with
  | some k => rw [e] at h; exact ⟨_, h⟩
  | none => rw [e] at h; exact ⟨_, h⟩
theorem heard_read {tl : XK → Hp → VK → Prop} {fn : Str → Sp} (hl : t.length ≤ 1000) (hn : 3 ≤ n) (htl : ∀ E H' Q', Ext H H' → run hd.pg K w n s_Mode_read [.ref (He.ga K s_Mode), .str (S t)] H' Q' E → tl E H' Q')
    (h : ∀ q H', Ext H H' → Fnd K H' t q → Q (.ref q) H') : hd.pg.lrun K w fn s__law_heard tl H Q := by
  unfold Fnd at h
  cases e : fbK t with
  | some k =>
    rw [e] at h
    refine heard_text (u := .int 0) (v := .int (k : Nat)) (fun H' E Q x hE => htl E H' Q x (c_read hl hn (fun k' ek d H'' x'' hd => hE d H'' x'' ?_) fun en => ?_)) h
    · rw [e] at ek
      cases ek
      exact hd
    · rw [e] at en
      cases en
  | none =>
    rw [e] at h
    refine heard_told fun E Q' hQ => htl E H Q' Ext.refl (c_read hl hn (fun k' ek => ?_) fun _ m H' x hm => hQ (.ref m) H' x fun p H'' x' hp => h p H'' (x.trans x') ⟨m, hp, hm.ext x'⟩)
    rw [e] at ek
    cases ek
theorem ExtN.put {H' : Hp} {p : Addr} {o : HO} (x : LamX.ExtN H H') (hp : H p = none) : LamX.ExtN H (upd H' p o) := fun a u e k => by
  rw [upd_ne (ne_of_none e hp)]
  exact x a u e k
theorem none_ofN {H' : Hp} {p : Addr} {xs : List V} (x : LamX.ExtN H H') (h : H' p = none) (ht : ∀ ps, H p ≠ some (.tbl ps)) : H p = none := by
  cases e : H p with
  | none => rfl
  | some o =>
    have := x p o e fun ps z => ht ps (by rw [e, z])
    rw [h] at this
    cases this
theorem same_tup3 {p q : Addr} {a : Str} {i j : Int} (h1 : H p = some (.tup [.str a, .int i, .int j])) (h2 : H q = some (.tup [.str a, .int i, .int j])) {k : Nat} : Same H (k + 1) (.ref p) (.ref q) := by
  refine .tup h1 h2 rfl (by simp) fun i x y e1 e2 => ?_
  rw [e1] at e2
  cases e2
  match i, e1 with
  | 0, e1 => cases e1; exact .str
  | 1, e1 => cases e1; exact .int
  | 2, e1 => cases e1; exact .int
theorem same_is {p q : Addr} {i : Int} {a : Str} (h1 : H p = some (.lst [.int i, .str a])) (h2 : H q = some (.lst [.int i, .str a])) {k : Nat} : Same H (k + 1) (.ref p) (.ref q) := by
  refine .lst h1 h2 rfl (by simp) fun i x y e1 e2 => ?_
  rw [e1] at e2
  cases e2
  match i, e1 with
  | 0, e1 => cases e1; exact .int
  | 1, e1 => cases e1; exact .str
/-- one turn of the loop over what was heard -/
theorem found_ok {q P : Addr} {v2 : Option V} {W : WX} {D : Ends} (hq : Fnd K H t q) (hP : DueT H t P) (hn : 3 ≤ n) (h : ∀ H', Ext H H' → D.nx [some (.str (S t)), some (.ref P), v2, some (.ref q)] H') :
    (rd (hd.pg.ctx K w (run hd.pg K w n)) (.cons (.if_ (.cmp .Eq (.ix (.v 1) (.k (V.int 0))) (.k (V.str (S [116, 111, 108, 100])))) (.cons (.if_ (.or (.cmp .NotEq (.ix (.v 3) (.k (V.int 0))) (.k (V.str (S [116, 111, 108, 100])))) (.not (.call s__law_same (.cons (.lst (.cons (.att (.ix (.v 3) (.k (V.int 1))) s_number) (.cons (.ostr (.ix (.v 3) (.k (V.int 1)))) .nil))) (.cons (.lst (.cons (.ix (.v 1) (.k (V.int 1))) (.cons (.v 0) .nil))) .nil))))) (.cons (.ret (.k (V.bl false))) .nil) .nil) .nil) (.cons (.if_ (.not (.call s__law_same (.cons (.v 3) (.cons (.v 1) .nil)))) (.cons (.ret (.k (V.bl false))) .nil) .nil) .nil)) .nil) W).s D [some (.str (S t)), some (.ref P), v2, some (.ref q)] H := by
  unfold Fnd at hq
  unfold DueT at hP
  cases e : fbK t with
  | some k =>
    rw [e] at hq hP
    dsimp only at hq hP
    simp only [e_k, e_v, e_g, e_bop, e_uop, e_not, e_and, e_or, e_ite, e_cmp, e_cmp2, e_lst, e_tup, e_call, e_mk, e_bi, e_isi, e_meth, e_bm, e_icall, e_ostr, e_att, e_ix, e_sl, e_isiM, e_methk, e_smeth, e_cmeth, e_mkv, e_mkk, kw_nil, e_oeq, e_eatt, e_eisi, t_v, t_isi, t_call, t_meth, t_bop, t_bi, t_att, t_not, t_and, t_or, t_cmp, t_cmp2, trQ_bl, blQ_bl, t_methk, t_smeth, t_oeq, t_eisi, t_ix, t_icall, a_nil', a_cons, s_nil, s_cons, s_set, s_setLc, s_par, s_expr, s_ret, s_retN, s_if, s_never, s_pass, s_brk, s_cont, s_par3, s_raise, g_v', g_tup, g_sub, g_att, gs_nil, gs_cons, gs_tup, i_L, i_T, i_S, i_R1, i_ES, i_E, i_Z, p_nil, p_pair, o_nil, o_k, o_v, o_bop, o_uop, o_bi, o_ix, oQ_int, x_K, x_w, x_fn, x_gv, x_tabs, x_mth, x_prp, x_fld, x_isi, x_kwo, x_xf, x_exm, x_eis, x_lt, x_lfn, x_smt, x_cmt, y_cmt, y_K, y_w, y_fn, y_gv, y_tabs, y_mth, y_prp, y_fld, y_isi, y_kwo, y_xf, y_exm, y_eis, y_smt, isi_int, isi_str, isi_bl, isi_non, ii1, ii2, ii3, ii4, ii5, ii6, ii7, it1, it2, it3, it4, it5, it6, it7, it8, it9, it10, it11, it12, it13, r_add, r_sub, r_mul, r_div, r_mod, r_pow, r_shl, r_shr, r_and, r_or, r_xor, r_neg, r_inv, r_lt, r_le, r_gt, r_ge, r_eqI, r_neI, r_eqS, r_neS, r_inS, r_niS, b_int, b_intB, b_abs, b_lenS, r_addS, r_isN, r_eqB, r_neB, List.getElem?_cons_zero, List.getElem?_cons_succ, List.set_cons_zero, List.set_cons_succ, List.map_cons, List.map_nil, List.length_cons, List.length_nil, Nat.reduceAdd, Nat.reduceSub, List.replicate_succ, List.replicate_zero, List.cons_append, List.nil_append, List.append_nil, Bool.not_true, Bool.not_false, if_true, if_false, ite_true, ite_false, Bool.false_eq_true, Bool.true_eq_false, reduceIte]
    refine x_ixT hP rfl ?_
    rw [r_eqS, show (S [116, 101, 120, 116] == S [116, 111, 108, 100]) = false from by decide +kernel]
    simp only [e_k, e_v, e_g, e_bop, e_uop, e_not, e_and, e_or, e_ite, e_cmp, e_cmp2, e_lst, e_tup, e_call, e_mk, e_bi, e_isi, e_meth, e_bm, e_icall, e_ostr, e_att, e_ix, e_sl, e_isiM, e_methk, e_smeth, e_cmeth, e_mkv, e_mkk, kw_nil, e_oeq, e_eatt, e_eisi, t_v, t_isi, t_call, t_meth, t_bop, t_bi, t_att, t_not, t_and, t_or, t_cmp, t_cmp2, trQ_bl, blQ_bl, t_methk, t_smeth, t_oeq, t_eisi, t_ix, t_icall, a_nil', a_cons, s_nil, s_cons, s_set, s_setLc, s_par, s_expr, s_ret, s_retN, s_if, s_never, s_pass, s_brk, s_cont, s_par3, s_raise, g_v', g_tup, g_sub, g_att, gs_nil, gs_cons, gs_tup, i_L, i_T, i_S, i_R1, i_ES, i_E, i_Z, p_nil, p_pair, o_nil, o_k, o_v, o_bop, o_uop, o_bi, o_ix, oQ_int, x_K, x_w, x_fn, x_gv, x_tabs, x_mth, x_prp, x_fld, x_isi, x_kwo, x_xf, x_exm, x_eis, x_lt, x_lfn, x_smt, x_cmt, y_cmt, y_K, y_w, y_fn, y_gv, y_tabs, y_mth, y_prp, y_fld, y_isi, y_kwo, y_xf, y_exm, y_eis, y_smt, isi_int, isi_str, isi_bl, isi_non, ii1, ii2, ii3, ii4, ii5, ii6, ii7, it1, it2, it3, it4, it5, it6, it7, it8, it9, it10, it11, it12, it13, r_add, r_sub, r_mul, r_div, r_mod, r_pow, r_shl, r_shr, r_and, r_or, r_xor, r_neg, r_inv, r_lt, r_le, r_gt, r_ge, r_eqI, r_neI, r_eqS, r_neS, r_inS, r_niS, b_int, b_intB, b_abs, b_lenS, r_addS, r_isN, r_eqB, r_neB, List.getElem?_cons_zero, List.getElem?_cons_succ, List.set_cons_zero, List.set_cons_succ, List.map_cons, List.map_nil, List.length_cons, List.length_nil, Nat.reduceAdd, Nat.reduceSub, List.replicate_succ, List.replicate_zero, List.cons_append, List.nil_append, List.append_nil, Bool.not_true, Bool.not_false, if_true, if_false, ite_true, ite_false, Bool.false_eq_true, Bool.true_eq_false, reduceIte]
    refine c_same (same_tup3 (k := 0) hq hP) (by omega) Ext.refl fun H1 x1 => ?_
    simp only [e_k, e_v, e_g, e_bop, e_uop, e_not, e_and, e_or, e_ite, e_cmp, e_cmp2, e_lst, e_tup, e_call, e_mk, e_bi, e_isi, e_meth, e_bm, e_icall, e_ostr, e_att, e_ix, e_sl, e_isiM, e_methk, e_smeth, e_cmeth, e_mkv, e_mkk, kw_nil, e_oeq, e_eatt, e_eisi, t_v, t_isi, t_call, t_meth, t_bop, t_bi, t_att, t_not, t_and, t_or, t_cmp, t_cmp2, trQ_bl, blQ_bl, t_methk, t_smeth, t_oeq, t_eisi, t_ix, t_icall, a_nil', a_cons, s_nil, s_cons, s_set, s_setLc, s_par, s_expr, s_ret, s_retN, s_if, s_never, s_pass, s_brk, s_cont, s_par3, s_raise, g_v', g_tup, g_sub, g_att, gs_nil, gs_cons, gs_tup, i_L, i_T, i_S, i_R1, i_ES, i_E, i_Z, p_nil, p_pair, o_nil, o_k, o_v, o_bop, o_uop, o_bi, o_ix, oQ_int, x_K, x_w, x_fn, x_gv, x_tabs, x_mth, x_prp, x_fld, x_isi, x_kwo, x_xf, x_exm, x_eis, x_lt, x_lfn, x_smt, x_cmt, y_cmt, y_K, y_w, y_fn, y_gv, y_tabs, y_mth, y_prp, y_fld, y_isi, y_kwo, y_xf, y_exm, y_eis, y_smt, isi_int, isi_str, isi_bl, isi_non, ii1, ii2, ii3, ii4, ii5, ii6, ii7, it1, it2, it3, it4, it5, it6, it7, it8, it9, it10, it11, it12, it13, r_add, r_sub, r_mul, r_div, r_mod, r_pow, r_shl, r_shr, r_and, r_or, r_xor, r_neg, r_inv, r_lt, r_le, r_gt, r_ge, r_eqI, r_neI, r_eqS, r_neS, r_inS, r_niS, b_int, b_intB, b_abs, b_lenS, r_addS, r_isN, r_eqB, r_neB, List.getElem?_cons_zero, List.getElem?_cons_succ, List.set_cons_zero, List.set_cons_succ, List.map_cons, List.map_nil, List.length_cons, List.length_nil, Nat.reduceAdd, Nat.reduceSub, List.replicate_succ, List.replicate_zero, List.cons_append, List.nil_append, List.append_nil, Bool.not_true, Bool.not_false, if_true, if_false, ite_true, ite_false, Bool.false_eq_true, Bool.true_eq_false, reduceIte]
    exact h H1 x1
  | none =>
    rw [e] at hq hP
    dsimp only at hq hP
    obtain ⟨M, hq, hM⟩ := hq
    obtain ⟨b0, b1, b2, b3, b4, b5, b6, b7, b8, et⟩ := tOf_of e
    obtain ⟨g1, g2, g3, g4⟩ := tOf_all b0 b1 b2 b3 b4 b5 b6 b7 b8
    rw [← et] at g1 g2 g3 g4
    simp only [e_k, e_v, e_g, e_bop, e_uop, e_not, e_and, e_or, e_ite, e_cmp, e_cmp2, e_lst, e_tup, e_call, e_mk, e_bi, e_isi, e_meth, e_bm, e_icall, e_ostr, e_att, e_ix, e_sl, e_isiM, e_methk, e_smeth, e_cmeth, e_mkv, e_mkk, kw_nil, e_oeq, e_eatt, e_eisi, t_v, t_isi, t_call, t_meth, t_bop, t_bi, t_att, t_not, t_and, t_or, t_cmp, t_cmp2, trQ_bl, blQ_bl, t_methk, t_smeth, t_oeq, t_eisi, t_ix, t_icall, a_nil', a_cons, s_nil, s_cons, s_set, s_setLc, s_par, s_expr, s_ret, s_retN, s_if, s_never, s_pass, s_brk, s_cont, s_par3, s_raise, g_v', g_tup, g_sub, g_att, gs_nil, gs_cons, gs_tup, i_L, i_T, i_S, i_R1, i_ES, i_E, i_Z, p_nil, p_pair, o_nil, o_k, o_v, o_bop, o_uop, o_bi, o_ix, oQ_int, x_K, x_w, x_fn, x_gv, x_tabs, x_mth, x_prp, x_fld, x_isi, x_kwo, x_xf, x_exm, x_eis, x_lt, x_lfn, x_smt, x_cmt, y_cmt, y_K, y_w, y_fn, y_gv, y_tabs, y_mth, y_prp, y_fld, y_isi, y_kwo, y_xf, y_exm, y_eis, y_smt, isi_int, isi_str, isi_bl, isi_non, ii1, ii2, ii3, ii4, ii5, ii6, ii7, it1, it2, it3, it4, it5, it6, it7, it8, it9, it10, it11, it12, it13, r_add, r_sub, r_mul, r_div, r_mod, r_pow, r_shl, r_shr, r_and, r_or, r_xor, r_neg, r_inv, r_lt, r_le, r_gt, r_ge, r_eqI, r_neI, r_eqS, r_neS, r_inS, r_niS, b_int, b_intB, b_abs, b_lenS, r_addS, r_isN, r_eqB, r_neB, List.getElem?_cons_zero, List.getElem?_cons_succ, List.set_cons_zero, List.set_cons_succ, List.map_cons, List.map_nil, List.length_cons, List.length_nil, Nat.reduceAdd, Nat.reduceSub, List.replicate_succ, List.replicate_zero, List.cons_append, List.nil_append, List.append_nil, Bool.not_true, Bool.not_false, if_true, if_false, ite_true, ite_false, Bool.false_eq_true, Bool.true_eq_false, reduceIte]
    refine x_ixT hP rfl ?_
    simp only [beq_self_eq_true, e_k, e_v, e_g, e_bop, e_uop, e_not, e_and, e_or, e_ite, e_cmp, e_cmp2, e_lst, e_tup, e_call, e_mk, e_bi, e_isi, e_meth, e_bm, e_icall, e_ostr, e_att, e_ix, e_sl, e_isiM, e_methk, e_smeth, e_cmeth, e_mkv, e_mkk, kw_nil, e_oeq, e_eatt, e_eisi, t_v, t_isi, t_call, t_meth, t_bop, t_bi, t_att, t_not, t_and, t_or, t_cmp, t_cmp2, trQ_bl, blQ_bl, t_methk, t_smeth, t_oeq, t_eisi, t_ix, t_icall, a_nil', a_cons, s_nil, s_cons, s_set, s_setLc, s_par, s_expr, s_ret, s_retN, s_if, s_never, s_pass, s_brk, s_cont, s_par3, s_raise, g_v', g_tup, g_sub, g_att, gs_nil, gs_cons, gs_tup, i_L, i_T, i_S, i_R1, i_ES, i_E, i_Z, p_nil, p_pair, o_nil, o_k, o_v, o_bop, o_uop, o_bi, o_ix, oQ_int, x_K, x_w, x_fn, x_gv, x_tabs, x_mth, x_prp, x_fld, x_isi, x_kwo, x_xf, x_exm, x_eis, x_lt, x_lfn, x_smt, x_cmt, y_cmt, y_K, y_w, y_fn, y_gv, y_tabs, y_mth, y_prp, y_fld, y_isi, y_kwo, y_xf, y_exm, y_eis, y_smt, isi_int, isi_str, isi_bl, isi_non, ii1, ii2, ii3, ii4, ii5, ii6, ii7, it1, it2, it3, it4, it5, it6, it7, it8, it9, it10, it11, it12, it13, r_add, r_sub, r_mul, r_div, r_mod, r_pow, r_shl, r_shr, r_and, r_or, r_xor, r_neg, r_inv, r_lt, r_le, r_gt, r_ge, r_eqI, r_neI, r_eqS, r_neS, r_inS, r_niS, b_int, b_intB, b_abs, b_lenS, r_addS, r_isN, r_eqB, r_neB, List.getElem?_cons_zero, List.getElem?_cons_succ, List.set_cons_zero, List.set_cons_succ, List.map_cons, List.map_nil, List.length_cons, List.length_nil, Nat.reduceAdd, Nat.reduceSub, List.replicate_succ, List.replicate_zero, List.cons_append, List.nil_append, List.append_nil, Bool.not_true, Bool.not_false, if_true, if_false, ite_true, ite_false, Bool.false_eq_true, Bool.true_eq_false, reduceIte]
    refine x_ixT hq rfl ?_
    simp only [beq_self_eq_true, e_k, e_v, e_g, e_bop, e_uop, e_not, e_and, e_or, e_ite, e_cmp, e_cmp2, e_lst, e_tup, e_call, e_mk, e_bi, e_isi, e_meth, e_bm, e_icall, e_ostr, e_att, e_ix, e_sl, e_isiM, e_methk, e_smeth, e_cmeth, e_mkv, e_mkk, kw_nil, e_oeq, e_eatt, e_eisi, t_v, t_isi, t_call, t_meth, t_bop, t_bi, t_att, t_not, t_and, t_or, t_cmp, t_cmp2, trQ_bl, blQ_bl, t_methk, t_smeth, t_oeq, t_eisi, t_ix, t_icall, a_nil', a_cons, s_nil, s_cons, s_set, s_setLc, s_par, s_expr, s_ret, s_retN, s_if, s_never, s_pass, s_brk, s_cont, s_par3, s_raise, g_v', g_tup, g_sub, g_att, gs_nil, gs_cons, gs_tup, i_L, i_T, i_S, i_R1, i_ES, i_E, i_Z, p_nil, p_pair, o_nil, o_k, o_v, o_bop, o_uop, o_bi, o_ix, oQ_int, x_K, x_w, x_fn, x_gv, x_tabs, x_mth, x_prp, x_fld, x_isi, x_kwo, x_xf, x_exm, x_eis, x_lt, x_lfn, x_smt, x_cmt, y_cmt, y_K, y_w, y_fn, y_gv, y_tabs, y_mth, y_prp, y_fld, y_isi, y_kwo, y_xf, y_exm, y_eis, y_smt, isi_int, isi_str, isi_bl, isi_non, ii1, ii2, ii3, ii4, ii5, ii6, ii7, it1, it2, it3, it4, it5, it6, it7, it8, it9, it10, it11, it12, it13, r_add, r_sub, r_mul, r_div, r_mod, r_pow, r_shl, r_shr, r_and, r_or, r_xor, r_neg, r_inv, r_lt, r_le, r_gt, r_ge, r_eqI, r_neI, r_eqS, r_neS, r_inS, r_niS, b_int, b_intB, b_abs, b_lenS, r_addS, r_isN, r_eqB, r_neB, List.getElem?_cons_zero, List.getElem?_cons_succ, List.set_cons_zero, List.set_cons_succ, List.map_cons, List.map_nil, List.length_cons, List.length_nil, Nat.reduceAdd, Nat.reduceSub, List.replicate_succ, List.replicate_zero, List.cons_append, List.nil_append, List.append_nil, Bool.not_true, Bool.not_false, if_true, if_false, ite_true, ite_false, Bool.false_eq_true, Bool.true_eq_false, reduceIte]
    refine x_ixT hq rfl ?_
    obtain ⟨dx, hMr⟩ := id hM
    refine num_att hM (fun Q E q => c_Mode_number (by omega) hMr q) ?_
    refine x_ixT hq rfl ?_
    refine ⟨s_Mode, dx, _, _, hMr, mthS, c_Mode_str hM (by omega) g4 fun H1 x1 => ?_⟩
    rw [g3]
    refine ⟨by decide, fun L1 hL1 => ?_⟩
    refine x_ixT (upd_get (x1.get hP) hL1) rfl ?_
    refine ⟨by decide, fun L2 hL2 => ?_⟩
    rw [g2]
    refine c_same (same_is (k := 0) (upd_get upd_same hL2) upd_same) (by omega) Ext.refl fun H2 x2 => ?_
    simp only [e_k, e_v, e_g, e_bop, e_uop, e_not, e_and, e_or, e_ite, e_cmp, e_cmp2, e_lst, e_tup, e_call, e_mk, e_bi, e_isi, e_meth, e_bm, e_icall, e_ostr, e_att, e_ix, e_sl, e_isiM, e_methk, e_smeth, e_cmeth, e_mkv, e_mkk, kw_nil, e_oeq, e_eatt, e_eisi, t_v, t_isi, t_call, t_meth, t_bop, t_bi, t_att, t_not, t_and, t_or, t_cmp, t_cmp2, trQ_bl, blQ_bl, t_methk, t_smeth, t_oeq, t_eisi, t_ix, t_icall, a_nil', a_cons, s_nil, s_cons, s_set, s_setLc, s_par, s_expr, s_ret, s_retN, s_if, s_never, s_pass, s_brk, s_cont, s_par3, s_raise, g_v', g_tup, g_sub, g_att, gs_nil, gs_cons, gs_tup, i_L, i_T, i_S, i_R1, i_ES, i_E, i_Z, p_nil, p_pair, o_nil, o_k, o_v, o_bop, o_uop, o_bi, o_ix, oQ_int, x_K, x_w, x_fn, x_gv, x_tabs, x_mth, x_prp, x_fld, x_isi, x_kwo, x_xf, x_exm, x_eis, x_lt, x_lfn, x_smt, x_cmt, y_cmt, y_K, y_w, y_fn, y_gv, y_tabs, y_mth, y_prp, y_fld, y_isi, y_kwo, y_xf, y_exm, y_eis, y_smt, isi_int, isi_str, isi_bl, isi_non, ii1, ii2, ii3, ii4, ii5, ii6, ii7, it1, it2, it3, it4, it5, it6, it7, it8, it9, it10, it11, it12, it13, r_add, r_sub, r_mul, r_div, r_mod, r_pow, r_shl, r_shr, r_and, r_or, r_xor, r_neg, r_inv, r_lt, r_le, r_gt, r_ge, r_eqI, r_neI, r_eqS, r_neS, r_inS, r_niS, b_int, b_intB, b_abs, b_lenS, r_addS, r_isN, r_eqB, r_neB, List.getElem?_cons_zero, List.getElem?_cons_succ, List.set_cons_zero, List.set_cons_succ, List.map_cons, List.map_nil, List.length_cons, List.length_nil, Nat.reduceAdd, Nat.reduceSub, List.replicate_succ, List.replicate_zero, List.cons_append, List.nil_append, List.append_nil, Bool.not_true, Bool.not_false, if_true, if_false, ite_true, ite_false, Bool.false_eq_true, Bool.true_eq_false, reduceIte]
    exact h H2 (((x1.upd_of hL1).upd_of hL2).trans x2)
end U

namespace U
open PySem PySem.Spec PyProof.Rows L2
variable {K : PySem.W.Frag} {w : World} {n : Nat} {H : Hp} {Q : VK} {E : XK} {t : List Nat}
theorem c_due' (hl : t.length ≤ 1000) (hn : 1 ≤ n) (h : ∀ p H', Ext H H' → DueT H' t p → Q (.ref p) H') : run hd.pg K w n s__law_due [.str (S t)] H Q E := by
  refine c_due hl hn (fun k e p H' x hp => h p H' x ?_) fun e p H' x hp => h p H' x ?_
  · unfold DueT
    rw [e]
    exact hp
  · unfold DueT
    rw [e]
    exact hp
theorem cm1 : hd.pg.cmt s_Mode s_read = some s_Mode_read := rfl
theorem ct_pos {σ : St} {W : WX} {v : V} {i : Nat} {Q' : VK} (hs : σ[i]? = some (some v)) (h : run hd.pg K w n s_Mode_read [.ref (He.ga K s_Mode), v] H Q' fun cls d H' => W cls d σ H') : (rd (hd.pg.ctx K w (run hd.pg K w n)) (.cmeth s_Mode s_read (.cons (.v i) .nil) [] .nil) W).e σ H Q' := by
  rw [e_cmeth, x_cmt, cm1]
  try simp only [e_k, e_v, e_g, e_bop, e_uop, e_not, e_and, e_or, e_ite, e_cmp, e_cmp2, e_lst, e_tup, e_call, e_mk, e_bi, e_isi, e_meth, e_bm, e_icall, e_ostr, e_att, e_ix, e_sl, e_isiM, e_methk, e_smeth, e_cmeth, e_mkv, e_mkk, kw_nil, e_oeq, e_eatt, e_eisi, t_v, t_isi, t_call, t_meth, t_bop, t_bi, t_att, t_not, t_and, t_or, t_cmp, t_cmp2, trQ_bl, blQ_bl, t_methk, t_smeth, t_oeq, t_eisi, t_ix, t_icall, a_nil', a_cons, s_nil, s_cons, s_set, s_setLc, s_par, s_expr, s_ret, s_retN, s_if, s_never, s_pass, s_brk, s_cont, s_par3, s_raise, g_v', g_tup, g_sub, g_att, gs_nil, gs_cons, gs_tup, i_L, i_T, i_S, i_R1, i_ES, i_E, i_Z, p_nil, p_pair, o_nil, o_k, o_v, o_bop, o_uop, o_bi, o_ix, oQ_int, x_K, x_w, x_fn, x_gv, x_tabs, x_mth, x_prp, x_fld, x_isi, x_kwo, x_xf, x_exm, x_eis, x_lt, x_lfn, x_smt, x_cmt, y_cmt, y_K, y_w, y_fn, y_gv, y_tabs, y_mth, y_prp, y_fld, y_isi, y_kwo, y_xf, y_exm, y_eis, y_smt, isi_int, isi_str, isi_bl, isi_non, ii1, ii2, ii3, ii4, ii5, ii6, ii7, it1, it2, it3, it4, it5, it6, it7, it8, it9, it10, it11, it12, it13, r_add, r_sub, r_mul, r_div, r_mod, r_pow, r_shl, r_shr, r_and, r_or, r_xor, r_neg, r_inv, r_lt, r_le, r_gt, r_ge, r_eqI, r_neI, r_eqS, r_neS, r_inS, r_niS, b_int, b_intB, b_abs, b_lenS, r_addS, r_isN, r_eqB, r_neB, List.getElem?_cons_zero, List.getElem?_cons_succ, List.set_cons_zero, List.set_cons_succ, List.map_cons, List.map_nil, List.length_cons, List.length_nil, Nat.reduceAdd, Nat.reduceSub, List.replicate_succ, List.replicate_zero, List.cons_append, List.nil_append, List.append_nil, Bool.not_true, Bool.not_false, if_true, if_false, ite_true, ite_false, Bool.false_eq_true, Bool.true_eq_false, reduceIte]
  rw [hs]
  exact h
theorem ct_kw {σ : St} {W : WX} {v : V} {Q' : VK} (hs : σ[0]? = some (some v)) (h : run hd.pg K w n s_Mode_read [.ref (He.ga K s_Mode), v] H Q' fun cls d H' => W cls d σ H') : (rd (hd.pg.ctx K w (run hd.pg K w n)) (.cmeth s_Mode s_read .nil [s_text] (.cons (.v 0) .nil)) W).e σ H Q' := by
  rw [e_cmeth, x_cmt, cm1]
  try simp only [e_k, e_v, e_g, e_bop, e_uop, e_not, e_and, e_or, e_ite, e_cmp, e_cmp2, e_lst, e_tup, e_call, e_mk, e_bi, e_isi, e_meth, e_bm, e_icall, e_ostr, e_att, e_ix, e_sl, e_isiM, e_methk, e_smeth, e_cmeth, e_mkv, e_mkk, kw_nil, e_oeq, e_eatt, e_eisi, t_v, t_isi, t_call, t_meth, t_bop, t_bi, t_att, t_not, t_and, t_or, t_cmp, t_cmp2, trQ_bl, blQ_bl, t_methk, t_smeth, t_oeq, t_eisi, t_ix, t_icall, a_nil', a_cons, s_nil, s_cons, s_set, s_setLc, s_par, s_expr, s_ret, s_retN, s_if, s_never, s_pass, s_brk, s_cont, s_par3, s_raise, g_v', g_tup, g_sub, g_att, gs_nil, gs_cons, gs_tup, i_L, i_T, i_S, i_R1, i_ES, i_E, i_Z, p_nil, p_pair, o_nil, o_k, o_v, o_bop, o_uop, o_bi, o_ix, oQ_int, x_K, x_w, x_fn, x_gv, x_tabs, x_mth, x_prp, x_fld, x_isi, x_kwo, x_xf, x_exm, x_eis, x_lt, x_lfn, x_smt, x_cmt, y_cmt, y_K, y_w, y_fn, y_gv, y_tabs, y_mth, y_prp, y_fld, y_isi, y_kwo, y_xf, y_exm, y_eis, y_smt, isi_int, isi_str, isi_bl, isi_non, ii1, ii2, ii3, ii4, ii5, ii6, ii7, it1, it2, it3, it4, it5, it6, it7, it8, it9, it10, it11, it12, it13, r_add, r_sub, r_mul, r_div, r_mod, r_pow, r_shl, r_shr, r_and, r_or, r_xor, r_neg, r_inv, r_lt, r_le, r_gt, r_ge, r_eqI, r_neI, r_eqS, r_neS, r_inS, r_niS, b_int, b_intB, b_abs, b_lenS, r_addS, r_isN, r_eqB, r_neB, List.getElem?_cons_zero, List.getElem?_cons_succ, List.set_cons_zero, List.set_cons_succ, List.map_cons, List.map_nil, List.length_cons, List.length_nil, Nat.reduceAdd, Nat.reduceSub, List.replicate_succ, List.replicate_zero, List.cons_append, List.nil_append, List.append_nil, Bool.not_true, Bool.not_false, if_true, if_false, ite_true, ite_false, Bool.false_eq_true, Bool.true_eq_false, reduceIte]
  rw [hs]
  exact kw_ok rfl rfl rfl h
theorem tabs_putL {T : List (Addr × Str)} {L : Addr} {xs : List V} {o : HO} (hL : H L = some (.lst xs)) (t : LamX.Tabs T H) : LamX.Tabs T (upd H L o) := by
  intro z hz
  obtain ⟨ps, k1, k2, k3⟩ := t z hz
  refine ⟨ps, ?_, k2, fun pos cv hc => ?_⟩
  · rw [upd_ne fun e => by rw [e, hL] at k1; cases k1]
    exact k1
  · obtain ⟨c, e1, e2⟩ := k3 pos cv hc
    refine ⟨c, e1, ?_⟩
    rw [upd_ne fun e => by rw [e, hL] at e2; cases e2]
    exact e2
/-- a list that is new since H may change -/
theorem ExtN.mut {H1 H2 H' : Hp} {L : Addr} {o : HO} (x1 : LamX.ExtN H H1) (hL : H1 L = none) (ht : ∀ ps, H L ≠ some (.tbl ps)) (x2 : LamX.ExtN H H2) : LamX.ExtN H (upd H2 L o) := ExtN.put x2 (none_ofN (xs := []) x1 hL ht)
theorem c_right (hl : t.length ≤ 1000) (hT : LamX.Tabs (hd.pg.lt K) H) (hn : 5 ≤ n) (h : ∀ H', (∀ a o, H a = some o → (∀ ps, o ≠ .tbl ps) → H' a = some o) → LamX.Tabs (hd.pg.lt K) H' → Q (.bl true) H') : run hd.pg K w n s__law_right [.str (S t)] H Q E := by
  refine run_at f__law_right (by omega) rfl ?_
  simp only [d__law_right, b__law_right, L2.start]
  rw [s_cons, s_set, e_call]
  try simp only [e_k, e_v, e_g, e_bop, e_uop, e_not, e_and, e_or, e_ite, e_cmp, e_cmp2, e_lst, e_tup, e_call, e_mk, e_bi, e_isi, e_meth, e_bm, e_icall, e_ostr, e_att, e_ix, e_sl, e_isiM, e_methk, e_smeth, e_cmeth, e_mkv, e_mkk, kw_nil, e_oeq, e_eatt, e_eisi, t_v, t_isi, t_call, t_meth, t_bop, t_bi, t_att, t_not, t_and, t_or, t_cmp, t_cmp2, trQ_bl, blQ_bl, t_methk, t_smeth, t_oeq, t_eisi, t_ix, t_icall, a_nil', a_cons, s_nil, s_cons, s_set, s_setLc, s_par, s_expr, s_ret, s_retN, s_if, s_never, s_pass, s_brk, s_cont, s_par3, s_raise, g_v', g_tup, g_sub, g_att, gs_nil, gs_cons, gs_tup, i_L, i_T, i_S, i_R1, i_ES, i_E, i_Z, p_nil, p_pair, o_nil, o_k, o_v, o_bop, o_uop, o_bi, o_ix, oQ_int, x_K, x_w, x_fn, x_gv, x_tabs, x_mth, x_prp, x_fld, x_isi, x_kwo, x_xf, x_exm, x_eis, x_lt, x_lfn, x_smt, x_cmt, y_cmt, y_K, y_w, y_fn, y_gv, y_tabs, y_mth, y_prp, y_fld, y_isi, y_kwo, y_xf, y_exm, y_eis, y_smt, isi_int, isi_str, isi_bl, isi_non, ii1, ii2, ii3, ii4, ii5, ii6, ii7, it1, it2, it3, it4, it5, it6, it7, it8, it9, it10, it11, it12, it13, r_add, r_sub, r_mul, r_div, r_mod, r_pow, r_shl, r_shr, r_and, r_or, r_xor, r_neg, r_inv, r_lt, r_le, r_gt, r_ge, r_eqI, r_neI, r_eqS, r_neS, r_inS, r_niS, b_int, b_intB, b_abs, b_lenS, r_addS, r_isN, r_eqB, r_neB, List.getElem?_cons_zero, List.getElem?_cons_succ, List.set_cons_zero, List.set_cons_succ, List.map_cons, List.map_nil, List.length_cons, List.length_nil, Nat.reduceAdd, Nat.reduceSub, List.replicate_succ, List.replicate_zero, List.cons_append, List.nil_append, List.append_nil, Bool.not_true, Bool.not_false, if_true, if_false, ite_true, ite_false, Bool.false_eq_true, Bool.true_eq_false, reduceIte]
  refine c_due' hl (by omega) fun P H1 x1 hP => ?_
  rw [e_lamc]
  refine ⟨tabs_ext hT x1, fun H2 x2 t2 => heard_read (n := n - 1) hl (by omega) (fun E H' Q' x hr => ct_pos rfl hr) fun q1 H3 x3 hq1 => ?_⟩
  have P3 := (hP.extN x2).extN x3.toN
  have x03 : LamX.ExtN H H3 := (x1.toN.trans x2).trans x3.toN
  have t3 := tabs_ext t2 x3
  refine ⟨by decide, fun L hL => ?_⟩
  have x4 := Ext.new (o := .lst [.ref q1]) hL
  have h4 : upd H3 L (.lst [.ref q1]) L = some (.lst [.ref q1]) := upd_same
  have e4 : ∀ a o, H3 a = some o → a ≠ L := fun a o e => ne_of_none e hL
  generalize upd H3 L (.lst [.ref q1]) = H4 at x4 h4 ⊢
  try simp only [e_k, e_v, e_g, e_bop, e_uop, e_not, e_and, e_or, e_ite, e_cmp, e_cmp2, e_lst, e_tup, e_call, e_mk, e_bi, e_isi, e_meth, e_bm, e_icall, e_ostr, e_att, e_ix, e_sl, e_isiM, e_methk, e_smeth, e_cmeth, e_mkv, e_mkk, kw_nil, e_oeq, e_eatt, e_eisi, t_v, t_isi, t_call, t_meth, t_bop, t_bi, t_att, t_not, t_and, t_or, t_cmp, t_cmp2, trQ_bl, blQ_bl, t_methk, t_smeth, t_oeq, t_eisi, t_ix, t_icall, a_nil', a_cons, s_nil, s_cons, s_set, s_setLc, s_par, s_expr, s_ret, s_retN, s_if, s_never, s_pass, s_brk, s_cont, s_par3, s_raise, g_v', g_tup, g_sub, g_att, gs_nil, gs_cons, gs_tup, i_L, i_T, i_S, i_R1, i_ES, i_E, i_Z, p_nil, p_pair, o_nil, o_k, o_v, o_bop, o_uop, o_bi, o_ix, oQ_int, x_K, x_w, x_fn, x_gv, x_tabs, x_mth, x_prp, x_fld, x_isi, x_kwo, x_xf, x_exm, x_eis, x_lt, x_lfn, x_smt, x_cmt, y_cmt, y_K, y_w, y_fn, y_gv, y_tabs, y_mth, y_prp, y_fld, y_isi, y_kwo, y_xf, y_exm, y_eis, y_smt, isi_int, isi_str, isi_bl, isi_non, ii1, ii2, ii3, ii4, ii5, ii6, ii7, it1, it2, it3, it4, it5, it6, it7, it8, it9, it10, it11, it12, it13, r_add, r_sub, r_mul, r_div, r_mod, r_pow, r_shl, r_shr, r_and, r_or, r_xor, r_neg, r_inv, r_lt, r_le, r_gt, r_ge, r_eqI, r_neI, r_eqS, r_neS, r_inS, r_niS, b_int, b_intB, b_abs, b_lenS, r_addS, r_isN, r_eqB, r_neB, List.getElem?_cons_zero, List.getElem?_cons_succ, List.set_cons_zero, List.set_cons_succ, List.map_cons, List.map_nil, List.length_cons, List.length_nil, Nat.reduceAdd, Nat.reduceSub, List.replicate_succ, List.replicate_zero, List.cons_append, List.nil_append, List.append_nil, Bool.not_true, Bool.not_false, if_true, if_false, ite_true, ite_false, Bool.false_eq_true, Bool.true_eq_false, reduceIte]
  refine ⟨.inl ⟨rfl, _, .inl (.inl h4)⟩, ?_⟩
  rw [e_lamc]
  refine ⟨tabs_ext t3 x4, fun H5 x5 t5 => heard_read (n := n - 1) hl (by omega) (fun E H' Q' x hr => ct_kw rfl hr) fun q2 H6 x6 hq2 => ?_⟩
  have x36 : LamX.ExtN H3 H6 := (x4.toN.trans x5).trans x6.toN
  have P6 := P3.extN x36
  have hq1' := hq1.extN x36
  have t6 := tabs_ext t5 x6
  have h6 : H6 L = some (.lst [.ref q1]) := x6.get (x5 _ _ h4 fun _ z => by cases z)
  refine ⟨L, _, _, rfl, rfl, h6, (by decide : 1 < sizeLine), ?_⟩
  -- the list changes; all else stays
  have xm : ∀ a o, a ≠ L → H6 a = some o → upd H6 L (.lst ([.ref q1] ++ [.ref q2])) a = some o := fun a o n e => by rw [upd_ne n]; exact e
  have nt : ∀ a xs, H6 a = some (.tup xs) → a ≠ L := fun a xs e z => by rw [z, h6] at e; cases e
  have fm : ∀ q, Fnd K H6 t q → Fnd K (upd H6 L (.lst ([.ref q1] ++ [.ref q2]))) t q := fun q hq => by
    obtain ⟨xs, hx⟩ := hq.tup
    have n1 := nt q xs hx
    unfold Fnd at hq ⊢
    cases e : fbK t with
    | some k => rw [e] at hq; exact xm q _ n1 hq
    | none =>
      rw [e] at hq
      obtain ⟨M, k1, dx, k2⟩ := hq
      exact ⟨M, xm q _ n1 k1, dx, xm M _ (fun z => by rw [z, h6] at k2; cases k2) k2⟩
  have dm : DueT (upd H6 L (.lst ([.ref q1] ++ [.ref q2]))) t P := by
    obtain ⟨xs, hx⟩ := P6.tup
    have n1 := nt P xs hx
    unfold DueT at P6 ⊢
    cases e : fbK t with
    | some k => rw [e] at P6; exact xm P _ n1 P6
    | none => rw [e] at P6; exact xm P _ n1 P6
  have f1 := fm q1 hq1'
  have f2 := fm q2 hq2
  have t7 : LamX.Tabs (hd.pg.lt K) (upd H6 L (.lst ([.ref q1] ++ [.ref q2]))) := tabs_putL h6 t6
  have h7 : upd H6 L (.lst ([.ref q1] ++ [.ref q2])) L = some (.lst [.ref q1, .ref q2]) := upd_same
  have x07 : ∀ a o, H a = some o → (∀ ps, o ≠ .tbl ps) → upd H6 L (.lst ([.ref q1] ++ [.ref q2])) a = some o := fun a o e k => xm a o (e4 a o (x03 a o e k)) (x36 a o (x03 a o e k) k)
  generalize upd H6 L (.lst ([.ref q1] ++ [.ref q2])) = H7 at f1 f2 dm t7 h7 x07 ⊢
  try simp only [e_k, e_v, e_g, e_bop, e_uop, e_not, e_and, e_or, e_ite, e_cmp, e_cmp2, e_lst, e_tup, e_call, e_mk, e_bi, e_isi, e_meth, e_bm, e_icall, e_ostr, e_att, e_ix, e_sl, e_isiM, e_methk, e_smeth, e_cmeth, e_mkv, e_mkk, kw_nil, e_oeq, e_eatt, e_eisi, t_v, t_isi, t_call, t_meth, t_bop, t_bi, t_att, t_not, t_and, t_or, t_cmp, t_cmp2, trQ_bl, blQ_bl, t_methk, t_smeth, t_oeq, t_eisi, t_ix, t_icall, a_nil', a_cons, s_nil, s_cons, s_set, s_setLc, s_par, s_expr, s_ret, s_retN, s_if, s_never, s_pass, s_brk, s_cont, s_par3, s_raise, g_v', g_tup, g_sub, g_att, gs_nil, gs_cons, gs_tup, i_L, i_T, i_S, i_R1, i_ES, i_E, i_Z, p_nil, p_pair, o_nil, o_k, o_v, o_bop, o_uop, o_bi, o_ix, oQ_int, x_K, x_w, x_fn, x_gv, x_tabs, x_mth, x_prp, x_fld, x_isi, x_kwo, x_xf, x_exm, x_eis, x_lt, x_lfn, x_smt, x_cmt, y_cmt, y_K, y_w, y_fn, y_gv, y_tabs, y_mth, y_prp, y_fld, y_isi, y_kwo, y_xf, y_exm, y_eis, y_smt, isi_int, isi_str, isi_bl, isi_non, ii1, ii2, ii3, ii4, ii5, ii6, ii7, it1, it2, it3, it4, it5, it6, it7, it8, it9, it10, it11, it12, it13, r_add, r_sub, r_mul, r_div, r_mod, r_pow, r_shl, r_shr, r_and, r_or, r_xor, r_neg, r_inv, r_lt, r_le, r_gt, r_ge, r_eqI, r_neI, r_eqS, r_neS, r_inS, r_niS, b_int, b_intB, b_abs, b_lenS, r_addS, r_isN, r_eqB, r_neB, List.getElem?_cons_zero, List.getElem?_cons_succ, List.set_cons_zero, List.set_cons_succ, List.map_cons, List.map_nil, List.length_cons, List.length_nil, Nat.reduceAdd, Nat.reduceSub, List.replicate_succ, List.replicate_zero, List.cons_append, List.nil_append, List.append_nil, Bool.not_true, Bool.not_false, if_true, if_false, ite_true, ite_false, Bool.false_eq_true, Bool.true_eq_false, reduceIte]
  rw [s_for, i_L, e_v]
  simp only [List.getElem?_cons_zero, List.getElem?_cons_succ, List.set_cons_zero, List.set_cons_succ, List.map_cons, List.map_nil, List.length_cons, List.length_nil, Nat.reduceAdd, Nat.reduceSub, List.replicate_succ, List.replicate_zero, List.cons_append, List.nil_append, List.append_nil, Bool.not_true, Bool.not_false, if_true, if_false, ite_true, ite_false, Bool.false_eq_true, Bool.true_eq_false, reduceIte]
  refine ⟨_, .inl (.inl h7), ?_⟩
  rw [List.map_cons, List.map_cons, List.map_nil, for_v]
  refine ⟨.inl (.inl h7), ?_⟩
  simp only [g_v', List.getElem?_cons_zero, List.getElem?_cons_succ, List.set_cons_zero, List.set_cons_succ, List.map_cons, List.map_nil, List.length_cons, List.length_nil, Nat.reduceAdd, Nat.reduceSub, List.replicate_succ, List.replicate_zero, List.cons_append, List.nil_append, List.append_nil, Bool.not_true, Bool.not_false, if_true, if_false, ite_true, ite_false, Bool.false_eq_true, Bool.true_eq_false, reduceIte]
  refine found_ok f1 dm (by omega) fun H8 x8 => ?_
  try dsimp only
  rw [for_v]
  refine ⟨.inl (.inl (x8.get h7)), ?_⟩
  simp only [g_v', List.getElem?_cons_zero, List.getElem?_cons_succ, List.set_cons_zero, List.set_cons_succ, List.map_cons, List.map_nil, List.length_cons, List.length_nil, Nat.reduceAdd, Nat.reduceSub, List.replicate_succ, List.replicate_zero, List.cons_append, List.nil_append, List.append_nil, Bool.not_true, Bool.not_false, if_true, if_false, ite_true, ite_false, Bool.false_eq_true, Bool.true_eq_false, reduceIte]
  refine found_ok (f2.extN x8.toN) (dm.extN x8.toN) (by omega) fun H9 x9 => ?_
  try dsimp only
  rw [for_nil]
  refine ⟨.inl (.inl ((x8.trans x9).get h7)), ?_⟩
  try simp only [e_k, e_v, e_g, e_bop, e_uop, e_not, e_and, e_or, e_ite, e_cmp, e_cmp2, e_lst, e_tup, e_call, e_mk, e_bi, e_isi, e_meth, e_bm, e_icall, e_ostr, e_att, e_ix, e_sl, e_isiM, e_methk, e_smeth, e_cmeth, e_mkv, e_mkk, kw_nil, e_oeq, e_eatt, e_eisi, t_v, t_isi, t_call, t_meth, t_bop, t_bi, t_att, t_not, t_and, t_or, t_cmp, t_cmp2, trQ_bl, blQ_bl, t_methk, t_smeth, t_oeq, t_eisi, t_ix, t_icall, a_nil', a_cons, s_nil, s_cons, s_set, s_setLc, s_par, s_expr, s_ret, s_retN, s_if, s_never, s_pass, s_brk, s_cont, s_par3, s_raise, g_v', g_tup, g_sub, g_att, gs_nil, gs_cons, gs_tup, i_L, i_T, i_S, i_R1, i_ES, i_E, i_Z, p_nil, p_pair, o_nil, o_k, o_v, o_bop, o_uop, o_bi, o_ix, oQ_int, x_K, x_w, x_fn, x_gv, x_tabs, x_mth, x_prp, x_fld, x_isi, x_kwo, x_xf, x_exm, x_eis, x_lt, x_lfn, x_smt, x_cmt, y_cmt, y_K, y_w, y_fn, y_gv, y_tabs, y_mth, y_prp, y_fld, y_isi, y_kwo, y_xf, y_exm, y_eis, y_smt, isi_int, isi_str, isi_bl, isi_non, ii1, ii2, ii3, ii4, ii5, ii6, ii7, it1, it2, it3, it4, it5, it6, it7, it8, it9, it10, it11, it12, it13, r_add, r_sub, r_mul, r_div, r_mod, r_pow, r_shl, r_shr, r_and, r_or, r_xor, r_neg, r_inv, r_lt, r_le, r_gt, r_ge, r_eqI, r_neI, r_eqS, r_neS, r_inS, r_niS, b_int, b_intB, b_abs, b_lenS, r_addS, r_isN, r_eqB, r_neB, List.getElem?_cons_zero, List.getElem?_cons_succ, List.set_cons_zero, List.set_cons_succ, List.map_cons, List.map_nil, List.length_cons, List.length_nil, Nat.reduceAdd, Nat.reduceSub, List.replicate_succ, List.replicate_zero, List.cons_append, List.nil_append, List.append_nil, Bool.not_true, Bool.not_false, if_true, if_false, ite_true, ite_false, Bool.false_eq_true, Bool.true_eq_false, reduceIte]
  exact h H9 (fun a o e k => (x8.trans x9).get (x07 a o e k)) (tabs_ext t7 (x8.trans x9))
end U

namespace U
open PySem PySem.Spec PyProof.Rows L2
variable {K : PySem.W.Frag} {w : World} {n : Nat} {H : Hp} {Q : VK} {E : XK} {t : List Nat}
theorem S_app {a b : List Nat} : S a ++ S b = S (a ++ b) := by
  show Str.mk (⟨a⟩ ++ ⟨b⟩ : Array Nat) = _
  congr 1
  simp
theorem cut_S {lo hi : Option Int} : ∃ u : List Nat, cutS (S t) lo hi = S u ∧ u.length ≤ t.length :=
  ⟨_, rfl, by rw [List.length_take, List.length_drop]; show min _ (t.length - _) ≤ _; omega⟩
theorem len_S {u : List Nat} : (S u).length = u.length := rfl
theorem x_slS {lo hi : Option Int} (hl : t.length ≤ 1000) (q : ∀ u : List Nat, u.length ≤ t.length → Q (.str (S u)) H) : rSlU K (.str (S t)) lo hi H Q := by
  obtain ⟨u, e, hu⟩ := cut_S (t := t) (lo := lo) (hi := hi)
  refine ⟨by rw [len_S]; have : (1000 : Nat) ≤ sizeLine := (by decide); omega, ?_⟩
  rw [e]
  exact q u hu
theorem atI_lt {α : Type} {xs : List α} {i : Int} (h0 : 0 ≤ i) (h1 : i < xs.length) : ∃ v ∈ xs, atI xs i = some v := by
  obtain ⟨j, rfl⟩ : ∃ j : Nat, i = j := ⟨i.toNat, by omega⟩
  have hj : j < xs.length := by omega
  exact ⟨xs[j], List.getElem_mem hj, atI_nat (List.getElem?_eq_getElem hj)⟩
theorem c_spoilt {p : Addr} (hP : Bag H p) (hl : t.length ≤ 100) (hn : 2 ≤ n) (h : ∀ u H', u.length ≤ 3 * t.length + 1 → Bag H' p → ExtP p H H' → Q (.str (S u)) H') : run hd.pg K w n s__law_spoilt [.ref p, .str (S t)] H Q E := by
  have hs : (1000 : Nat) ≤ sizeLine := by decide
  refine run_at f__law_spoilt (by omega) rfl ?_
  simp only [d__law_spoilt, b__law_spoilt, L2.start, e_k, e_v, e_g, e_bop, e_uop, e_not, e_and, e_or, e_ite, e_cmp, e_cmp2, e_lst, e_tup, e_call, e_mk, e_bi, e_isi, e_meth, e_bm, e_icall, e_ostr, e_att, e_ix, e_sl, e_isiM, e_methk, e_smeth, e_cmeth, e_mkv, e_mkk, kw_nil, e_oeq, e_eatt, e_eisi, t_v, t_isi, t_call, t_meth, t_bop, t_bi, t_att, t_not, t_and, t_or, t_cmp, t_cmp2, trQ_bl, blQ_bl, t_methk, t_smeth, t_oeq, t_eisi, t_ix, t_icall, a_nil', a_cons, s_nil, s_cons, s_set, s_setLc, s_par, s_expr, s_ret, s_retN, s_if, s_never, s_pass, s_brk, s_cont, s_par3, s_raise, g_v', g_tup, g_sub, g_att, gs_nil, gs_cons, gs_tup, i_L, i_T, i_S, i_R1, i_ES, i_E, i_Z, p_nil, p_pair, o_nil, o_k, o_v, o_bop, o_uop, o_bi, o_ix, oQ_int, x_K, x_w, x_fn, x_gv, x_tabs, x_mth, x_prp, x_fld, x_isi, x_kwo, x_xf, x_exm, x_eis, x_lt, x_lfn, x_smt, x_cmt, y_cmt, y_K, y_w, y_fn, y_gv, y_tabs, y_mth, y_prp, y_fld, y_isi, y_kwo, y_xf, y_exm, y_eis, y_smt, isi_int, isi_str, isi_bl, isi_non, ii1, ii2, ii3, ii4, ii5, ii6, ii7, it1, it2, it3, it4, it5, it6, it7, it8, it9, it10, it11, it12, it13, r_add, r_sub, r_mul, r_div, r_mod, r_pow, r_shl, r_shr, r_and, r_or, r_xor, r_neg, r_inv, r_lt, r_le, r_gt, r_ge, r_eqI, r_neI, r_eqS, r_neS, r_inS, r_niS, b_int, b_intB, b_abs, b_lenS, r_addS, r_isN, r_eqB, r_neB, List.getElem?_cons_zero, List.getElem?_cons_succ, List.set_cons_zero, List.set_cons_succ, List.map_cons, List.map_nil, List.length_cons, List.length_nil, Nat.reduceAdd, Nat.reduceSub, List.replicate_succ, List.replicate_zero, List.cons_append, List.nil_append, List.append_nil, Bool.not_true, Bool.not_false, if_true, if_false, ite_true, ite_false, Bool.false_eq_true, Bool.true_eq_false, reduceIte]
  rw [len_S]
  refine ⟨by omega, ?_⟩
  refine c_draw hP (by omega) ⟨by omega, by omega⟩ fun a H1 a0 a1 b1 x1 => ?_
  refine c_draw b1 (by omega) (by decide) fun i H2 i0 i1 b2 x2 => ?_
  obtain ⟨c, hc, ec⟩ := atI_lt (xs := [114, 119, 120, 45, 115, 83, 116, 84, 32, 48, 82, 88, 10]) i0 i1
  refine ⟨by decide, c, ec, ?_⟩
  refine c_draw b2 (by omega) (by decide) fun y H3 y0 y1 b3 x3 => ?_
  have x := x1.trans (x2.trans x3)
  try simp only [e_k, e_v, e_g, e_bop, e_uop, e_not, e_and, e_or, e_ite, e_cmp, e_cmp2, e_lst, e_tup, e_call, e_mk, e_bi, e_isi, e_meth, e_bm, e_icall, e_ostr, e_att, e_ix, e_sl, e_isiM, e_methk, e_smeth, e_cmeth, e_mkv, e_mkk, kw_nil, e_oeq, e_eatt, e_eisi, t_v, t_isi, t_call, t_meth, t_bop, t_bi, t_att, t_not, t_and, t_or, t_cmp, t_cmp2, trQ_bl, blQ_bl, t_methk, t_smeth, t_oeq, t_eisi, t_ix, t_icall, a_nil', a_cons, s_nil, s_cons, s_set, s_setLc, s_par, s_expr, s_ret, s_retN, s_if, s_never, s_pass, s_brk, s_cont, s_par3, s_raise, g_v', g_tup, g_sub, g_att, gs_nil, gs_cons, gs_tup, i_L, i_T, i_S, i_R1, i_ES, i_E, i_Z, p_nil, p_pair, o_nil, o_k, o_v, o_bop, o_uop, o_bi, o_ix, oQ_int, x_K, x_w, x_fn, x_gv, x_tabs, x_mth, x_prp, x_fld, x_isi, x_kwo, x_xf, x_exm, x_eis, x_lt, x_lfn, x_smt, x_cmt, y_cmt, y_K, y_w, y_fn, y_gv, y_tabs, y_mth, y_prp, y_fld, y_isi, y_kwo, y_xf, y_exm, y_eis, y_smt, isi_int, isi_str, isi_bl, isi_non, ii1, ii2, ii3, ii4, ii5, ii6, ii7, it1, it2, it3, it4, it5, it6, it7, it8, it9, it10, it11, it12, it13, r_add, r_sub, r_mul, r_div, r_mod, r_pow, r_shl, r_shr, r_and, r_or, r_xor, r_neg, r_inv, r_lt, r_le, r_gt, r_ge, r_eqI, r_neI, r_eqS, r_neS, r_inS, r_niS, b_int, b_intB, b_abs, b_lenS, r_addS, r_isN, r_eqB, r_neB, List.getElem?_cons_zero, List.getElem?_cons_succ, List.set_cons_zero, List.set_cons_succ, List.map_cons, List.map_nil, List.length_cons, List.length_nil, Nat.reduceAdd, Nat.reduceSub, List.replicate_succ, List.replicate_zero, List.cons_append, List.nil_append, List.append_nil, Bool.not_true, Bool.not_false, if_true, if_false, ite_true, ite_false, Bool.false_eq_true, Bool.true_eq_false, reduceIte]
  have one : ∀ (u v : List Nat), u.length ≤ t.length → v.length ≤ t.length → (S u).length + (S v).length ≤ sizeLine ∧ Q (.str (S u ++ S v)) H3 := fun u v hu hv =>
    ⟨by rw [len_S, len_S]; omega, by rw [S_app]; exact h _ _ (by rw [List.length_append]; omega) b3 x⟩
  have two : ∀ (u v z : List Nat), u.length ≤ t.length → v.length ≤ t.length + 1 → z.length ≤ t.length → (S u).length + (S v).length ≤ sizeLine ∧ ((S u ++ S v).length + (S z).length ≤ sizeLine ∧ Q (.str (S u ++ S v ++ S z)) H3) := fun u v z hu hv hz =>
    ⟨by rw [len_S, len_S]; omega, by rw [S_app, len_S, len_S, List.length_append]; omega, by rw [S_app, S_app]; exact h _ _ (by rw [List.length_append, List.length_append]; omega) b3 x⟩
  by_cases e0 : y = 0
  · subst e0
    simp only [beq_self_eq_true, e_k, e_v, e_g, e_bop, e_uop, e_not, e_and, e_or, e_ite, e_cmp, e_cmp2, e_lst, e_tup, e_call, e_mk, e_bi, e_isi, e_meth, e_bm, e_icall, e_ostr, e_att, e_ix, e_sl, e_isiM, e_methk, e_smeth, e_cmeth, e_mkv, e_mkk, kw_nil, e_oeq, e_eatt, e_eisi, t_v, t_isi, t_call, t_meth, t_bop, t_bi, t_att, t_not, t_and, t_or, t_cmp, t_cmp2, trQ_bl, blQ_bl, t_methk, t_smeth, t_oeq, t_eisi, t_ix, t_icall, a_nil', a_cons, s_nil, s_cons, s_set, s_setLc, s_par, s_expr, s_ret, s_retN, s_if, s_never, s_pass, s_brk, s_cont, s_par3, s_raise, g_v', g_tup, g_sub, g_att, gs_nil, gs_cons, gs_tup, i_L, i_T, i_S, i_R1, i_ES, i_E, i_Z, p_nil, p_pair, o_nil, o_k, o_v, o_bop, o_uop, o_bi, o_ix, oQ_int, x_K, x_w, x_fn, x_gv, x_tabs, x_mth, x_prp, x_fld, x_isi, x_kwo, x_xf, x_exm, x_eis, x_lt, x_lfn, x_smt, x_cmt, y_cmt, y_K, y_w, y_fn, y_gv, y_tabs, y_mth, y_prp, y_fld, y_isi, y_kwo, y_xf, y_exm, y_eis, y_smt, isi_int, isi_str, isi_bl, isi_non, ii1, ii2, ii3, ii4, ii5, ii6, ii7, it1, it2, it3, it4, it5, it6, it7, it8, it9, it10, it11, it12, it13, r_add, r_sub, r_mul, r_div, r_mod, r_pow, r_shl, r_shr, r_and, r_or, r_xor, r_neg, r_inv, r_lt, r_le, r_gt, r_ge, r_eqI, r_neI, r_eqS, r_neS, r_inS, r_niS, b_int, b_intB, b_abs, b_lenS, r_addS, r_isN, r_eqB, r_neB, List.getElem?_cons_zero, List.getElem?_cons_succ, List.set_cons_zero, List.set_cons_succ, List.map_cons, List.map_nil, List.length_cons, List.length_nil, Nat.reduceAdd, Nat.reduceSub, List.replicate_succ, List.replicate_zero, List.cons_append, List.nil_append, List.append_nil, Bool.not_true, Bool.not_false, if_true, if_false, ite_true, ite_false, Bool.false_eq_true, Bool.true_eq_false, reduceIte]
    refine x_slS (by omega) fun u hu => ?_
    refine x_slS (by omega) fun v hv => one u v hu hv
  rw [beq_eq_false_iff_ne.mpr e0]
  simp only [e_k, e_v, e_g, e_bop, e_uop, e_not, e_and, e_or, e_ite, e_cmp, e_cmp2, e_lst, e_tup, e_call, e_mk, e_bi, e_isi, e_meth, e_bm, e_icall, e_ostr, e_att, e_ix, e_sl, e_isiM, e_methk, e_smeth, e_cmeth, e_mkv, e_mkk, kw_nil, e_oeq, e_eatt, e_eisi, t_v, t_isi, t_call, t_meth, t_bop, t_bi, t_att, t_not, t_and, t_or, t_cmp, t_cmp2, trQ_bl, blQ_bl, t_methk, t_smeth, t_oeq, t_eisi, t_ix, t_icall, a_nil', a_cons, s_nil, s_cons, s_set, s_setLc, s_par, s_expr, s_ret, s_retN, s_if, s_never, s_pass, s_brk, s_cont, s_par3, s_raise, g_v', g_tup, g_sub, g_att, gs_nil, gs_cons, gs_tup, i_L, i_T, i_S, i_R1, i_ES, i_E, i_Z, p_nil, p_pair, o_nil, o_k, o_v, o_bop, o_uop, o_bi, o_ix, oQ_int, x_K, x_w, x_fn, x_gv, x_tabs, x_mth, x_prp, x_fld, x_isi, x_kwo, x_xf, x_exm, x_eis, x_lt, x_lfn, x_smt, x_cmt, y_cmt, y_K, y_w, y_fn, y_gv, y_tabs, y_mth, y_prp, y_fld, y_isi, y_kwo, y_xf, y_exm, y_eis, y_smt, isi_int, isi_str, isi_bl, isi_non, ii1, ii2, ii3, ii4, ii5, ii6, ii7, it1, it2, it3, it4, it5, it6, it7, it8, it9, it10, it11, it12, it13, r_add, r_sub, r_mul, r_div, r_mod, r_pow, r_shl, r_shr, r_and, r_or, r_xor, r_neg, r_inv, r_lt, r_le, r_gt, r_ge, r_eqI, r_neI, r_eqS, r_neS, r_inS, r_niS, b_int, b_intB, b_abs, b_lenS, r_addS, r_isN, r_eqB, r_neB, List.getElem?_cons_zero, List.getElem?_cons_succ, List.set_cons_zero, List.set_cons_succ, List.map_cons, List.map_nil, List.length_cons, List.length_nil, Nat.reduceAdd, Nat.reduceSub, List.replicate_succ, List.replicate_zero, List.cons_append, List.nil_append, List.append_nil, Bool.not_true, Bool.not_false, if_true, if_false, ite_true, ite_false, Bool.false_eq_true, Bool.true_eq_false, reduceIte]
  by_cases e1 : y = 1
  · subst e1
    simp only [beq_self_eq_true, e_k, e_v, e_g, e_bop, e_uop, e_not, e_and, e_or, e_ite, e_cmp, e_cmp2, e_lst, e_tup, e_call, e_mk, e_bi, e_isi, e_meth, e_bm, e_icall, e_ostr, e_att, e_ix, e_sl, e_isiM, e_methk, e_smeth, e_cmeth, e_mkv, e_mkk, kw_nil, e_oeq, e_eatt, e_eisi, t_v, t_isi, t_call, t_meth, t_bop, t_bi, t_att, t_not, t_and, t_or, t_cmp, t_cmp2, trQ_bl, blQ_bl, t_methk, t_smeth, t_oeq, t_eisi, t_ix, t_icall, a_nil', a_cons, s_nil, s_cons, s_set, s_setLc, s_par, s_expr, s_ret, s_retN, s_if, s_never, s_pass, s_brk, s_cont, s_par3, s_raise, g_v', g_tup, g_sub, g_att, gs_nil, gs_cons, gs_tup, i_L, i_T, i_S, i_R1, i_ES, i_E, i_Z, p_nil, p_pair, o_nil, o_k, o_v, o_bop, o_uop, o_bi, o_ix, oQ_int, x_K, x_w, x_fn, x_gv, x_tabs, x_mth, x_prp, x_fld, x_isi, x_kwo, x_xf, x_exm, x_eis, x_lt, x_lfn, x_smt, x_cmt, y_cmt, y_K, y_w, y_fn, y_gv, y_tabs, y_mth, y_prp, y_fld, y_isi, y_kwo, y_xf, y_exm, y_eis, y_smt, isi_int, isi_str, isi_bl, isi_non, ii1, ii2, ii3, ii4, ii5, ii6, ii7, it1, it2, it3, it4, it5, it6, it7, it8, it9, it10, it11, it12, it13, r_add, r_sub, r_mul, r_div, r_mod, r_pow, r_shl, r_shr, r_and, r_or, r_xor, r_neg, r_inv, r_lt, r_le, r_gt, r_ge, r_eqI, r_neI, r_eqS, r_neS, r_inS, r_niS, b_int, b_intB, b_abs, b_lenS, r_addS, r_isN, r_eqB, r_neB, List.getElem?_cons_zero, List.getElem?_cons_succ, List.set_cons_zero, List.set_cons_succ, List.map_cons, List.map_nil, List.length_cons, List.length_nil, Nat.reduceAdd, Nat.reduceSub, List.replicate_succ, List.replicate_zero, List.cons_append, List.nil_append, List.append_nil, Bool.not_true, Bool.not_false, if_true, if_false, ite_true, ite_false, Bool.false_eq_true, Bool.true_eq_false, reduceIte]
    refine x_slS (by omega) fun u hu => ?_
    refine x_slS (by omega) fun v hv => ?_
    refine ⟨(two u v [] hu (by omega) (by simp)).1, ?_⟩
    refine x_slS (by omega) fun z hz => (two u v z hu (by omega) hz).2
  rw [beq_eq_false_iff_ne.mpr e1]
  simp only [e_k, e_v, e_g, e_bop, e_uop, e_not, e_and, e_or, e_ite, e_cmp, e_cmp2, e_lst, e_tup, e_call, e_mk, e_bi, e_isi, e_meth, e_bm, e_icall, e_ostr, e_att, e_ix, e_sl, e_isiM, e_methk, e_smeth, e_cmeth, e_mkv, e_mkk, kw_nil, e_oeq, e_eatt, e_eisi, t_v, t_isi, t_call, t_meth, t_bop, t_bi, t_att, t_not, t_and, t_or, t_cmp, t_cmp2, trQ_bl, blQ_bl, t_methk, t_smeth, t_oeq, t_eisi, t_ix, t_icall, a_nil', a_cons, s_nil, s_cons, s_set, s_setLc, s_par, s_expr, s_ret, s_retN, s_if, s_never, s_pass, s_brk, s_cont, s_par3, s_raise, g_v', g_tup, g_sub, g_att, gs_nil, gs_cons, gs_tup, i_L, i_T, i_S, i_R1, i_ES, i_E, i_Z, p_nil, p_pair, o_nil, o_k, o_v, o_bop, o_uop, o_bi, o_ix, oQ_int, x_K, x_w, x_fn, x_gv, x_tabs, x_mth, x_prp, x_fld, x_isi, x_kwo, x_xf, x_exm, x_eis, x_lt, x_lfn, x_smt, x_cmt, y_cmt, y_K, y_w, y_fn, y_gv, y_tabs, y_mth, y_prp, y_fld, y_isi, y_kwo, y_xf, y_exm, y_eis, y_smt, isi_int, isi_str, isi_bl, isi_non, ii1, ii2, ii3, ii4, ii5, ii6, ii7, it1, it2, it3, it4, it5, it6, it7, it8, it9, it10, it11, it12, it13, r_add, r_sub, r_mul, r_div, r_mod, r_pow, r_shl, r_shr, r_and, r_or, r_xor, r_neg, r_inv, r_lt, r_le, r_gt, r_ge, r_eqI, r_neI, r_eqS, r_neS, r_inS, r_niS, b_int, b_intB, b_abs, b_lenS, r_addS, r_isN, r_eqB, r_neB, List.getElem?_cons_zero, List.getElem?_cons_succ, List.set_cons_zero, List.set_cons_succ, List.map_cons, List.map_nil, List.length_cons, List.length_nil, Nat.reduceAdd, Nat.reduceSub, List.replicate_succ, List.replicate_zero, List.cons_append, List.nil_append, List.append_nil, Bool.not_true, Bool.not_false, if_true, if_false, ite_true, ite_false, Bool.false_eq_true, Bool.true_eq_false, reduceIte]
  by_cases e2 : y = 2
  · subst e2
    simp only [beq_self_eq_true, e_k, e_v, e_g, e_bop, e_uop, e_not, e_and, e_or, e_ite, e_cmp, e_cmp2, e_lst, e_tup, e_call, e_mk, e_bi, e_isi, e_meth, e_bm, e_icall, e_ostr, e_att, e_ix, e_sl, e_isiM, e_methk, e_smeth, e_cmeth, e_mkv, e_mkk, kw_nil, e_oeq, e_eatt, e_eisi, t_v, t_isi, t_call, t_meth, t_bop, t_bi, t_att, t_not, t_and, t_or, t_cmp, t_cmp2, trQ_bl, blQ_bl, t_methk, t_smeth, t_oeq, t_eisi, t_ix, t_icall, a_nil', a_cons, s_nil, s_cons, s_set, s_setLc, s_par, s_expr, s_ret, s_retN, s_if, s_never, s_pass, s_brk, s_cont, s_par3, s_raise, g_v', g_tup, g_sub, g_att, gs_nil, gs_cons, gs_tup, i_L, i_T, i_S, i_R1, i_ES, i_E, i_Z, p_nil, p_pair, o_nil, o_k, o_v, o_bop, o_uop, o_bi, o_ix, oQ_int, x_K, x_w, x_fn, x_gv, x_tabs, x_mth, x_prp, x_fld, x_isi, x_kwo, x_xf, x_exm, x_eis, x_lt, x_lfn, x_smt, x_cmt, y_cmt, y_K, y_w, y_fn, y_gv, y_tabs, y_mth, y_prp, y_fld, y_isi, y_kwo, y_xf, y_exm, y_eis, y_smt, isi_int, isi_str, isi_bl, isi_non, ii1, ii2, ii3, ii4, ii5, ii6, ii7, it1, it2, it3, it4, it5, it6, it7, it8, it9, it10, it11, it12, it13, r_add, r_sub, r_mul, r_div, r_mod, r_pow, r_shl, r_shr, r_and, r_or, r_xor, r_neg, r_inv, r_lt, r_le, r_gt, r_ge, r_eqI, r_neI, r_eqS, r_neS, r_inS, r_niS, b_int, b_intB, b_abs, b_lenS, r_addS, r_isN, r_eqB, r_neB, List.getElem?_cons_zero, List.getElem?_cons_succ, List.set_cons_zero, List.set_cons_succ, List.map_cons, List.map_nil, List.length_cons, List.length_nil, Nat.reduceAdd, Nat.reduceSub, List.replicate_succ, List.replicate_zero, List.cons_append, List.nil_append, List.append_nil, Bool.not_true, Bool.not_false, if_true, if_false, ite_true, ite_false, Bool.false_eq_true, Bool.true_eq_false, reduceIte]
    refine x_slS (by omega) fun u hu => ?_
    refine ⟨(two u [c] [] hu (by simp) (by simp)).1, ?_⟩
    refine x_slS (by omega) fun z hz => (two u [c] z hu (by simp) hz).2
  rw [beq_eq_false_iff_ne.mpr e2]
  simp only [e_k, e_v, e_g, e_bop, e_uop, e_not, e_and, e_or, e_ite, e_cmp, e_cmp2, e_lst, e_tup, e_call, e_mk, e_bi, e_isi, e_meth, e_bm, e_icall, e_ostr, e_att, e_ix, e_sl, e_isiM, e_methk, e_smeth, e_cmeth, e_mkv, e_mkk, kw_nil, e_oeq, e_eatt, e_eisi, t_v, t_isi, t_call, t_meth, t_bop, t_bi, t_att, t_not, t_and, t_or, t_cmp, t_cmp2, trQ_bl, blQ_bl, t_methk, t_smeth, t_oeq, t_eisi, t_ix, t_icall, a_nil', a_cons, s_nil, s_cons, s_set, s_setLc, s_par, s_expr, s_ret, s_retN, s_if, s_never, s_pass, s_brk, s_cont, s_par3, s_raise, g_v', g_tup, g_sub, g_att, gs_nil, gs_cons, gs_tup, i_L, i_T, i_S, i_R1, i_ES, i_E, i_Z, p_nil, p_pair, o_nil, o_k, o_v, o_bop, o_uop, o_bi, o_ix, oQ_int, x_K, x_w, x_fn, x_gv, x_tabs, x_mth, x_prp, x_fld, x_isi, x_kwo, x_xf, x_exm, x_eis, x_lt, x_lfn, x_smt, x_cmt, y_cmt, y_K, y_w, y_fn, y_gv, y_tabs, y_mth, y_prp, y_fld, y_isi, y_kwo, y_xf, y_exm, y_eis, y_smt, isi_int, isi_str, isi_bl, isi_non, ii1, ii2, ii3, ii4, ii5, ii6, ii7, it1, it2, it3, it4, it5, it6, it7, it8, it9, it10, it11, it12, it13, r_add, r_sub, r_mul, r_div, r_mod, r_pow, r_shl, r_shr, r_and, r_or, r_xor, r_neg, r_inv, r_lt, r_le, r_gt, r_ge, r_eqI, r_neI, r_eqS, r_neS, r_inS, r_niS, b_int, b_intB, b_abs, b_lenS, r_addS, r_isN, r_eqB, r_neB, List.getElem?_cons_zero, List.getElem?_cons_succ, List.set_cons_zero, List.set_cons_succ, List.map_cons, List.map_nil, List.length_cons, List.length_nil, Nat.reduceAdd, Nat.reduceSub, List.replicate_succ, List.replicate_zero, List.cons_append, List.nil_append, List.append_nil, Bool.not_true, Bool.not_false, if_true, if_false, ite_true, ite_false, Bool.false_eq_true, Bool.true_eq_false, reduceIte]
  refine x_slS (by omega) fun u hu => ?_
  refine ⟨(two u [c] [] hu (by simp) (by simp)).1, ?_⟩
  refine x_slS (by omega) fun z hz => (two u [c] z hu (by simp) hz).2
end U

namespace U
open PySem PySem.Spec PyProof.Rows L2
variable {K : PySem.W.Frag} {w : World} {n : Nat} {H : Hp} {Q : VK} {E : XK} {t : List Nat}
def forB : I → I
  | .for_ _ _ b => b
  | i => i
def nthI : Nat → I → I
  | 0, .cons a _ => a
  | k + 1, .cons _ b => nthI k b
  | _, i => i
theorem Bag.ne {p q : Addr} {o : HO} (b : Bag H p) (h : H q = some o) (n : ∀ kvs, o ≠ .dK kvs) : q ≠ p := fun e => by
  obtain ⟨l, cs, a, r, s, b⟩ := b
  have := b.here
  rw [← e, h] at this
  cases this
  exact n _ rfl
theorem let_at : ∀ i : Nat, i < 9 → ∃ c, atI [114, 119, 120] ((i : Int) - (i : Int) / 3 * 3) = some c := by
  intro i hi
  have : i = 0 ∨ i = 1 ∨ i = 2 ∨ i = 3 ∨ i = 4 ∨ i = 5 ∨ i = 6 ∨ i = 7 ∨ i = 8 := by omega
  rcases this with rfl | rfl | rfl | rfl | rfl | rfl | rfl | rfl | rfl <;> exact ⟨_, rfl⟩
/-- what stands ahead of a turn -/
structure Ahead (K : PySem.W.Frag) (H : Hp) (p : Addr) : Prop where
  bag : Bag H p
  tabs : LamX.Tabs (hd.pg.lt K) H
theorem Ahead.ext {H' : Hp} {p : Addr} (a : Ahead K H p) (x : Ext H H') : Ahead K H' p := ⟨a.bag.ext x, tabs_ext a.tabs x⟩
theorem Ahead.put {H' : Hp} {p : Addr} (a : Ahead K H p) (b : Bag H' p) (x : ExtP p H H') : Ahead K H' p := ⟨b, a.bag.tabs a.tabs x⟩
theorem right_ok {p : Addr} (a : Ahead K H p) (hl : t.length ≤ 1000) (hn : 5 ≤ n) (h : ∀ H', Ahead K H' p → Q (.bl true) H') : run hd.pg K w n s__law_right [.str (S t)] H Q E :=
  c_right hl a.tabs hn fun H' x t' => h H' ⟨a.bag.extN x, t'⟩
theorem made_loop {a p : Addr} {v2 v5 v6 : Option V} {W : WX} {D : Ends} (hn : 2 ≤ n) : ∀ (l : List Nat) (t : List Nat) (v4 : Option V) (H : Hp), (∀ i ∈ l, i < 9) → t.length + l.length ≤ 9 → Ahead K H p →
    (∀ u H' v4, u.length ≤ 9 → Ahead K H' p → D.nx [some (.ref a), some (.ref p), v2, some (.str (S u)), v4, v5, v6] H') →
    forGo (fun _ => True) (rd (hd.pg.ctx K w (run hd.pg K w n)) (.v 4) W).g (rd (hd.pg.ctx K w (run hd.pg K w n)) (.v 4) W).gs (rd (hd.pg.ctx K w (run hd.pg K w n)) (forB (nthI 1 (forB (nthI 1 b_law)))) W).s D (l.map fun i => .v (.int (i : Nat))) [some (.ref a), some (.ref p), v2, some (.str (S t)), v4, v5, v6] H
  | [], t, v4, H, _, hl, hA, h => ⟨trivial, h t H v4 (by simpa using hl) hA⟩
  | i :: l, t, v4, H, hi, hl, hA, h => by
    have hs : (1000 : Nat) ≤ sizeLine := by decide
    have ih := fun t v4 H => @made_loop a p v2 v5 v6 W D hn l t v4 H
    rw [List.map_cons, for_v]
    simp only [forB, nthI, b_law] at ih ⊢
    refine ⟨trivial, ?_⟩
    rw [List.length_cons] at hl
    obtain ⟨c, hc⟩ := let_at i (hi i (List.mem_cons_self ..))
    simp only [e_k, e_v, e_g, e_bop, e_uop, e_not, e_and, e_or, e_ite, e_cmp, e_cmp2, e_lst, e_tup, e_call, e_mk, e_bi, e_isi, e_meth, e_bm, e_icall, e_ostr, e_att, e_ix, e_sl, e_isiM, e_methk, e_smeth, e_cmeth, e_mkv, e_mkk, kw_nil, e_oeq, e_eatt, e_eisi, t_v, t_isi, t_call, t_meth, t_bop, t_bi, t_att, t_not, t_and, t_or, t_cmp, t_cmp2, trQ_bl, blQ_bl, t_methk, t_smeth, t_oeq, t_eisi, t_ix, t_icall, a_nil', a_cons, s_nil, s_cons, s_set, s_setLc, s_par, s_expr, s_ret, s_retN, s_if, s_never, s_pass, s_brk, s_cont, s_par3, s_raise, g_v', g_tup, g_sub, g_att, gs_nil, gs_cons, gs_tup, i_L, i_T, i_S, i_R1, i_ES, i_E, i_Z, p_nil, p_pair, o_nil, o_k, o_v, o_bop, o_uop, o_bi, o_ix, oQ_int, x_K, x_w, x_fn, x_gv, x_tabs, x_mth, x_prp, x_fld, x_isi, x_kwo, x_xf, x_exm, x_eis, x_lt, x_lfn, x_smt, x_cmt, y_cmt, y_K, y_w, y_fn, y_gv, y_tabs, y_mth, y_prp, y_fld, y_isi, y_kwo, y_xf, y_exm, y_eis, y_smt, isi_int, isi_str, isi_bl, isi_non, ii1, ii2, ii3, ii4, ii5, ii6, ii7, it1, it2, it3, it4, it5, it6, it7, it8, it9, it10, it11, it12, it13, r_add, r_sub, r_mul, r_div, r_mod, r_pow, r_shl, r_shr, r_and, r_or, r_xor, r_neg, r_inv, r_lt, r_le, r_gt, r_ge, r_eqI, r_neI, r_eqS, r_neS, r_inS, r_niS, b_int, b_intB, b_abs, b_lenS, r_addS, r_isN, r_eqB, r_neB, List.getElem?_cons_zero, List.getElem?_cons_succ, List.set_cons_zero, List.set_cons_succ, List.map_cons, List.map_nil, List.length_cons, List.length_nil, Nat.reduceAdd, Nat.reduceSub, List.replicate_succ, List.replicate_zero, List.cons_append, List.nil_append, List.append_nil, Bool.not_true, Bool.not_false, if_true, if_false, ite_true, ite_false, Bool.false_eq_true, Bool.true_eq_false, reduceIte]
    refine ⟨.inl ⟨by decide, by decide⟩, .inl (.inl ⟨by have := hi i (List.mem_cons_self ..); omega, by have := hi i (List.mem_cons_self ..); omega⟩), by decide, c, hc, by decide, fun L hL => ?_⟩
    have x1 := Ext.new (o := .lst [.str (S [45]), .str (S [c])]) hL
    have h1 : upd H L (.lst [.str (S [45]), .str (S [c])]) L = some (.lst [.str (S [45]), .str (S [c])]) := upd_same
    generalize upd H L (.lst [.str (S [45]), .str (S [c])]) = H1 at x1 h1 ⊢
    have A1 := hA.ext x1
    refine c_draw A1.bag (by omega) (by decide) fun j H2 j0 j1 b2 x2 => ?_
    have A2 := A1.put b2 x2
    have h2 := x2.get (A1.bag.ne h1 fun _ z => by cases z) h1
    obtain ⟨v, hv, ev⟩ := atI_lt (xs := [V.str (S [45]), V.str (S [c])]) j0 (by simpa using j1)
    refine x_ixL (.inl (.inl h2)) ev ?_
    have go : ∀ d, (S t).length + (S [d]).length ≤ sizeLine ∧ forGo (fun _ => True) _ _ _ D (l.map fun i => .v (.int (i : Nat))) [some (.ref a), some (.ref p), v2, some (.str (S t ++ S [d])), some (.int i), v5, v6] H2 := fun d => by
      rw [S_app]
      exact ⟨by rw [len_S, len_S]; simp; omega, ih (t ++ [d]) _ H2 (fun j hj => hi j (List.mem_cons_of_mem _ hj)) (by simp; omega) A2 h⟩
    simp only [List.mem_cons, List.not_mem_nil, or_false] at hv
    rcases hv with rfl | rfl
    · exact go 45
    · exact go c
theorem spoilt_loop {a p : Addr} {v2 v4 v6 : Option V} {W : WX} {D : Ends} (hn : 5 ≤ n) : ∀ (l : List It1) (t : List Nat) (v5 : Option V) (H : Hp), (∀ i ∈ l, ∃ v, i = .v v) → t.length ≤ 100 → (l.length = 2 ∧ t.length ≤ 9 ∨ l.length = 1 ∧ t.length ≤ 28 ∨ l.length = 0) → Ahead K H p → D.rt = Q →
    (∀ H' v3 v5, Ahead K H' p → D.nx [some (.ref a), some (.ref p), v2, v3, v4, v5, v6] H') →
    forGo (fun _ => True) (rd (hd.pg.ctx K w (run hd.pg K w n)) (.v 5) W).g (rd (hd.pg.ctx K w (run hd.pg K w n)) (.v 5) W).gs (rd (hd.pg.ctx K w (run hd.pg K w n)) (forB (nthI 3 (forB (nthI 1 b_law)))) W).s D l [some (.ref a), some (.ref p), v2, some (.str (S t)), v4, v5, v6] H
  | [], t, v5, H, _, _, _, hA, _, h => ⟨trivial, h H _ v5 hA⟩
  | i :: l, t, v5, H, hi, hl, hl2, hA, hQ, h => by
    have ih := fun t v5 H => @spoilt_loop a p v2 v4 v6 W D hn l t v5 H
    obtain ⟨v, rfl⟩ := hi i (List.mem_cons_self ..)
    rw [for_v]
    simp only [forB, nthI, b_law] at ih ⊢
    refine ⟨trivial, ?_⟩
    rw [List.length_cons] at hl2
    simp only [e_k, e_v, e_g, e_bop, e_uop, e_not, e_and, e_or, e_ite, e_cmp, e_cmp2, e_lst, e_tup, e_call, e_mk, e_bi, e_isi, e_meth, e_bm, e_icall, e_ostr, e_att, e_ix, e_sl, e_isiM, e_methk, e_smeth, e_cmeth, e_mkv, e_mkk, kw_nil, e_oeq, e_eatt, e_eisi, t_v, t_isi, t_call, t_meth, t_bop, t_bi, t_att, t_not, t_and, t_or, t_cmp, t_cmp2, trQ_bl, blQ_bl, t_methk, t_smeth, t_oeq, t_eisi, t_ix, t_icall, a_nil', a_cons, s_nil, s_cons, s_set, s_setLc, s_par, s_expr, s_ret, s_retN, s_if, s_never, s_pass, s_brk, s_cont, s_par3, s_raise, g_v', g_tup, g_sub, g_att, gs_nil, gs_cons, gs_tup, i_L, i_T, i_S, i_R1, i_ES, i_E, i_Z, p_nil, p_pair, o_nil, o_k, o_v, o_bop, o_uop, o_bi, o_ix, oQ_int, x_K, x_w, x_fn, x_gv, x_tabs, x_mth, x_prp, x_fld, x_isi, x_kwo, x_xf, x_exm, x_eis, x_lt, x_lfn, x_smt, x_cmt, y_cmt, y_K, y_w, y_fn, y_gv, y_tabs, y_mth, y_prp, y_fld, y_isi, y_kwo, y_xf, y_exm, y_eis, y_smt, isi_int, isi_str, isi_bl, isi_non, ii1, ii2, ii3, ii4, ii5, ii6, ii7, it1, it2, it3, it4, it5, it6, it7, it8, it9, it10, it11, it12, it13, r_add, r_sub, r_mul, r_div, r_mod, r_pow, r_shl, r_shr, r_and, r_or, r_xor, r_neg, r_inv, r_lt, r_le, r_gt, r_ge, r_eqI, r_neI, r_eqS, r_neS, r_inS, r_niS, b_int, b_intB, b_abs, b_lenS, r_addS, r_isN, r_eqB, r_neB, List.getElem?_cons_zero, List.getElem?_cons_succ, List.set_cons_zero, List.set_cons_succ, List.map_cons, List.map_nil, List.length_cons, List.length_nil, Nat.reduceAdd, Nat.reduceSub, List.replicate_succ, List.replicate_zero, List.cons_append, List.nil_append, List.append_nil, Bool.not_true, Bool.not_false, if_true, if_false, ite_true, ite_false, Bool.false_eq_true, Bool.true_eq_false, reduceIte]
    refine c_spoilt hA.bag hl (by omega) fun u H1 hu b1 x1 => ?_
    have A1 := hA.put b1 x1
    try simp only [e_k, e_v, e_g, e_bop, e_uop, e_not, e_and, e_or, e_ite, e_cmp, e_cmp2, e_lst, e_tup, e_call, e_mk, e_bi, e_isi, e_meth, e_bm, e_icall, e_ostr, e_att, e_ix, e_sl, e_isiM, e_methk, e_smeth, e_cmeth, e_mkv, e_mkk, kw_nil, e_oeq, e_eatt, e_eisi, t_v, t_isi, t_call, t_meth, t_bop, t_bi, t_att, t_not, t_and, t_or, t_cmp, t_cmp2, trQ_bl, blQ_bl, t_methk, t_smeth, t_oeq, t_eisi, t_ix, t_icall, a_nil', a_cons, s_nil, s_cons, s_set, s_setLc, s_par, s_expr, s_ret, s_retN, s_if, s_never, s_pass, s_brk, s_cont, s_par3, s_raise, g_v', g_tup, g_sub, g_att, gs_nil, gs_cons, gs_tup, i_L, i_T, i_S, i_R1, i_ES, i_E, i_Z, p_nil, p_pair, o_nil, o_k, o_v, o_bop, o_uop, o_bi, o_ix, oQ_int, x_K, x_w, x_fn, x_gv, x_tabs, x_mth, x_prp, x_fld, x_isi, x_kwo, x_xf, x_exm, x_eis, x_lt, x_lfn, x_smt, x_cmt, y_cmt, y_K, y_w, y_fn, y_gv, y_tabs, y_mth, y_prp, y_fld, y_isi, y_kwo, y_xf, y_exm, y_eis, y_smt, isi_int, isi_str, isi_bl, isi_non, ii1, ii2, ii3, ii4, ii5, ii6, ii7, it1, it2, it3, it4, it5, it6, it7, it8, it9, it10, it11, it12, it13, r_add, r_sub, r_mul, r_div, r_mod, r_pow, r_shl, r_shr, r_and, r_or, r_xor, r_neg, r_inv, r_lt, r_le, r_gt, r_ge, r_eqI, r_neI, r_eqS, r_neS, r_inS, r_niS, b_int, b_intB, b_abs, b_lenS, r_addS, r_isN, r_eqB, r_neB, List.getElem?_cons_zero, List.getElem?_cons_succ, List.set_cons_zero, List.set_cons_succ, List.map_cons, List.map_nil, List.length_cons, List.length_nil, Nat.reduceAdd, Nat.reduceSub, List.replicate_succ, List.replicate_zero, List.cons_append, List.nil_append, List.append_nil, Bool.not_true, Bool.not_false, if_true, if_false, ite_true, ite_false, Bool.false_eq_true, Bool.true_eq_false, reduceIte]
    refine right_ok A1 (by omega) (by omega) fun H2 A2 => ?_
    try simp only [e_k, e_v, e_g, e_bop, e_uop, e_not, e_and, e_or, e_ite, e_cmp, e_cmp2, e_lst, e_tup, e_call, e_mk, e_bi, e_isi, e_meth, e_bm, e_icall, e_ostr, e_att, e_ix, e_sl, e_isiM, e_methk, e_smeth, e_cmeth, e_mkv, e_mkk, kw_nil, e_oeq, e_eatt, e_eisi, t_v, t_isi, t_call, t_meth, t_bop, t_bi, t_att, t_not, t_and, t_or, t_cmp, t_cmp2, trQ_bl, blQ_bl, t_methk, t_smeth, t_oeq, t_eisi, t_ix, t_icall, a_nil', a_cons, s_nil, s_cons, s_set, s_setLc, s_par, s_expr, s_ret, s_retN, s_if, s_never, s_pass, s_brk, s_cont, s_par3, s_raise, g_v', g_tup, g_sub, g_att, gs_nil, gs_cons, gs_tup, i_L, i_T, i_S, i_R1, i_ES, i_E, i_Z, p_nil, p_pair, o_nil, o_k, o_v, o_bop, o_uop, o_bi, o_ix, oQ_int, x_K, x_w, x_fn, x_gv, x_tabs, x_mth, x_prp, x_fld, x_isi, x_kwo, x_xf, x_exm, x_eis, x_lt, x_lfn, x_smt, x_cmt, y_cmt, y_K, y_w, y_fn, y_gv, y_tabs, y_mth, y_prp, y_fld, y_isi, y_kwo, y_xf, y_exm, y_eis, y_smt, isi_int, isi_str, isi_bl, isi_non, ii1, ii2, ii3, ii4, ii5, ii6, ii7, it1, it2, it3, it4, it5, it6, it7, it8, it9, it10, it11, it12, it13, r_add, r_sub, r_mul, r_div, r_mod, r_pow, r_shl, r_shr, r_and, r_or, r_xor, r_neg, r_inv, r_lt, r_le, r_gt, r_ge, r_eqI, r_neI, r_eqS, r_neS, r_inS, r_niS, b_int, b_intB, b_abs, b_lenS, r_addS, r_isN, r_eqB, r_neB, List.getElem?_cons_zero, List.getElem?_cons_succ, List.set_cons_zero, List.set_cons_succ, List.map_cons, List.map_nil, List.length_cons, List.length_nil, Nat.reduceAdd, Nat.reduceSub, List.replicate_succ, List.replicate_zero, List.cons_append, List.nil_append, List.append_nil, Bool.not_true, Bool.not_false, if_true, if_false, ite_true, ite_false, Bool.false_eq_true, Bool.true_eq_false, reduceIte]
    exact ih u _ H2 (fun j hj => hi j (List.mem_cons_of_mem _ hj)) (by omega) (by omega) A2 hQ h
/-- what is no text -/
def NoStr (H : Hp) : V → Prop
  | .non | .bl _ | .int _ => True
  | .ref p => ∃ o t, H p = some o ∧ tyHO o = some t ∧ [CR.ty "str"].any (isiT t) = false ∧ (∀ ps, o ≠ .tbl ps)
  | _ => False
theorem NoStr.extN {H' : Hp} {v : V} (h : NoStr H v) (x : LamX.ExtN H H') : NoStr H' v := by
  cases v <;> first | exact h | exact h.elim fun o h => h.elim fun t h => ⟨o, t, x _ _ h.1 h.2.2.2, h.2⟩
theorem c_read_no {v : V} (hn : 1 ≤ n) (hv : NoStr H v) (h : ∀ d H', Ext H H' → H' d = some (.xd [(s_word, .int 0), (s_line, .int 0)]) → E (.ref (He.ga K s_BadText)) (some d) H') : run hd.pg K w n s_Mode_read [.ref (He.ga K s_Mode), v] H Q E := by
  refine run_at f_Mode_read hn rfl ?_
  simp only [d_Mode_read, b_Mode_read, L2.start]
  rw [s_cons, s_if]
  have go : ∃ fs, hd.pg.xf s_BadText = some fs ∧ 2 = fs.length ∧ ∀ d, H d = none → E (.ref (He.ga K s_BadText)) (some d) (upd H d (.xd (fs.zip [V.int 0, V.int 0]).reverse)) := ⟨_, xfT, rfl, fun d hd => h d _ (Ext.new hd) upd_same⟩
  cases v with
  | non => simp only [e_k, e_v, e_g, e_bop, e_uop, e_not, e_and, e_or, e_ite, e_cmp, e_cmp2, e_lst, e_tup, e_call, e_mk, e_bi, e_isi, e_meth, e_bm, e_icall, e_ostr, e_att, e_ix, e_sl, e_isiM, e_methk, e_smeth, e_cmeth, e_mkv, e_mkk, kw_nil, e_oeq, e_eatt, e_eisi, t_v, t_isi, t_call, t_meth, t_bop, t_bi, t_att, t_not, t_and, t_or, t_cmp, t_cmp2, trQ_bl, blQ_bl, t_methk, t_smeth, t_oeq, t_eisi, t_ix, t_icall, a_nil', a_cons, s_nil, s_cons, s_set, s_setLc, s_par, s_expr, s_ret, s_retN, s_if, s_never, s_pass, s_brk, s_cont, s_par3, s_raise, g_v', g_tup, g_sub, g_att, gs_nil, gs_cons, gs_tup, i_L, i_T, i_S, i_R1, i_ES, i_E, i_Z, p_nil, p_pair, o_nil, o_k, o_v, o_bop, o_uop, o_bi, o_ix, oQ_int, x_K, x_w, x_fn, x_gv, x_tabs, x_mth, x_prp, x_fld, x_isi, x_kwo, x_xf, x_exm, x_eis, x_lt, x_lfn, x_smt, x_cmt, y_cmt, y_K, y_w, y_fn, y_gv, y_tabs, y_mth, y_prp, y_fld, y_isi, y_kwo, y_xf, y_exm, y_eis, y_smt, isi_int, isi_str, isi_bl, isi_non, ii1, ii2, ii3, ii4, ii5, ii6, ii7, it1, it2, it3, it4, it5, it6, it7, it8, it9, it10, it11, it12, it13, r_add, r_sub, r_mul, r_div, r_mod, r_pow, r_shl, r_shr, r_and, r_or, r_xor, r_neg, r_inv, r_lt, r_le, r_gt, r_ge, r_eqI, r_neI, r_eqS, r_neS, r_inS, r_niS, b_int, b_intB, b_abs, b_lenS, r_addS, r_isN, r_eqB, r_neB, List.getElem?_cons_zero, List.getElem?_cons_succ, List.set_cons_zero, List.set_cons_succ, List.map_cons, List.map_nil, List.length_cons, List.length_nil, Nat.reduceAdd, Nat.reduceSub, List.replicate_succ, List.replicate_zero, List.cons_append, List.nil_append, List.append_nil, Bool.not_true, Bool.not_false, if_true, if_false, ite_true, ite_false, Bool.false_eq_true, Bool.true_eq_false, reduceIte]; exact go
  | bl b => simp only [it16, e_k, e_v, e_g, e_bop, e_uop, e_not, e_and, e_or, e_ite, e_cmp, e_cmp2, e_lst, e_tup, e_call, e_mk, e_bi, e_isi, e_meth, e_bm, e_icall, e_ostr, e_att, e_ix, e_sl, e_isiM, e_methk, e_smeth, e_cmeth, e_mkv, e_mkk, kw_nil, e_oeq, e_eatt, e_eisi, t_v, t_isi, t_call, t_meth, t_bop, t_bi, t_att, t_not, t_and, t_or, t_cmp, t_cmp2, trQ_bl, blQ_bl, t_methk, t_smeth, t_oeq, t_eisi, t_ix, t_icall, a_nil', a_cons, s_nil, s_cons, s_set, s_setLc, s_par, s_expr, s_ret, s_retN, s_if, s_never, s_pass, s_brk, s_cont, s_par3, s_raise, g_v', g_tup, g_sub, g_att, gs_nil, gs_cons, gs_tup, i_L, i_T, i_S, i_R1, i_ES, i_E, i_Z, p_nil, p_pair, o_nil, o_k, o_v, o_bop, o_uop, o_bi, o_ix, oQ_int, x_K, x_w, x_fn, x_gv, x_tabs, x_mth, x_prp, x_fld, x_isi, x_kwo, x_xf, x_exm, x_eis, x_lt, x_lfn, x_smt, x_cmt, y_cmt, y_K, y_w, y_fn, y_gv, y_tabs, y_mth, y_prp, y_fld, y_isi, y_kwo, y_xf, y_exm, y_eis, y_smt, isi_int, isi_str, isi_bl, isi_non, ii1, ii2, ii3, ii4, ii5, ii6, ii7, it1, it2, it3, it4, it5, it6, it7, it8, it9, it10, it11, it12, it13, r_add, r_sub, r_mul, r_div, r_mod, r_pow, r_shl, r_shr, r_and, r_or, r_xor, r_neg, r_inv, r_lt, r_le, r_gt, r_ge, r_eqI, r_neI, r_eqS, r_neS, r_inS, r_niS, b_int, b_intB, b_abs, b_lenS, r_addS, r_isN, r_eqB, r_neB, List.getElem?_cons_zero, List.getElem?_cons_succ, List.set_cons_zero, List.set_cons_succ, List.map_cons, List.map_nil, List.length_cons, List.length_nil, Nat.reduceAdd, Nat.reduceSub, List.replicate_succ, List.replicate_zero, List.cons_append, List.nil_append, List.append_nil, Bool.not_true, Bool.not_false, if_true, if_false, ite_true, ite_false, Bool.false_eq_true, Bool.true_eq_false, reduceIte]; exact go
  | int b => simp only [e_k, e_v, e_g, e_bop, e_uop, e_not, e_and, e_or, e_ite, e_cmp, e_cmp2, e_lst, e_tup, e_call, e_mk, e_bi, e_isi, e_meth, e_bm, e_icall, e_ostr, e_att, e_ix, e_sl, e_isiM, e_methk, e_smeth, e_cmeth, e_mkv, e_mkk, kw_nil, e_oeq, e_eatt, e_eisi, t_v, t_isi, t_call, t_meth, t_bop, t_bi, t_att, t_not, t_and, t_or, t_cmp, t_cmp2, trQ_bl, blQ_bl, t_methk, t_smeth, t_oeq, t_eisi, t_ix, t_icall, a_nil', a_cons, s_nil, s_cons, s_set, s_setLc, s_par, s_expr, s_ret, s_retN, s_if, s_never, s_pass, s_brk, s_cont, s_par3, s_raise, g_v', g_tup, g_sub, g_att, gs_nil, gs_cons, gs_tup, i_L, i_T, i_S, i_R1, i_ES, i_E, i_Z, p_nil, p_pair, o_nil, o_k, o_v, o_bop, o_uop, o_bi, o_ix, oQ_int, x_K, x_w, x_fn, x_gv, x_tabs, x_mth, x_prp, x_fld, x_isi, x_kwo, x_xf, x_exm, x_eis, x_lt, x_lfn, x_smt, x_cmt, y_cmt, y_K, y_w, y_fn, y_gv, y_tabs, y_mth, y_prp, y_fld, y_isi, y_kwo, y_xf, y_exm, y_eis, y_smt, isi_int, isi_str, isi_bl, isi_non, ii1, ii2, ii3, ii4, ii5, ii6, ii7, it1, it2, it3, it4, it5, it6, it7, it8, it9, it10, it11, it12, it13, r_add, r_sub, r_mul, r_div, r_mod, r_pow, r_shl, r_shr, r_and, r_or, r_xor, r_neg, r_inv, r_lt, r_le, r_gt, r_ge, r_eqI, r_neI, r_eqS, r_neS, r_inS, r_niS, b_int, b_intB, b_abs, b_lenS, r_addS, r_isN, r_eqB, r_neB, List.getElem?_cons_zero, List.getElem?_cons_succ, List.set_cons_zero, List.set_cons_succ, List.map_cons, List.map_nil, List.length_cons, List.length_nil, Nat.reduceAdd, Nat.reduceSub, List.replicate_succ, List.replicate_zero, List.cons_append, List.nil_append, List.append_nil, Bool.not_true, Bool.not_false, if_true, if_false, ite_true, ite_false, Bool.false_eq_true, Bool.true_eq_false, reduceIte]; exact go
  | ref p =>
    obtain ⟨o, t, h1, h2, h3, _⟩ := hv
    simp only [e_k, e_v, e_g, e_bop, e_uop, e_not, e_and, e_or, e_ite, e_cmp, e_cmp2, e_lst, e_tup, e_call, e_mk, e_bi, e_isi, e_meth, e_bm, e_icall, e_ostr, e_att, e_ix, e_sl, e_isiM, e_methk, e_smeth, e_cmeth, e_mkv, e_mkk, kw_nil, e_oeq, e_eatt, e_eisi, t_v, t_isi, t_call, t_meth, t_bop, t_bi, t_att, t_not, t_and, t_or, t_cmp, t_cmp2, trQ_bl, blQ_bl, t_methk, t_smeth, t_oeq, t_eisi, t_ix, t_icall, a_nil', a_cons, s_nil, s_cons, s_set, s_setLc, s_par, s_expr, s_ret, s_retN, s_if, s_never, s_pass, s_brk, s_cont, s_par3, s_raise, g_v', g_tup, g_sub, g_att, gs_nil, gs_cons, gs_tup, i_L, i_T, i_S, i_R1, i_ES, i_E, i_Z, p_nil, p_pair, o_nil, o_k, o_v, o_bop, o_uop, o_bi, o_ix, oQ_int, x_K, x_w, x_fn, x_gv, x_tabs, x_mth, x_prp, x_fld, x_isi, x_kwo, x_xf, x_exm, x_eis, x_lt, x_lfn, x_smt, x_cmt, y_cmt, y_K, y_w, y_fn, y_gv, y_tabs, y_mth, y_prp, y_fld, y_isi, y_kwo, y_xf, y_exm, y_eis, y_smt, isi_int, isi_str, isi_bl, isi_non, ii1, ii2, ii3, ii4, ii5, ii6, ii7, it1, it2, it3, it4, it5, it6, it7, it8, it9, it10, it11, it12, it13, r_add, r_sub, r_mul, r_div, r_mod, r_pow, r_shl, r_shr, r_and, r_or, r_xor, r_neg, r_inv, r_lt, r_le, r_gt, r_ge, r_eqI, r_neI, r_eqS, r_neS, r_inS, r_niS, b_int, b_intB, b_abs, b_lenS, r_addS, r_isN, r_eqB, r_neB, List.getElem?_cons_zero, List.getElem?_cons_succ, List.set_cons_zero, List.set_cons_succ, List.map_cons, List.map_nil, List.length_cons, List.length_nil, Nat.reduceAdd, Nat.reduceSub, List.replicate_succ, List.replicate_zero, List.cons_append, List.nil_append, List.append_nil, Bool.not_true, Bool.not_false, if_true, if_false, ite_true, ite_false, Bool.false_eq_true, Bool.true_eq_false, reduceIte]
    refine isi_rd (.inl h1) h2 ?_
    simp only [h3, e_k, e_v, e_g, e_bop, e_uop, e_not, e_and, e_or, e_ite, e_cmp, e_cmp2, e_lst, e_tup, e_call, e_mk, e_bi, e_isi, e_meth, e_bm, e_icall, e_ostr, e_att, e_ix, e_sl, e_isiM, e_methk, e_smeth, e_cmeth, e_mkv, e_mkk, kw_nil, e_oeq, e_eatt, e_eisi, t_v, t_isi, t_call, t_meth, t_bop, t_bi, t_att, t_not, t_and, t_or, t_cmp, t_cmp2, trQ_bl, blQ_bl, t_methk, t_smeth, t_oeq, t_eisi, t_ix, t_icall, a_nil', a_cons, s_nil, s_cons, s_set, s_setLc, s_par, s_expr, s_ret, s_retN, s_if, s_never, s_pass, s_brk, s_cont, s_par3, s_raise, g_v', g_tup, g_sub, g_att, gs_nil, gs_cons, gs_tup, i_L, i_T, i_S, i_R1, i_ES, i_E, i_Z, p_nil, p_pair, o_nil, o_k, o_v, o_bop, o_uop, o_bi, o_ix, oQ_int, x_K, x_w, x_fn, x_gv, x_tabs, x_mth, x_prp, x_fld, x_isi, x_kwo, x_xf, x_exm, x_eis, x_lt, x_lfn, x_smt, x_cmt, y_cmt, y_K, y_w, y_fn, y_gv, y_tabs, y_mth, y_prp, y_fld, y_isi, y_kwo, y_xf, y_exm, y_eis, y_smt, isi_int, isi_str, isi_bl, isi_non, ii1, ii2, ii3, ii4, ii5, ii6, ii7, it1, it2, it3, it4, it5, it6, it7, it8, it9, it10, it11, it12, it13, r_add, r_sub, r_mul, r_div, r_mod, r_pow, r_shl, r_shr, r_and, r_or, r_xor, r_neg, r_inv, r_lt, r_le, r_gt, r_ge, r_eqI, r_neI, r_eqS, r_neS, r_inS, r_niS, b_int, b_intB, b_abs, b_lenS, r_addS, r_isN, r_eqB, r_neB, List.getElem?_cons_zero, List.getElem?_cons_succ, List.set_cons_zero, List.set_cons_succ, List.map_cons, List.map_nil, List.length_cons, List.length_nil, Nat.reduceAdd, Nat.reduceSub, List.replicate_succ, List.replicate_zero, List.cons_append, List.nil_append, List.append_nil, Bool.not_true, Bool.not_false, if_true, if_false, ite_true, ite_false, Bool.false_eq_true, Bool.true_eq_false, reduceIte]
    exact go
  | _ => exact hv.elim
theorem law_turn {a p : Addr} {W : WX} {D : Ends} {v2 v3 v4 v5 v6 : Option V} (hA : Ahead K H p) (hn : 5 ≤ n) (h : ∀ H' v3 v4 v5, Ahead K H' p → D.nx [some (.ref a), some (.ref p), v2, v3, v4, v5, v6] H') :
    (rd (hd.pg.ctx K w (run hd.pg K w n)) (forB (nthI 1 b_law)) W).s D [some (.ref a), some (.ref p), v2, v3, v4, v5, v6] H := by
  have eb : forB (nthI 1 b_law) = .cons (.set (.v 3) (.k (V.str (S [])))) (.cons (.for_ (.v 4) (.itR1 (.k (V.int 9))) (forB (nthI 1 (forB (nthI 1 b_law))))) (.cons (.if_ (.not (.call s__law_right (.cons (.v 3) .nil))) (.cons (.ret (.k (V.bl false))) .nil) .nil) (.cons (.for_ (.v 5) (.itR1 (.k (V.int 2))) (forB (nthI 3 (forB (nthI 1 b_law))))) .nil))) := rfl
  rw [eb]
  have ml := @made_loop K w n a p v2 v5 v6 W
  have sl := @spoilt_loop K w n
  generalize forB (nthI 1 (forB (nthI 1 b_law))) = b1 at ml ⊢
  generalize forB (nthI 3 (forB (nthI 1 b_law))) = b2 at sl ⊢
  rw [s_cons, s_set, e_k]
  simp only [g_v', List.getElem?_cons_zero, List.getElem?_cons_succ, List.set_cons_zero, List.set_cons_succ, List.map_cons, List.map_nil, List.length_cons, List.length_nil, Nat.reduceAdd, Nat.reduceSub, List.replicate_succ, List.replicate_zero, List.cons_append, List.nil_append, List.append_nil, Bool.not_true, Bool.not_false, if_true, if_false, ite_true, ite_false, Bool.false_eq_true, Bool.true_eq_false, reduceIte]
  rw [s_cons, s_for, i_R1, e_k]
  refine ⟨by decide, by decide, ?_⟩
  rw [show Int.toNat 9 = 9 from rfl]
  refine ml (by omega) _ [] _ H (fun i hi => List.mem_range.mp hi) (by decide) hA fun u H1 v4 hu A1 => ?_
  simp only [e_k, e_v, e_g, e_bop, e_uop, e_not, e_and, e_or, e_ite, e_cmp, e_cmp2, e_lst, e_tup, e_call, e_mk, e_bi, e_isi, e_meth, e_bm, e_icall, e_ostr, e_att, e_ix, e_sl, e_isiM, e_methk, e_smeth, e_cmeth, e_mkv, e_mkk, kw_nil, e_oeq, e_eatt, e_eisi, t_v, t_isi, t_call, t_meth, t_bop, t_bi, t_att, t_not, t_and, t_or, t_cmp, t_cmp2, trQ_bl, blQ_bl, t_methk, t_smeth, t_oeq, t_eisi, t_ix, t_icall, a_nil', a_cons, s_nil, s_cons, s_set, s_setLc, s_par, s_expr, s_ret, s_retN, s_if, s_never, s_pass, s_brk, s_cont, s_par3, s_raise, g_v', g_tup, g_sub, g_att, gs_nil, gs_cons, gs_tup, i_L, i_T, i_S, i_R1, i_ES, i_E, i_Z, p_nil, p_pair, o_nil, o_k, o_v, o_bop, o_uop, o_bi, o_ix, oQ_int, x_K, x_w, x_fn, x_gv, x_tabs, x_mth, x_prp, x_fld, x_isi, x_kwo, x_xf, x_exm, x_eis, x_lt, x_lfn, x_smt, x_cmt, y_cmt, y_K, y_w, y_fn, y_gv, y_tabs, y_mth, y_prp, y_fld, y_isi, y_kwo, y_xf, y_exm, y_eis, y_smt, isi_int, isi_str, isi_bl, isi_non, ii1, ii2, ii3, ii4, ii5, ii6, ii7, it1, it2, it3, it4, it5, it6, it7, it8, it9, it10, it11, it12, it13, r_add, r_sub, r_mul, r_div, r_mod, r_pow, r_shl, r_shr, r_and, r_or, r_xor, r_neg, r_inv, r_lt, r_le, r_gt, r_ge, r_eqI, r_neI, r_eqS, r_neS, r_inS, r_niS, b_int, b_intB, b_abs, b_lenS, r_addS, r_isN, r_eqB, r_neB, List.getElem?_cons_zero, List.getElem?_cons_succ, List.set_cons_zero, List.set_cons_succ, List.map_cons, List.map_nil, List.length_cons, List.length_nil, Nat.reduceAdd, Nat.reduceSub, List.replicate_succ, List.replicate_zero, List.cons_append, List.nil_append, List.append_nil, Bool.not_true, Bool.not_false, if_true, if_false, ite_true, ite_false, Bool.false_eq_true, Bool.true_eq_false, reduceIte]
  refine right_ok A1 (by omega) (by omega) fun H2 A2 => ?_
  simp only [e_k, e_v, e_g, e_bop, e_uop, e_not, e_and, e_or, e_ite, e_cmp, e_cmp2, e_lst, e_tup, e_call, e_mk, e_bi, e_isi, e_meth, e_bm, e_icall, e_ostr, e_att, e_ix, e_sl, e_isiM, e_methk, e_smeth, e_cmeth, e_mkv, e_mkk, kw_nil, e_oeq, e_eatt, e_eisi, t_v, t_isi, t_call, t_meth, t_bop, t_bi, t_att, t_not, t_and, t_or, t_cmp, t_cmp2, trQ_bl, blQ_bl, t_methk, t_smeth, t_oeq, t_eisi, t_ix, t_icall, a_nil', a_cons, s_nil, s_cons, s_set, s_setLc, s_par, s_expr, s_ret, s_retN, s_if, s_never, s_pass, s_brk, s_cont, s_par3, s_raise, g_v', g_tup, g_sub, g_att, gs_nil, gs_cons, gs_tup, i_L, i_T, i_S, i_R1, i_ES, i_E, i_Z, p_nil, p_pair, o_nil, o_k, o_v, o_bop, o_uop, o_bi, o_ix, oQ_int, x_K, x_w, x_fn, x_gv, x_tabs, x_mth, x_prp, x_fld, x_isi, x_kwo, x_xf, x_exm, x_eis, x_lt, x_lfn, x_smt, x_cmt, y_cmt, y_K, y_w, y_fn, y_gv, y_tabs, y_mth, y_prp, y_fld, y_isi, y_kwo, y_xf, y_exm, y_eis, y_smt, isi_int, isi_str, isi_bl, isi_non, ii1, ii2, ii3, ii4, ii5, ii6, ii7, it1, it2, it3, it4, it5, it6, it7, it8, it9, it10, it11, it12, it13, r_add, r_sub, r_mul, r_div, r_mod, r_pow, r_shl, r_shr, r_and, r_or, r_xor, r_neg, r_inv, r_lt, r_le, r_gt, r_ge, r_eqI, r_neI, r_eqS, r_neS, r_inS, r_niS, b_int, b_intB, b_abs, b_lenS, r_addS, r_isN, r_eqB, r_neB, List.getElem?_cons_zero, List.getElem?_cons_succ, List.set_cons_zero, List.set_cons_succ, List.map_cons, List.map_nil, List.length_cons, List.length_nil, Nat.reduceAdd, Nat.reduceSub, List.replicate_succ, List.replicate_zero, List.cons_append, List.nil_append, List.append_nil, Bool.not_true, Bool.not_false, if_true, if_false, ite_true, ite_false, Bool.false_eq_true, Bool.true_eq_false, reduceIte]
  rw [s_for, i_R1, e_k]
  refine ⟨by decide, by decide, ?_⟩
  rw [show Int.toNat 2 = 2 from rfl]
  refine sl (Q := D.rt) (by omega) _ u _ H2 (fun i hi => ?_) (by omega) (.inl ⟨by simp, hu⟩) A2 rfl fun H3 v3 v5 A3 => h H3 _ _ _ A3
  obtain ⟨k, _, rfl⟩ := List.mem_map.mp hi
  exact ⟨_, rfl⟩
theorem law_tail {a p : Addr} {W : WX} {D : Ends} {v2 v3 v4 v5 v6 : Option V} (hA : Ahead K H p) (hn : 5 ≤ n) (h : ∀ H', D.rt (.bl true) H') :
    (rd (hd.pg.ctx K w (run hd.pg K w n)) (tailI 2 b_law) W).s D [some (.ref a), some (.ref p), v2, v3, v4, v5, v6] H := by
  simp only [tailI, b_law]
  rw [s_cons, s_set, e_ix]
  simp only [e_k, e_v, e_g, e_bop, e_uop, e_not, e_and, e_or, e_ite, e_cmp, e_cmp2, e_lst, e_tup, e_dic, e_call, e_mk, e_bi, e_isi, e_meth, e_bm, e_icall, e_ostr, e_att, e_ix, e_sl, e_lc, e_isiM, e_methk, e_smeth, e_cmeth, e_mkv, e_mkk, kw_nil, e_oeq, e_eatt, e_eisi, t_v, t_isi, t_call, t_meth, t_bop, t_bi, t_att, t_not, t_and, t_or, t_cmp, t_cmp2, trQ_bl, blQ_bl, t_methk, t_smeth, t_oeq, t_eisi, t_ix, t_icall, a_nil', a_cons, s_nil, s_cons, s_set, s_setLc, s_par, s_expr, s_ret, s_retN, s_if, s_for, s_never, s_pass, s_brk, s_cont, s_par3, s_raise, g_v', g_tup, g_sub, g_att, gs_nil, gs_cons, gs_tup, i_L, i_T, i_S, i_R1, i_ES, i_E, i_Z, p_nil, p_pair, o_nil, o_k, o_v, o_bop, o_uop, o_bi, o_ix, oQ_int, x_K, x_w, x_fn, x_gv, x_tabs, x_mth, x_prp, x_fld, x_isi, x_kwo, x_xf, x_exm, x_eis, x_lt, x_lfn, x_smt, x_cmt, y_cmt, y_K, y_w, y_fn, y_gv, y_tabs, y_mth, y_prp, y_fld, y_isi, y_kwo, y_xf, y_exm, y_eis, y_smt, isi_int, isi_str, isi_bl, isi_non, ii1, ii2, ii3, ii4, ii5, ii6, ii7, it1, it2, it3, it4, it5, it6, it7, it8, it9, it10, it11, it12, it13, r_add, r_sub, r_mul, r_div, r_mod, r_pow, r_shl, r_shr, r_and, r_or, r_xor, r_neg, r_inv, r_lt, r_le, r_gt, r_ge, r_eqI, r_neI, r_eqS, r_neS, r_inS, r_niS, b_int, b_intB, b_abs, b_lenS, r_addS, r_isN, r_eqB, r_neB, List.getElem?_cons_zero, List.getElem?_cons_succ, List.set_cons_zero, List.set_cons_succ, List.map_cons, List.map_nil, List.length_cons, List.length_nil, Nat.reduceAdd, Nat.reduceSub, List.replicate_succ, List.replicate_zero, List.cons_append, List.nil_append, List.append_nil, Bool.not_true, Bool.not_false, if_true, if_false, ite_true, ite_false, Bool.false_eq_true, Bool.true_eq_false, reduceIte]
  refine ⟨by decide, fun p1 h1 => ⟨by decide, fun p2 h2 => ?_⟩⟩
  have n12 : p1 ≠ p2 := ne_of_none upd_same h2
  have x2 := (Ext.refl.upd_of (o := .lst []) h1).upd_of (o := .lst [.str (S [114])]) h2
  have k1 : upd (upd H p1 (.lst [])) p2 (.lst [.str (S [114])]) p1 = some (.lst []) := by rw [upd_ne n12, upd_same]
  have k2 : upd (upd H p1 (.lst [])) p2 (.lst [.str (S [114])]) p2 = some (.lst [.str (S [114])]) := upd_same
  generalize upd (upd H p1 (.lst [])) p2 (.lst [.str (S [114])]) = H2 at x2 k1 k2 ⊢
  refine ⟨p2, 9, [.str (S [114])], rfl, rfl, k2, by decide, by decide, by decide, fun p3 h3 => ?_⟩
  generalize (List.replicate (9 : Int).toNat [V.str (S [114])]).flatten = ys
  refine ⟨by decide, fun p4 h4 => fun p5 h5 => ⟨by decide, fun L hL => ?_⟩⟩
  have x3 := x2.upd_of (o := .lst ys) h3
  have l1 := upd_get (u := .lst ys) k1 h3
  have l3 : upd H2 p3 (.lst ys) p3 = some (.lst ys) := upd_same
  generalize upd H2 p3 (.lst ys) = H3 at x3 l1 l3 h4 h5 hL ⊢
  have x4 := x3.upd_of (o := .tup [V.str (S [114, 119, 120, 114, 119, 120, 114, 119, 120])]) h4
  have m1 := upd_get (u := .tup [V.str (S [114, 119, 120, 114, 119, 120, 114, 119, 120])]) l1 h4
  have m3 := upd_get (u := .tup [V.str (S [114, 119, 120, 114, 119, 120, 114, 119, 120])]) l3 h4
  have m4 : upd H3 p4 (.tup [V.str (S [114, 119, 120, 114, 119, 120, 114, 119, 120])]) p4 = some (.tup [V.str (S [114, 119, 120, 114, 119, 120, 114, 119, 120])]) := upd_same
  generalize upd H3 p4 (.tup [V.str (S [114, 119, 120, 114, 119, 120, 114, 119, 120])]) = H4 at x4 m1 m3 m4 h5 hL ⊢
  have x5 := x4.upd_of (o := .dK []) h5
  have q1 := upd_get (u := .dK []) m1 h5
  have q3 := upd_get (u := .dK []) m3 h5
  have q4 := upd_get (u := .dK []) m4 h5
  have q5 : upd H4 p5 (.dK []) p5 = some (.dK []) := upd_same
  generalize upd H4 p5 (.dK []) = H5 at x5 q1 q3 q4 q5 hL ⊢
  have x6 := x5.upd_of (o := .lst [V.non, V.int 0, V.int 511, V.bl true, V.ref p1, V.ref p3, V.ref p4, V.ref p5]) hL
  have r1 := upd_get (u := .lst [V.non, V.int 0, V.int 511, V.bl true, V.ref p1, V.ref p3, V.ref p4, V.ref p5]) q1 hL
  have r3 := upd_get (u := .lst [V.non, V.int 0, V.int 511, V.bl true, V.ref p1, V.ref p3, V.ref p4, V.ref p5]) q3 hL
  have r4 := upd_get (u := .lst [V.non, V.int 0, V.int 511, V.bl true, V.ref p1, V.ref p3, V.ref p4, V.ref p5]) q4 hL
  have r5 := upd_get (u := .lst [V.non, V.int 0, V.int 511, V.bl true, V.ref p1, V.ref p3, V.ref p4, V.ref p5]) q5 hL
  have r6 : upd H5 L (.lst [V.non, V.int 0, V.int 511, V.bl true, V.ref p1, V.ref p3, V.ref p4, V.ref p5]) L = some (.lst [V.non, V.int 0, V.int 511, V.bl true, V.ref p1, V.ref p3, V.ref p4, V.ref p5]) := upd_same
  generalize upd H5 L (.lst [V.non, V.int 0, V.int 511, V.bl true, V.ref p1, V.ref p3, V.ref p4, V.ref p5]) = H6 at x6 r1 r3 r4 r5 r6 ⊢
  have A6 := hA.ext x6
  have np5 : p5 ≠ p := fun e => by
    obtain ⟨l, cs, a, r, s, b⟩ := A6.bag
    have := b.here
    rw [← e, r5] at this
    cases this
  refine c_draw A6.bag (by omega) (by decide) fun i H7 i0 i1 b7 x7 => ?_
  have A7 := A6.put b7 x7
  obtain ⟨v, hv, ev⟩ := atI_lt (xs := [V.non, V.int 0, V.int 511, V.bl true, V.ref p1, V.ref p3, V.ref p4, V.ref p5]) i0 (by simpa using i1)
  refine x_ixL (.inl (.inl (x7.get (A6.bag.ne r6 fun _ z => by cases z) r6))) ev ?_
  have hs : NoStr H7 v := by
    simp only [List.mem_cons, List.not_mem_nil, or_false] at hv
    rcases hv with rfl | rfl | rfl | rfl | rfl | rfl | rfl | rfl
    · exact trivial
    · exact trivial
    · exact trivial
    · exact trivial
    · exact ⟨_, _, x7.get (A6.bag.ne r1 fun _ z => by cases z) r1, rfl, it18, fun _ z => by cases z⟩
    · exact ⟨_, _, x7.get (A6.bag.ne r3 fun _ z => by cases z) r3, rfl, it18, fun _ z => by cases z⟩
    · exact ⟨_, _, x7.get (A6.bag.ne r4 fun _ z => by cases z) r4, rfl, it17, fun _ z => by cases z⟩
    · exact ⟨_, _, x7.get np5 r5, rfl, by decide +kernel, fun _ z => by cases z⟩
  rw [e_lamc]
  refine ⟨A7.tabs, fun H8 x8 t8 => heard_text (u := .int 0) (v := .int 0) (fun H' E Q x hE => ct_pos rfl (c_read_no (by omega) ((hs.extN x8).extN x.toN) hE)) fun q H9 x9 h9 => ?_⟩
  have A9 : Ahead K H9 p := ⟨(A7.bag.extN x8).ext x9, tabs_ext t8 x9⟩
  refine ⟨by decide, fun q2 hq2 => ?_⟩
  refine c_same (same_tup3 (k := 0) (upd_get h9 hq2) upd_same) (by omega) Ext.refl fun H10 x10 => ?_
  have A10 := A9.ext ((Ext.refl.upd_of hq2).trans x10)
  simp only [e_k, e_v, e_g, e_bop, e_uop, e_not, e_and, e_or, e_ite, e_cmp, e_cmp2, e_lst, e_tup, e_call, e_mk, e_bi, e_isi, e_meth, e_bm, e_icall, e_ostr, e_att, e_ix, e_sl, e_isiM, e_methk, e_smeth, e_cmeth, e_mkv, e_mkk, kw_nil, e_oeq, e_eatt, e_eisi, t_v, t_isi, t_call, t_meth, t_bop, t_bi, t_att, t_not, t_and, t_or, t_cmp, t_cmp2, trQ_bl, blQ_bl, t_methk, t_smeth, t_oeq, t_eisi, t_ix, t_icall, a_nil', a_cons, s_nil, s_cons, s_set, s_setLc, s_par, s_expr, s_ret, s_retN, s_if, s_never, s_pass, s_brk, s_cont, s_par3, s_raise, g_v', g_tup, g_sub, g_att, gs_nil, gs_cons, gs_tup, i_L, i_T, i_S, i_R1, i_ES, i_E, i_Z, p_nil, p_pair, o_nil, o_k, o_v, o_bop, o_uop, o_bi, o_ix, oQ_int, x_K, x_w, x_fn, x_gv, x_tabs, x_mth, x_prp, x_fld, x_isi, x_kwo, x_xf, x_exm, x_eis, x_lt, x_lfn, x_smt, x_cmt, y_cmt, y_K, y_w, y_fn, y_gv, y_tabs, y_mth, y_prp, y_fld, y_isi, y_kwo, y_xf, y_exm, y_eis, y_smt, isi_int, isi_str, isi_bl, isi_non, ii1, ii2, ii3, ii4, ii5, ii6, ii7, it1, it2, it3, it4, it5, it6, it7, it8, it9, it10, it11, it12, it13, r_add, r_sub, r_mul, r_div, r_mod, r_pow, r_shl, r_shr, r_and, r_or, r_xor, r_neg, r_inv, r_lt, r_le, r_gt, r_ge, r_eqI, r_neI, r_eqS, r_neS, r_inS, r_niS, b_int, b_intB, b_abs, b_lenS, r_addS, r_isN, r_eqB, r_neB, List.getElem?_cons_zero, List.getElem?_cons_succ, List.set_cons_zero, List.set_cons_succ, List.map_cons, List.map_nil, List.length_cons, List.length_nil, Nat.reduceAdd, Nat.reduceSub, List.replicate_succ, List.replicate_zero, List.cons_append, List.nil_append, List.append_nil, Bool.not_true, Bool.not_false, if_true, if_false, ite_true, ite_false, Bool.false_eq_true, Bool.true_eq_false, reduceIte]
  refine right_ok (t := []) A10 (by decide) (by omega) fun H11 A11 => ?_
  simp only [e_k, e_v, e_g, e_bop, e_uop, e_not, e_and, e_or, e_ite, e_cmp, e_cmp2, e_lst, e_tup, e_call, e_mk, e_bi, e_isi, e_meth, e_bm, e_icall, e_ostr, e_att, e_ix, e_sl, e_isiM, e_methk, e_smeth, e_cmeth, e_mkv, e_mkk, kw_nil, e_oeq, e_eatt, e_eisi, t_v, t_isi, t_call, t_meth, t_bop, t_bi, t_att, t_not, t_and, t_or, t_cmp, t_cmp2, trQ_bl, blQ_bl, t_methk, t_smeth, t_oeq, t_eisi, t_ix, t_icall, a_nil', a_cons, s_nil, s_cons, s_set, s_setLc, s_par, s_expr, s_ret, s_retN, s_if, s_never, s_pass, s_brk, s_cont, s_par3, s_raise, g_v', g_tup, g_sub, g_att, gs_nil, gs_cons, gs_tup, i_L, i_T, i_S, i_R1, i_ES, i_E, i_Z, p_nil, p_pair, o_nil, o_k, o_v, o_bop, o_uop, o_bi, o_ix, oQ_int, x_K, x_w, x_fn, x_gv, x_tabs, x_mth, x_prp, x_fld, x_isi, x_kwo, x_xf, x_exm, x_eis, x_lt, x_lfn, x_smt, x_cmt, y_cmt, y_K, y_w, y_fn, y_gv, y_tabs, y_mth, y_prp, y_fld, y_isi, y_kwo, y_xf, y_exm, y_eis, y_smt, isi_int, isi_str, isi_bl, isi_non, ii1, ii2, ii3, ii4, ii5, ii6, ii7, it1, it2, it3, it4, it5, it6, it7, it8, it9, it10, it11, it12, it13, r_add, r_sub, r_mul, r_div, r_mod, r_pow, r_shl, r_shr, r_and, r_or, r_xor, r_neg, r_inv, r_lt, r_le, r_gt, r_ge, r_eqI, r_neI, r_eqS, r_neS, r_inS, r_niS, b_int, b_intB, b_abs, b_lenS, r_addS, r_isN, r_eqB, r_neB, List.getElem?_cons_zero, List.getElem?_cons_succ, List.set_cons_zero, List.set_cons_succ, List.map_cons, List.map_nil, List.length_cons, List.length_nil, Nat.reduceAdd, Nat.reduceSub, List.replicate_succ, List.replicate_zero, List.cons_append, List.nil_append, List.append_nil, Bool.not_true, Bool.not_false, if_true, if_false, ite_true, ite_false, Bool.false_eq_true, Bool.true_eq_false, reduceIte]
  refine right_ok (t := [114, 119, 120, 114, 119, 120, 114, 119, 120]) A11 (by decide) (by omega) fun H12 A12 => ?_
  simp only [e_k, e_v, e_g, e_bop, e_uop, e_not, e_and, e_or, e_ite, e_cmp, e_cmp2, e_lst, e_tup, e_call, e_mk, e_bi, e_isi, e_meth, e_bm, e_icall, e_ostr, e_att, e_ix, e_sl, e_isiM, e_methk, e_smeth, e_cmeth, e_mkv, e_mkk, kw_nil, e_oeq, e_eatt, e_eisi, t_v, t_isi, t_call, t_meth, t_bop, t_bi, t_att, t_not, t_and, t_or, t_cmp, t_cmp2, trQ_bl, blQ_bl, t_methk, t_smeth, t_oeq, t_eisi, t_ix, t_icall, a_nil', a_cons, s_nil, s_cons, s_set, s_setLc, s_par, s_expr, s_ret, s_retN, s_if, s_never, s_pass, s_brk, s_cont, s_par3, s_raise, g_v', g_tup, g_sub, g_att, gs_nil, gs_cons, gs_tup, i_L, i_T, i_S, i_R1, i_ES, i_E, i_Z, p_nil, p_pair, o_nil, o_k, o_v, o_bop, o_uop, o_bi, o_ix, oQ_int, x_K, x_w, x_fn, x_gv, x_tabs, x_mth, x_prp, x_fld, x_isi, x_kwo, x_xf, x_exm, x_eis, x_lt, x_lfn, x_smt, x_cmt, y_cmt, y_K, y_w, y_fn, y_gv, y_tabs, y_mth, y_prp, y_fld, y_isi, y_kwo, y_xf, y_exm, y_eis, y_smt, isi_int, isi_str, isi_bl, isi_non, ii1, ii2, ii3, ii4, ii5, ii6, ii7, it1, it2, it3, it4, it5, it6, it7, it8, it9, it10, it11, it12, it13, r_add, r_sub, r_mul, r_div, r_mod, r_pow, r_shl, r_shr, r_and, r_or, r_xor, r_neg, r_inv, r_lt, r_le, r_gt, r_ge, r_eqI, r_neI, r_eqS, r_neS, r_inS, r_niS, b_int, b_intB, b_abs, b_lenS, r_addS, r_isN, r_eqB, r_neB, List.getElem?_cons_zero, List.getElem?_cons_succ, List.set_cons_zero, List.set_cons_succ, List.map_cons, List.map_nil, List.length_cons, List.length_nil, Nat.reduceAdd, Nat.reduceSub, List.replicate_succ, List.replicate_zero, List.cons_append, List.nil_append, List.append_nil, Bool.not_true, Bool.not_false, if_true, if_false, ite_true, ite_false, Bool.false_eq_true, Bool.true_eq_false, reduceIte]
  refine right_ok (t := [45, 45, 45, 45, 45, 45, 45, 45, 45]) A12 (by decide) (by omega) fun H13 A13 => ?_
  simp only [e_k, e_v, e_g, e_bop, e_uop, e_not, e_and, e_or, e_ite, e_cmp, e_cmp2, e_lst, e_tup, e_call, e_mk, e_bi, e_isi, e_meth, e_bm, e_icall, e_ostr, e_att, e_ix, e_sl, e_isiM, e_methk, e_smeth, e_cmeth, e_mkv, e_mkk, kw_nil, e_oeq, e_eatt, e_eisi, t_v, t_isi, t_call, t_meth, t_bop, t_bi, t_att, t_not, t_and, t_or, t_cmp, t_cmp2, trQ_bl, blQ_bl, t_methk, t_smeth, t_oeq, t_eisi, t_ix, t_icall, a_nil', a_cons, s_nil, s_cons, s_set, s_setLc, s_par, s_expr, s_ret, s_retN, s_if, s_never, s_pass, s_brk, s_cont, s_par3, s_raise, g_v', g_tup, g_sub, g_att, gs_nil, gs_cons, gs_tup, i_L, i_T, i_S, i_R1, i_ES, i_E, i_Z, p_nil, p_pair, o_nil, o_k, o_v, o_bop, o_uop, o_bi, o_ix, oQ_int, x_K, x_w, x_fn, x_gv, x_tabs, x_mth, x_prp, x_fld, x_isi, x_kwo, x_xf, x_exm, x_eis, x_lt, x_lfn, x_smt, x_cmt, y_cmt, y_K, y_w, y_fn, y_gv, y_tabs, y_mth, y_prp, y_fld, y_isi, y_kwo, y_xf, y_exm, y_eis, y_smt, isi_int, isi_str, isi_bl, isi_non, ii1, ii2, ii3, ii4, ii5, ii6, ii7, it1, it2, it3, it4, it5, it6, it7, it8, it9, it10, it11, it12, it13, r_add, r_sub, r_mul, r_div, r_mod, r_pow, r_shl, r_shr, r_and, r_or, r_xor, r_neg, r_inv, r_lt, r_le, r_gt, r_ge, r_eqI, r_neI, r_eqS, r_neS, r_inS, r_niS, b_int, b_intB, b_abs, b_lenS, r_addS, r_isN, r_eqB, r_neB, List.getElem?_cons_zero, List.getElem?_cons_succ, List.set_cons_zero, List.set_cons_succ, List.map_cons, List.map_nil, List.length_cons, List.length_nil, Nat.reduceAdd, Nat.reduceSub, List.replicate_succ, List.replicate_zero, List.cons_append, List.nil_append, List.append_nil, Bool.not_true, Bool.not_false, if_true, if_false, ite_true, ite_false, Bool.false_eq_true, Bool.true_eq_false, reduceIte]
  exact right_ok (t := [114, 119, 120, 114, 119, 120, 114, 119, 120, 45]) A13 (by decide) (by omega) fun H14 A14 => h H14
def TI (a p : Addr) (K : PySem.W.Frag) (l : List It1) (σ : St) (H : Hp) : Prop := (∀ i ∈ l, ∃ v, i = It1.v v) ∧ Ahead K H p ∧ ∃ v2 v3 v4 v5 v6, σ = [some (.ref a), some (.ref p), v2, v3, v4, v5, v6]
theorem law_run {a : Addr} {ns : List Int} (ha : SqL K H a (ns.map V.int)) (hl : ns.length ≤ 63) (hT : LamX.Tabs (hd.pg.lt K) H) (hn : 6 ≤ n) (h : ∀ H', Q (.bl true) H') : run hd.pg K w n s_law [.ref a] H Q E := by
  refine run_at f_law (by omega) rfl ?_
  have tt := @law_turn K w (n - 1)
  have tl := @law_tail K w (n - 1)
  show (rd _ b_law _).s _ _ _
  have eb : b_law = .cons (.set (.v 1) (.call s__law_bag (.cons (.v 0) .nil))) (.cons (.for_ (.v 2) (.itR1 (.k (V.int 8))) (forB (nthI 1 b_law))) (tailI 2 b_law)) := rfl
  rw [eb]
  generalize forB (nthI 1 b_law) = body at tt ⊢
  generalize tailI 2 b_law = rest at tl ⊢
  rw [s_cons, s_set, e_call]
  simp only [d_law, L2.start, e_k, e_v, e_g, e_bop, e_uop, e_not, e_and, e_or, e_ite, e_cmp, e_cmp2, e_lst, e_tup, e_call, e_mk, e_bi, e_isi, e_meth, e_bm, e_icall, e_ostr, e_att, e_ix, e_sl, e_isiM, e_methk, e_smeth, e_cmeth, e_mkv, e_mkk, kw_nil, e_oeq, e_eatt, e_eisi, t_v, t_isi, t_call, t_meth, t_bop, t_bi, t_att, t_not, t_and, t_or, t_cmp, t_cmp2, trQ_bl, blQ_bl, t_methk, t_smeth, t_oeq, t_eisi, t_ix, t_icall, a_nil', a_cons, s_nil, s_cons, s_set, s_setLc, s_par, s_expr, s_ret, s_retN, s_if, s_never, s_pass, s_brk, s_cont, s_par3, s_raise, g_v', g_tup, g_sub, g_att, gs_nil, gs_cons, gs_tup, i_L, i_T, i_S, i_R1, i_ES, i_E, i_Z, p_nil, p_pair, o_nil, o_k, o_v, o_bop, o_uop, o_bi, o_ix, oQ_int, x_K, x_w, x_fn, x_gv, x_tabs, x_mth, x_prp, x_fld, x_isi, x_kwo, x_xf, x_exm, x_eis, x_lt, x_lfn, x_smt, x_cmt, y_cmt, y_K, y_w, y_fn, y_gv, y_tabs, y_mth, y_prp, y_fld, y_isi, y_kwo, y_xf, y_exm, y_eis, y_smt, isi_int, isi_str, isi_bl, isi_non, ii1, ii2, ii3, ii4, ii5, ii6, ii7, it1, it2, it3, it4, it5, it6, it7, it8, it9, it10, it11, it12, it13, r_add, r_sub, r_mul, r_div, r_mod, r_pow, r_shl, r_shr, r_and, r_or, r_xor, r_neg, r_inv, r_lt, r_le, r_gt, r_ge, r_eqI, r_neI, r_eqS, r_neS, r_inS, r_niS, b_int, b_intB, b_abs, b_lenS, r_addS, r_isN, r_eqB, r_neB, List.getElem?_cons_zero, List.getElem?_cons_succ, List.set_cons_zero, List.set_cons_succ, List.map_cons, List.map_nil, List.length_cons, List.length_nil, Nat.reduceAdd, Nat.reduceSub, List.replicate_succ, List.replicate_zero, List.cons_append, List.nil_append, List.append_nil, Bool.not_true, Bool.not_false, if_true, if_false, ite_true, ite_false, Bool.false_eq_true, Bool.true_eq_false, reduceIte]
  refine c_bag ha hl (by omega) fun p H1 hp x1 hP => ?_
  rw [s_for, i_R1, e_k]
  refine ⟨by decide, by decide, ?_⟩
  refine fors_inv (TI a p K) (fun _ _ _ _ => trivial) _ _ _ ⟨?_, ⟨hP, tabs_ext hT x1⟩, _, _, _, _, _, rfl⟩ ?_ ?_
  · intro i hi
    obtain ⟨k, _, rfl⟩ := List.mem_map.mp hi
    exact ⟨_, rfl⟩
  · intro x r σ H i D' h1 h2 h3 h4
    obtain ⟨i1, i2, v2, v3, v4, v5, v6, rfl⟩ := i
    obtain ⟨v, rfl⟩ := i1 x (List.mem_cons_self ..)
    dsimp only
    rw [g_v']
    refine tt (D := D') (v2 := some v) i2 (by omega) fun H' w3 w4 w5 q => ?_
    refine h1 _ _ ?_
    exact ⟨fun j hj => i1 j (List.mem_cons_of_mem _ hj), q, _, _, _, _, _, rfl⟩
  · intro σ H i
    obtain ⟨i1, i2, v2, v3, v4, v5, v6, rfl⟩ := i
    show (rd _ rest _).s _ _ _
    refine tl i2 (by omega) ?_
    exact h
theorem goal : Goal hd 8 := by
  intro w K H a ns hl _ hT hS
  have e : ("law" : Str) = s_law := by decide +kernel
  rw [e]
  exact law_run hS hl hT (by omega) fun _ => rfl
end U

open PySem PySem.W PySem.Calls PyProof.Rows
theorem PySem.Challenge.cw_modesdown_k02_modes_read_holds : PySem.Challenge.rw_modesdown_k02_modes_read.Holds := by
  w_on; o_law
  refine HandSHeadRun.head_any (r := OpenLaw.row PySem.Challenge.rw_modesdown_k02_modes_read) (q := view (OpenLaw.row PySem.Challenge.rw_modesdown_k02_modes_read).prog [23]) (H := U.hd.hook U.fl 6) (ob := U.hd.ob U.fl 6) (M := 8000) (loose := U.loose) (d := HandSHeadRun.topDef (OpenLaw.row PySem.Challenge.rw_modesdown_k02_modes_read).prog 23) (kwd := []) (U.Hd.ob_eq U.hd U.fl 6)
    (by kernel_rfl) (fun s => by kernel_rfl) U.runQ (by kernel_rfl) (by kernel_rfl) (by kernel_rfl) (by rfl) (by first | assumption | decide +kernel) (by decide +kernel) ⟨rfl, rfl, rfl, rfl, rfl, by decide +kernel⟩ ?hw ?hc
  case hw => w_witness2
  case hc =>
    exact U.law_end (h := U.hd) (l := PySem.Challenge.rw_modesdown_k02_modes_read) (m := 6) (n := 8) (x := U.s__law_script) (di := U.d_law) rfl (by kernel_rfl) (by kernel_rfl) U.stat U.bnd U.bne (by kernel_rfl) ⟨rfl, by decide, by decide⟩ (by kernel_rfl) rfl (by decide +kernel) (by decide +kernel) U.goal
