import PyProof.Rows.All
import Wide.All
import OpenK.AllK
import Wide.FinOn
import HandS.ForMost
import HandS.ForExc
import HandS.IsInst
import HandS.More
import HandS.Defaults
import HandS.Property
import HandS.CallSlots
import HandS.HeadHook3
import HandS.Conv
import HandS.TupAny
import HandS.Wide
import HandS.Flow
import HandS.Lambda
import HandS.EndTab
import HandS.ClsMeth
import HandS.Style
import HandS.Deep
import HandS.FStr
import HandS.RaiseMore
import PyProof.EqKinds
import PyProof.P3In
import HandS.Dict
import PyProof.NeKinds
import PyProof.Rows.SortShellK
import PyProof.Rows.SortStr
import HandS.HeadWalk
import KE.KExcSuper
import KE.KSuper
import HandS.ExcInit
import HandS.ExcSuper
import HandS.ExcField
import KE.KExcIs
import HandS.ExcIs
import HandS.Star
import KE.KCallOwn
import KE.GoesMore
import HandS.NoneIn
import HandS.Small
import KE.KxField
import HandS.HeadHook4
import HandS.Head0
import HandS.Head1
import HandS.Head2
import HandS.EndBits
import KE.BitLaws
import PySem.Challenge.RW_modesdown_k35_lines_let
set_option Elab.async false
set_option linter.all false
set_option maxRecDepth 100000
set_option maxHeartbeats 0
namespace U
open PySem PySem.Spec PyProof.Rows L2
/-- a text by its code points -/
abbrev S (l : List Nat) : Str := ⟨⟨l⟩⟩

theorem lookup_mem {α β : Type} [BEq α] [LawfulBEq α] {a : α} {b : β} : ∀ {l : List (α × β)}, l.lookup a = some b → (a, b) ∈ l
  | [], h => by cases h
  | (x, y) :: r, h => by
    rw [List.lookup_cons] at h
    cases e : (a == x) with
    | true =>
      rw [e] at h
      have hy : y = b := Option.some.inj h
      rw [eq_of_beq e, hy]
      exact List.mem_cons_self ..
    | false =>
      rw [e] at h
      exact List.mem_cons_of_mem _ (lookup_mem h)
theorem lookup_of_mem {α β : Type} [BEq α] [LawfulBEq α] {a : α} : ∀ {l : List (α × β)}, a ∈ l.map (·.1) → ∃ b, l.lookup a = some b
  | [], h => by cases h
  | (x, y) :: r, h => by
    rw [List.lookup_cons]
    cases e : (a == x) with
    | true => exact ⟨y, rfl⟩
    | false =>
      refine lookup_of_mem ?_
      rcases List.mem_cons.mp h with h | h
      · rw [h] at e
        simp at e
      · exact h

/-- at a: an error of the class cls, its dict at d -/
def errO (a : Addr) (cls : Value) (d : Option Addr) : HO := .ext fun h => ∃ (oe : Obj) (vs : Array Value), h.get? a = some oe ∧ Zc cls d oe ∧ oe.data = .fields vs

/-! ### readings of operators, by values -/
def eqS : V → V → Bool
  | .non, .non => true
  | .bl a, .bl b => a == b
  | .int a, .int b => a == b
  | .str a, .str b => a == b
  | .byt a, .byt b => decide (a = b)
  | _, _ => false
theorem eqS_dec (x y : V) (h : scal x y = true) : eqS x y = decide (x = y) := by
  cases x <;> cases y <;> first
    | exact dec_int.symm
    | exact dec_bl.symm
    | exact dec_str.symm
    | rfl
    | (simp [eqS, scal] at h ⊢)

def rAddU (K : PySem.W.Frag) : R2 := fun x y H Q => match x, y with
  | .int i, .int j => Q (.int (i + j)) H
  | .int i, .bl k => Q (.int (i + b2i k)) H
  | .str i, .str j => i.length + j.length ≤ sizeLine ∧ Q (.str (i ++ j)) H
  | .ref a, .ref b => rCat (.ref a) (.ref b) H Q ∨ rCatA K (.ref a) (.ref b) H Q
  | _, _ => False
def rII (C : Int → Int → Prop) (g : Int → Int → V) : R2 := fun x y H Q => match x, y with
  | .int i, .int j => C i j ∧ Q (g i j) H
  | _, _ => False
def rII0 (g : Int → Int → V) : R2 := fun x y H Q => match x, y with
  | .int i, .int j => Q (g i j) H
  | _, _ => False
def rMulU (K : PySem.W.Frag) : R2 := fun x y H Q => match x, y with
  | .int i, .int j => (CMul i j ∨ CMulW i j) ∧ Q (.int (i * j)) H
  | .ref a, .int k => rRep (.ref a) (.int k) H Q
  | _, _ => False
def CDivU (i j : Int) : Prop := CDiv i j ∨ CDivW i j
section
variable {X : Cx}
theorem opOr {f : Value → Value → Sem Value} {r r' : R2} (h : OpR X f r) (h' : OpR X f r') : OpR X f (fun x y H Q => r x y H Q ∨ r' x y H Q) := by
  intro pins s σ H x y v u Q I rx ry q
  rcases q with q | q
  · exact h pins s σ H x y v u Q I rx ry q
  · exact h' pins s σ H x y v u Q I rx ry q
theorem opImp {f : Value → Value → Sem Value} {r r' : R2} (h : OpR X f r) (k : ∀ x y H Q, r' x y H Q → r x y H Q) : OpR X f r' :=
  fun pins s σ H x y v u Q I rx ry q => h pins s σ H x y v u Q I rx ry (k _ _ _ _ q)
theorem callOr {f : Value} {r r' : List V → Hp → VK → Prop} (h : CallR X f r) (h' : CallR X f r') : CallR X f (fun xs H Q => r xs H Q ∨ r' xs H Q) := by
  intro pins s σ H xs us Q I r q
  rcases q with q | q
  · exact h pins s σ H xs us Q I r q
  · exact h' pins s σ H xs us Q I r q
theorem callImp {f : Value} {r r' : List V → Hp → VK → Prop} (h : CallR X f r) (k : ∀ xs H Q, r' xs H Q → r xs H Q) : CallR X f r' :=
  fun pins s σ H xs us Q I r q => h pins s σ H xs us Q I r (k _ _ _ q)
theorem op_addU : OpR X (binaryOp .Add) (rAddU X.K) := by
  refine opImp (opOr (opOr op_add op_add_ib) (opOr op_add_str (opOr op_cat op_catA))) fun x y H Q h => ?_
  unfold rAddU at h
  split at h
  · exact .inl (.inl ⟨_, _, rfl, rfl, h⟩)
  · exact .inl (.inr ⟨_, _, rfl, rfl, h⟩)
  · exact .inr (.inl ⟨_, _, rfl, rfl, h⟩)
  · rcases h with h | h
    · exact .inr (.inr (.inl h))
    · exact .inr (.inr (.inr h))
  · exact h.elim
theorem opII {f : Value → Value → Sem Value} {C : Int → Int → Prop} {g : Int → Int → V} (h : OpR X f (rI C g)) : OpR X f (rII C g) := opImp h fun x y H Q h => by
  unfold rII at h
  split at h
  · exact ⟨_, _, rfl, rfl, h⟩
  · exact h.elim
theorem opII0 {f : Value → Value → Sem Value} {g : Int → Int → V} (h : OpR X f (rI0 g)) : OpR X f (rII0 g) := opImp h fun x y H Q h => by
  unfold rII0 at h
  split at h
  · exact ⟨_, _, rfl, rfl, h⟩
  · exact h.elim
theorem op_mulU : OpR X (binaryOp .Mult) (rMulU X.K) := by
  refine opImp (opOr (opOr op_mul op_mulW) op_rep) fun x y H Q h => ?_
  unfold rMulU at h
  split at h
  · rcases h with ⟨h1 | h1, h2⟩
    · exact .inl (.inl ⟨_, _, rfl, rfl, h1, h2⟩)
    · exact .inl (.inr ⟨_, _, rfl, rfl, h1, h2⟩)
  · exact .inr h
  · exact h.elim
theorem op_divU : OpR X (binaryOp .FloorDiv) (rII CDivU fun i j => .int (i / j)) := by
  refine opImp (opOr op_fdiv op_fdivW) fun x y H Q h => ?_
  unfold rII at h
  split at h
  · rcases h with ⟨h1 | h1, h2⟩
    · exact .inl ⟨_, _, rfl, rfl, h1, h2⟩
    · exact .inr ⟨_, _, rfl, rfl, h1, h2⟩
  · exact h.elim
/-- a binary operator -/
def rBin (K : PySem.W.Frag) : Operator → R2
  | .Add => rAddU K
  | .Sub => rII0 fun i j => .int (i - j)
  | .Mult => rMulU K
  | .FloorDiv => rII CDivU fun i j => .int (i / j)
  | .Mod => rII (fun _ j => 0 < j) fun i j => .int (i % j)
  | .Pow => rII CPow fun i j => .int (i ^ j.toNat)
  | .LShift => rII CPow fun i j => .int (i * 2 ^ j.toNat)
  | .RShift => rII (fun _ j => 0 ≤ j) fun i j => .int (i / 2 ^ j.toNat)
  | .BitAnd => rII0 fun i j => .int (Builtin.bitAnd i j)
  | .BitOr => rII0 fun i j => .int (Builtin.bitOr i j)
  | .BitXor => rII0 fun i j => .int (Builtin.bitXor i j)
  | _ => fun _ _ _ _ => False
theorem bin_ok (op : Operator) : OpR X (binaryOp op) (rBin X.K op) := by
  cases op with
  | Add => exact op_addU
  | Sub => exact opII0 op_sub
  | Mult => exact op_mulU
  | FloorDiv => exact op_divU
  | Mod => exact opII op_mod
  | Pow => exact opII op_pow
  | LShift => exact opII op_shl
  | RShift => exact opII op_shr
  | BitAnd => exact opII0 op_and
  | BitOr => exact opII0 op_or
  | BitXor => exact opII0 op_xor
  | _ => exact fun _ _ _ _ _ _ _ _ _ _ _ _ h => h.elim
def rUn : UnaryOp → V → Hp → VK → Prop
  | .USub => fun x H Q => match x with | .int i => Q (.int (-i)) H | _ => False
  | .Invert => fun x H Q => match x with | .int i => Q (.int (Builtin.bitNot i)) H | _ => False
  | _ => fun _ _ _ => False
theorem un_ok (op : UnaryOp) : UnR X (unaryOp op) (rUn op) := by
  cases op with
  | USub =>
    intro pins s σ H x v Q I rx h
    unfold rUn at h
    cases x <;> first | exact h.elim | exact un_neg pins s σ H _ v Q I rx ⟨_, rfl, h⟩
  | Invert =>
    intro pins s σ H x v Q I rx h
    unfold rUn at h
    cases x <;> first | exact h.elim | exact un_inv pins s σ H _ v Q I rx ⟨_, rfl, h⟩
  | _ => exact fun _ _ _ _ _ _ _ _ _ h => h.elim

/-! ### comparisons -/
def rEqU (K : PySem.W.Frag) : R2 := fun x y H Q => match scal x y with
  | true => Q (.bl (eqS x y)) H
  | false => rEqD K x y H Q
def rNeU (K : PySem.W.Frag) : R2 := fun x y H Q => match scal x y with
  | true => Q (.bl (!eqS x y)) H
  | false => rNeD K x y H Q
theorem op_eqU (hu : X.A.units + 64 < cLine) : OpR X (compareOp .Eq) (rEqU X.K) := by
  refine opImp (opOr op_eq (op_eqD hu)) fun x y H Q h => ?_
  unfold rEqU at h
  split at h
  · rename_i e
    rw [eqS_dec _ _ e] at h
    exact .inl ⟨e, h⟩
  · exact .inr h
theorem op_neU (hu : X.A.units + 64 < cLine) : OpR X (compareOp .NotEq) (rNeU X.K) := by
  refine opImp (opOr op_ne (op_neD hu)) fun x y H Q h => ?_
  unfold rNeU at h
  split at h
  · rename_i e
    rw [eqS_dec _ _ e] at h
    exact .inl ⟨e, h⟩
  · exact .inr h
/-- is i in j, texts -/
def inS (i j : Str) : Bool := match i with
  | ⟨⟨[c]⟩⟩ => decide (c ∈ j.cps.toList)
  | _ => !(Builtin.Str.occurrences j i 0 j.length 1).isEmpty
/-- a table of the module: its address, the value at a key -/
structure KTab where
  at_ : PySem.W.Frag → Addr
  kvs : List (Str × V)
def KHas (K : PySem.W.Frag) (w : World) (T : List KTab) (p : Addr) (z : Str) (o : Option V) : Prop := ∃ t ∈ T, p = t.at_ K ∧ o = t.kvs.lookup z
def KGood (K : PySem.W.Frag) (w : World) (T : List KTab) : Prop := ∀ t ∈ T, ∃ es n, KDict K w (t.at_ K) es n ∧ ∀ z, ∃ r, PySem.W.nsIn K (t.at_ K) z = some r ∧ RelO (t.kvs.lookup z) r
def rInU (K : PySem.W.Frag) (w : World) (T : List KTab) (neg : Bool) : R2 := fun x y H Q => match x, y with
  | .str i, .str j => Q (.bl (neg.xor (inS i j))) H
  | x, .ref p => rIn K neg x (.ref p) H Q ∨ (∃ kvs k, Rd H p (.dK kvs) ∧ x = kV k ∧ Q (.bl (neg.xor (valV kvs k).isSome)) H) ∨ (∃ z o, x = .str z ∧ KHas K w T p z o ∧ Q (.bl (neg.xor o.isSome)) H) ∨
      (if neg then rNotInD K x (.ref p) H Q else rInD K x (.ref p) H Q)
  | _, _ => False
theorem op_inStr : OpR X (compareOp .In) (fun x y H Q => ∃ i j, x = .str i ∧ y = .str j ∧ Q (.bl (inS i j)) H) := by
  refine opImp (opOr op_in_sign op_in_str) fun x y H Q h => ?_
  obtain ⟨i, j, rfl, rfl, q⟩ := h
  unfold inS at q
  split at q
  · exact .inl ⟨_, _, rfl, rfl, q⟩
  · exact .inr ⟨_, _, rfl, rfl, q⟩
theorem op_notInStr : OpR X (compareOp .NotIn) (fun x y H Q => ∃ i j, x = .str i ∧ y = .str j ∧ Q (.bl (!inS i j)) H) := by
  refine opImp (opOr op_notIn_sign op_notin_str) fun x y H Q h => ?_
  obtain ⟨i, j, rfl, rfl, q⟩ := h
  unfold inS at q
  split at q
  · exact .inl ⟨_, _, rfl, rfl, q⟩
  · exact .inr ⟨_, _, rfl, rfl, q⟩
theorem relO_isSome {a : Option V} {b : Option Value} (r : RelO a b) : b.isSome = a.isSome := by
  cases a <;> cases b <;> first | rfl | exact r.elim
theorem op_inU (hu : X.A.units + 65 < cLine) {T : List KTab} (kg : KGood X.K X.w T) : OpR X (compareOp .In) (rInU X.K X.w T false) := by
  intro pins s σ H x y v u Q I rx ry h
  unfold rInU at h
  split at h
  · exact op_inStr pins s σ H _ _ v u Q I rx ry ⟨_, _, rfl, rfl, by simpa using h⟩
  · rcases h with h | ⟨kvs, k, e, rfl, q⟩ | ⟨z, o, rfl, ⟨t, ht, rfl, rfl⟩, q⟩ | h
    · exact op_in_seq pins s σ H _ _ v u Q I rx ry h
    · cases ry
      refine d_in (by omega) I (.inl ⟨kvs, k, e, rfl, rfl⟩) rx fun s' I' => ?_
      exact ⟨.bl _, H, I', rfl, by simpa using q⟩
    · obtain ⟨es, n, D, g⟩ := kg t ht
      obtain ⟨r, er, rr⟩ := g z
      refine op_in_kd D pins s σ H _ _ v u Q I rx ry ⟨z, r, rfl, rfl, er, ?_⟩
      rw [relO_isSome rr]
      simpa using q
    · exact op_inD hu pins s σ H _ _ v u Q I rx ry (by simpa using h)
  · exact h.elim
theorem op_notInU (hu : X.A.units + 65 < cLine) {T : List KTab} (kg : KGood X.K X.w T) : OpR X (compareOp .NotIn) (rInU X.K X.w T true) := by
  intro pins s σ H x y v u Q I rx ry h
  unfold rInU at h
  split at h
  · exact op_notInStr pins s σ H _ _ v u Q I rx ry ⟨_, _, rfl, rfl, by simpa using h⟩
  · rcases h with h | ⟨kvs, k, e, rfl, q⟩ | ⟨z, o, rfl, ⟨t, ht, rfl, rfl⟩, q⟩ | h
    · exact op_notIn_seq pins s σ H _ _ v u Q I rx ry h
    · cases ry
      refine d_notIn (by omega) I (.inl ⟨kvs, k, e, rfl, rfl⟩) rx fun s' I' => ?_
      exact ⟨.bl _, H, I', rfl, by simpa using q⟩
    · obtain ⟨es, n, D, g⟩ := kg t ht
      obtain ⟨r, er, rr⟩ := g z
      refine op_notIn_kd D pins s σ H _ _ v u Q I rx ry ⟨z, r, rfl, rfl, er, ?_⟩
      rw [relO_isSome rr]
      simpa using q
    · exact op_notInD hu pins s σ H _ _ v u Q I rx ry (by simpa using h)
  · exact h.elim
def rLtU (f : Int → Int → Bool) (g : Str → Str → Bool) : R2 := fun x y H Q => match x, y with
  | .int i, .int j => Q (.bl (f i j)) H
  | .str i, .str j => Q (.bl (g i j)) H
  | _, _ => False
def rIs (neg : Bool) : R2 := fun x y H Q => match y with
  | .non => Q (.bl (neg.xor (match x with | .non => true | _ => false))) H
  | _ => False
theorem isN_dec (x : V) : decide (x = V.non) = (match x with | .non => true | _ => false) := by cases x <;> simp
/-- a comparison -/
def rCmp (K : PySem.W.Frag) (w : World) (T : List KTab) : CmpOp → R2
  | .Eq => rEqU K
  | .NotEq => rNeU K
  | .Lt => rLtU (fun i j => decide (i < j)) fun i j => decide (i.cps.toList < j.cps.toList)
  | .LtE => rLtU (fun i j => decide (i ≤ j)) fun i j => !decide (j.cps.toList < i.cps.toList)
  | .Gt => rLtU (fun i j => decide (j < i)) fun i j => decide (j.cps.toList < i.cps.toList)
  | .GtE => rLtU (fun i j => decide (j ≤ i)) fun i j => !decide (i.cps.toList < j.cps.toList)
  | .In => rInU K w T false
  | .NotIn => rInU K w T true
  | .Is => rIs false
  | .IsNot => rIs true
theorem opLt {op : CmpOp} {f : Int → Int → Bool} {g : Str → Str → Bool} (h : OpR X (compareOp op) (rI0 fun i j => .bl (f i j))) (h' : OpR X (compareOp op) (fun x y H Q => ∃ i j, x = .str i ∧ y = .str j ∧ Q (.bl (g i j)) H)) : OpR X (compareOp op) (rLtU f g) :=
  opImp (opOr h h') fun x y H Q q => by
    unfold rLtU at q
    split at q
    · exact .inl ⟨_, _, rfl, rfl, q⟩
    · exact .inr ⟨_, _, rfl, rfl, q⟩
    · exact q.elim
theorem cmp_ok (hu : X.A.units + 65 < cLine) {T : List KTab} (kg : KGood X.K X.w T) (op : CmpOp) : OpR X (compareOp op) (rCmp X.K X.w T op) := by
  cases op with
  | Eq => exact op_eqU (by omega)
  | NotEq => exact op_neU (by omega)
  | Lt => exact opLt op_lt op_lt_str
  | LtE => exact opLt op_le op_le_str
  | Gt => exact opLt op_gt op_gt_str
  | GtE => exact opLt op_ge op_ge_str
  | In => exact op_inU hu kg
  | NotIn => exact op_notInU hu kg
  | Is =>
    exact opImp op_isN fun x y H Q h => by
      show _ ∧ _
      have h : rIs false x y H Q := h
      unfold rIs at h
      split at h
      · exact ⟨rfl, by rw [isN_dec]; simpa using h⟩
      · exact h.elim
  | IsNot =>
    exact opImp op_notN fun x y H Q h => by
      show _ ∧ _
      have h : rIs true x y H Q := h
      unfold rIs at h
      split at h
      · exact ⟨rfl, by rw [isN_dec]; simpa using h⟩
      · exact h.elim
end
end U

namespace U
open PySem PySem.SeqAt AutoSeq1 MeetsSeq
theorem str_eq_declines_dict (b : Str) (u : Tok) (l : Addr) (es : Array DictEntry) (n : Nat) (dd : Option Addr) (sl : Array (Option Value)) :
    Meets (Builtin.«str.__eq__» ⟨[.str b u, .ref l], []⟩) (fun _ R s => s.heap.get? l = some { cls := .type "dict", dict := dd, data := .dict es n, slots := sl } ∧ R (.ok (.ret .notImplemented)) s) :=
  .of_wp fun prog w A R s h => by obtain ⟨hp, g, d, tk, os⟩ := s; obtain ⟨hl, h⟩ := h; wp_walk using wpAny_loadPart' hl, wpAny_load hl; exact ⟨_, rfl, h⟩
theorem sub_str_dict' : isSubtype (.type "str") (.type "dict") = pure false := by rw [isSubtype_type]; kernel_rfl
theorem sub_dict_str' : isSubtype (.type "dict") (.type "str") = pure false := by rw [isSubtype_type]; kernel_rfl
theorem dict_eq_declines_str (l : Addr) (es : Array DictEntry) (n : Nat) (dd : Option Addr) (sl : Array (Option Value)) (b : Str) (u : Tok) :
    Meets (Builtin.«dict.__eq__» ⟨[.ref l, .str b u], []⟩) (fun _ R s => s.heap.get? l = some { cls := .type "dict", dict := dd, data := .dict es n, slots := sl } ∧ R (.ok (.ret .notImplemented)) s) :=
  .of_wp fun prog w A R s h => by obtain ⟨hp, g, d, tk, os⟩ := s; obtain ⟨hl, h⟩ := h; have f1 := sub_str_dict'; wp_walk using wpAny_loadPart' hl, wpAny_load hl; exact ⟨_, rfl, h⟩
section
variable {A : Around} {s : Shared} {l : Addr} {es : Array DictEntry} {n : Nat} {dd : Option Addr} {sl : Array (Option Value)}
theorem RcAt_dict_str (b : Str) (u : Tok) (ho : s.heap.get? l = some { cls := .type "dict", dict := dd, data := .dict es n, slots := sl }) (hu : A.units < cLine) : RcAt A s (.ref l) (.str b u) false := fun prog w E Q h =>
  rc_eq_decline_or (k := false) ⟨_, ho, rfl⟩ (typeIs_str s b u) (by decide) sub_str_dict' F.slot_dict_eq F.slot_str_eq_refl
    (fun _ hq => call_meets F.slot_dict_eq ⟨_, ho, rfl⟩ F.entry_dict_eq (F.args_dict_eq_2 _ _) (dict_eq_declines_str l es n dd sl b u) ⟨ho, hq⟩)
    (fun _ hq => call_meets F.slot_str_eq_refl (typeIs_str s b u) F.entry_str_eq (F.args_str_eq_2 _ _) (str_eq_declines_dict b u l es n dd sl) ⟨ho, hq⟩)
    (fun _ hq => wpAny_of_eq (rfl : isSame (.ref l) (.str b u) = pure false) hq) (.inr hu) h
theorem RcAt_str_dict (b : Str) (u : Tok) (ho : s.heap.get? l = some { cls := .type "dict", dict := dd, data := .dict es n, slots := sl }) (hu : A.units < cLine) : RcAt A s (.str b u) (.ref l) false := fun prog w E Q h =>
  rc_eq_decline_or (k := false) (typeIs_str s b u) ⟨_, ho, rfl⟩ (by decide) sub_dict_str' F.slot_str_eq F.slot_dict_eq_refl
    (fun _ hq => call_meets F.slot_str_eq (typeIs_str s b u) F.entry_str_eq (F.args_str_eq_2 _ _) (str_eq_declines_dict b u l es n dd sl) ⟨ho, hq⟩)
    (fun _ hq => call_meets F.slot_dict_eq_refl ⟨_, ho, rfl⟩ F.entry_dict_eq (F.args_dict_eq_2 _ _) (dict_eq_declines_str l es n dd sl b u) ⟨ho, hq⟩)
    (fun _ hq => wpAny_of_eq (rfl : isSame (.str b u) (.ref l) = pure false) hq) (.inr hu) h
theorem EqAt_str_dict (b : Str) (u : Tok) (ho : s.heap.get? l = some { cls := .type "dict", dict := dd, data := .dict es n, slots := sl }) (hu : A.units < cLine) : EqAt A s (.str b u) (.ref l) false := fun prog w E Q h => by
  unfold eqBool
  refine wpAny_holding ?_
  refine wpAny_ite_split (fun hab => absurd (eq_of_beq hab) nofun) (fun _ => ?_)
  exact wpAny_bind (RcAt_str_dict b u ho hu prog w E _ (wpAny_truthy_bool h))
end
end U

namespace U
open PySem PySem.Spec PyProof.Rows L2
section
variable {X : Cx}
/-- x in a tuple of data -/
def rInDT (K : PySem.W.Frag) (neg : Bool) : R2 := fun x y H Q => ∃ d ds, Dp K H x d ∧ Dp K H y (.tuple ds) ∧ SeqAt.shaped d = true ∧ SeqAt.shaped (.tuple ds) = true ∧ Q (.bl (neg.xor (ds.any fun z => PyData.eqv z d))) H
theorem room_inT {d : PyData} {ds : List PyData} (sd : SeqAt.shaped d = true) (hu : X.A.units + 65 < cLine) : X.A.units + 1 + min (PyData.depthAll ds) d.depth < cLine := room_in_shaped sd hu
theorem op_inDT (hu : X.A.units + 65 < cLine) : OpR X (compareOp .In) (rInDT X.K false) := by
  intro pins s σ H x y v u Q I rx ry h
  obtain ⟨d, ds, hd, he, sd, se, q⟩ := h
  obtain ⟨as, r1⟩ := Dp.reads I d x v hd rx
  obtain ⟨bs, r2⟩ := Dp.reads I (.tuple ds) y u he ry
  exact SeqAt.in_tuple_reads r2 r1 (SeqAt.canLay_of_shaped se) (SeqAt.canLay_of_shaped sd) (room_inT sd hu) ⟨.bl _, H, I, rfl, by simpa using q⟩
theorem op_niDT (hu : X.A.units + 65 < cLine) : OpR X (compareOp .NotIn) (rInDT X.K true) := by
  intro pins s σ H x y v u Q I rx ry h
  obtain ⟨d, ds, hd, he, sd, se, q⟩ := h
  obtain ⟨as, r1⟩ := Dp.reads I d x v hd rx
  obtain ⟨bs, r2⟩ := Dp.reads I (.tuple ds) y u he ry
  exact SeqAt.notIn_tuple_reads r2 r1 (SeqAt.canLay_of_shaped se) (SeqAt.canLay_of_shaped sd) (room_inT sd hu) ⟨.bl _, H, I, rfl, by simpa using q⟩
/-- a dict against a text: never alike -/
theorem dict_obj {pins : List (Addr × Obj)} {s : Shared} {σ : L2.St} {H : Hp} {p : Addr} {kvs : List (Key × V)} (I : Inv X pins σ H s) (e : Rd H p (.dK kvs)) : ∃ es n dd sl, s.heap.get? p = some { cls := .type "dict", dict := dd, data := .dict es n, slots := sl } := by
  obtain ⟨z, hd, vs, rel, dd⟩ := dk_rd I.hok e
  obtain ⟨⟨cls, dd', data, sl⟩, es, ep, h1, h2, h3, _⟩ := dd
  simp only at h3
  have hc : cls = .type "dict" := by first | exact h2 | exact h2.1
  subst hc h3
  exact ⟨es, ep, dd', sl, h1⟩
theorem strs_all {ts : List Str} : ∀ {us : List Value}, Vals (ts.map V.str) us → ∀ u ∈ us, ∃ b t, u = Value.str b t := by
  induction ts with
  | nil => intro us r u hu; cases r; cases hu
  | cons a r ih =>
    intro us h u hu
    cases h with
    | cons r1 r2 =>
      rcases List.mem_cons.mp hu with rfl | hu
      · obtain ⟨t, rfl⟩ := r1
        exact ⟨_, _, rfl⟩
      · exact ih r2 u hu
/-- a dict in a tuple of texts: no -/
def rInDS (K : PySem.W.Frag) (neg : Bool) : R2 := fun x y H Q => ∃ (p : Addr) (kvs : List (Key × V)) (q : Addr) (ts : List Str), x = .ref p ∧ Rd H p (.dK kvs) ∧ y = .ref q ∧ SqT K H q (ts.map V.str) ∧ Q (.bl neg) H
theorem op_inDS (hu : X.A.units + 65 < cLine) : OpR X (compareOp .In) (rInDS X.K false) := by
  intro pins s σ H x y v u Q I rx ry h
  obtain ⟨p, kvs, q, ts, rfl, hp, rfl, hq, hQ⟩ := h
  obtain rfl : v = Value.ref p := rx
  obtain rfl : u = Value.ref q := ry
  obtain ⟨es, n, dd, sl, ho⟩ := dict_obj I hp
  obtain ⟨its, rv, pl, hz⟩ := I.tuple hq
  refine SeqAt.in_tupleAt (items := its.toArray) (fun _ => false) pl (fun y hy => ?_) ?_
  · obtain ⟨b, t, rfl⟩ := strs_all rv y (by simpa using hy)
    exact EqAt_str_dict b t ho (by show X.A.units + 1 < cLine; omega)
  · refine ⟨.bl false, H, I, ?_, hQ⟩
    show Value.bool _ = Value.bool _
    congr 1
    simp
end
end U

namespace U
open PySem PySem.SeqAt AutoSeq1 MeetsSeq
theorem str_ne_declines_dict (b : Str) (u : Tok) (l : Addr) (es : Array DictEntry) (n : Nat) (dd : Option Addr) (sl : Array (Option Value)) :
    Meets (Builtin.«str.__ne__» ⟨[.str b u, .ref l], []⟩) (fun _ R s => s.heap.get? l = some { cls := .type "dict", dict := dd, data := .dict es n, slots := sl } ∧ R (.ok (.ret .notImplemented)) s) :=
  .of_wp fun prog w A R s h => by obtain ⟨hp, g, d, tk, os⟩ := s; obtain ⟨hl, h⟩ := h; wp_walk using wpAny_loadPart' hl, wpAny_load hl; exact ⟨_, rfl, h⟩
theorem dict_ne_declines_str (l : Addr) (es : Array DictEntry) (n : Nat) (dd : Option Addr) (sl : Array (Option Value)) (b : Str) (u : Tok) :
    Meets (Builtin.«dict.__ne__» ⟨[.ref l, .str b u], []⟩) (fun _ R s => s.heap.get? l = some { cls := .type "dict", dict := dd, data := .dict es n, slots := sl } ∧ R (.ok (.ret .notImplemented)) s) :=
  .of_wp fun prog w A R s h => by obtain ⟨hp, g, d, tk, os⟩ := s; obtain ⟨hl, h⟩ := h; have f1 := sub_str_dict'; wp_walk using wpAny_loadPart' hl, wpAny_load hl; exact ⟨_, rfl, h⟩
section
variable {A : Around} {s : Shared} {l : Addr} {es : Array DictEntry} {n : Nat} {dd : Option Addr} {sl : Array (Option Value)}
theorem RcNeAt_dict_str (b : Str) (u : Tok) (ho : s.heap.get? l = some { cls := .type "dict", dict := dd, data := .dict es n, slots := sl }) (hu : A.units < cLine) : RcNeAt A s (.ref l) (.str b u) true := fun prog w E Q h =>
  rc_ne_decline_or (k := false) ⟨_, ho, rfl⟩ (typeIs_str s b u) (by decide) sub_str_dict' F.slot_dict_ne F.slot_str_ne_refl
    (fun _ hq => call_meets F.slot_dict_ne ⟨_, ho, rfl⟩ F.entry_dict_ne (F.args_dict_ne_2 _ _) (dict_ne_declines_str l es n dd sl b u) ⟨ho, hq⟩)
    (fun _ hq => call_meets F.slot_str_ne_refl (typeIs_str s b u) F.entry_str_ne (F.args_str_ne_2 _ _) (str_ne_declines_dict b u l es n dd sl) ⟨ho, hq⟩)
    (fun _ hq => wpAny_of_eq (rfl : isSame (.ref l) (.str b u) = pure false) hq) (.inr hu) h
end
end U

namespace U
open PySem PySem.Spec PyProof.Rows L2
section
variable {X : Cx}
theorem op_niDS (hu : X.A.units + 65 < cLine) : OpR X (compareOp .NotIn) (rInDS X.K true) := by
  intro pins s σ H x y v u Q I rx ry h
  obtain ⟨p, kvs, q, ts, rfl, hp, rfl, hq, hQ⟩ := h
  obtain rfl : v = Value.ref p := rx
  obtain rfl : u = Value.ref q := ry
  obtain ⟨es, n, dd, sl, ho⟩ := dict_obj I hp
  obtain ⟨its, rv, pl, hz⟩ := I.tuple hq
  refine SeqAt.notIn_tupleAt (items := its.toArray) (fun _ => false) pl (fun y hy => ?_) ?_
  · obtain ⟨b, t, rfl⟩ := strs_all rv y (by simpa using hy)
    exact EqAt_str_dict b t ho (by show X.A.units + 1 < cLine; omega)
  · refine ⟨.bl true, H, I, ?_, hQ⟩
    show Value.bool _ = Value.bool _
    congr 1
    simp
/-- a dict against a text -/
def rDS (neg : Bool) : R2 := fun x y H Q => ∃ (p : Addr) (kvs : List (Key × V)) (z : Str), x = .ref p ∧ Rd H p (.dK kvs) ∧ y = .str z ∧ Q (.bl neg) H
theorem op_eqDS (hu : X.A.units + 65 < cLine) : OpR X (compareOp .Eq) (rDS false) := by
  intro pins s σ H x y v u Q I rx ry h
  obtain ⟨p, kvs, z, rfl, hp, rfl, hQ⟩ := h
  obtain rfl : v = Value.ref p := rx
  obtain ⟨t, rfl⟩ := ry
  obtain ⟨es, n, dd, sl, ho⟩ := dict_obj I hp
  exact RcAt_dict_str z t ho (by omega) _ _ _ _ ⟨.bl false, H, I, rfl, hQ⟩
theorem op_neDS (hu : X.A.units + 65 < cLine) : OpR X (compareOp .NotEq) (rDS true) := by
  intro pins s σ H x y v u Q I rx ry h
  obtain ⟨p, kvs, z, rfl, hp, rfl, hQ⟩ := h
  obtain rfl : v = Value.ref p := rx
  obtain ⟨t, rfl⟩ := ry
  obtain ⟨es, n, dd, sl, ho⟩ := dict_obj I hp
  exact RcNeAt_dict_str z t ho (by omega) _ _ _ _ ⟨.bl true, H, I, rfl, hQ⟩
/-- lists of unlike length -/
def rLL (K : PySem.W.Frag) (neg : Bool) : R2 := fun x y H Q => ∃ (p q : Addr) (xs ys : List V), x = .ref p ∧ y = .ref q ∧ SqL K H p xs ∧ SqL K H q ys ∧ xs.length ≠ ys.length ∧ Q (.bl neg) H
theorem op_eqLL (hu : X.A.units + 65 < cLine) : OpR X (compareOp .Eq) (rLL X.K false) := by
  intro pins s σ H x y v u Q I rx ry h
  obtain ⟨p, q, xs, ys, rfl, rfl, hp, hq, hl, hQ⟩ := h
  obtain rfl : v = Value.ref p := rx
  obtain rfl : u = Value.ref q := ry
  obtain ⟨is, r1, l1, _⟩ := I.list hp
  obtain ⟨js, r2, l2, _⟩ := I.list hq
  refine SeqAt.RcAt.lists_lengths l1.isList l2.isList ?_ (by omega) _ _ _ _ ⟨.bl false, H, I, rfl, hQ⟩
  rw [List.size_toArray, List.size_toArray, ← r1.length, ← r2.length]
  exact bne_iff_ne.mpr hl
theorem op_neLL (hu : X.A.units + 65 < cLine) : OpR X (compareOp .NotEq) (rLL X.K true) := by
  intro pins s σ H x y v u Q I rx ry h
  obtain ⟨p, q, xs, ys, rfl, rfl, hp, hq, hl, hQ⟩ := h
  obtain rfl : v = Value.ref p := rx
  obtain rfl : u = Value.ref q := ry
  obtain ⟨is, r1, l1, _⟩ := I.list hp
  obtain ⟨js, r2, l2, _⟩ := I.list hq
  refine SeqAt.RcNeAt.lists_lengths l1.isList l2.isList ?_ (by omega) _ _ _ _ ⟨.bl true, H, I, rfl, hQ⟩
  rw [List.size_toArray, List.size_toArray, ← r1.length, ← r2.length]
  exact bne_iff_ne.mpr hl
/-- what rCmp leaves out: data in tuples, dicts against texts -/
def rX (K : PySem.W.Frag) : CmpOp → R2
  | .Eq => fun x y H Q => rDS false x y H Q ∨ rLL K false x y H Q
  | .NotEq => fun x y H Q => rDS true x y H Q ∨ rLL K true x y H Q
  | .In => fun x y H Q => rInDT K false x y H Q ∨ rInDS K false x y H Q
  | .NotIn => fun x y H Q => rInDT K true x y H Q ∨ rInDS K true x y H Q
  | .Is => rIsB
  | .IsNot => rNotB
  | _ => fun _ _ _ _ => False
theorem op_X (hu : X.A.units + 65 < cLine) (op : CmpOp) : OpR X (compareOp op) (rX X.K op) := by
  cases op <;> first
    | exact opOr (op_eqDS hu) (op_eqLL hu)
    | exact opOr (op_neDS hu) (op_neLL hu)
    | exact opOr (op_inDT hu) (op_inDS hu)
    | exact opOr (op_niDT hu) (op_niDS hu)
    | exact op_isBl
    | exact op_notBl
    | (intro pins s σ H x y v u Q I rx ry h; exact h.elim)
end
end U

namespace U
open PySem PySem.Spec PyProof.Rows L2 Builtin
section
variable {prog : Program} {w : World} {A : Around} {E : Value → Shared → Prop} {s : Shared}
theorem collect_tuple {l : Addr} {vs : List Value} {Q : List Value → Shared → Prop} (hl : IsTup s.heap l vs.toArray)
    (h : Q vs { s with heap := (s.heap.push (seqObj "list" #[] 0)).update s.heap.objs.size (Obj.mapSeq (· ++ vs.toArray)) }) (hsz : vs.length ≤ sizeLine) :
    wpAny (model prog w) A (collect (.ref l)) Q E s := by
  obtain ⟨o, ho, hc, n, hd⟩ := id hl
  unfold collect
  refine wpAny_bind (wpAny_runValue (codeAny_builtin entry_proto_collect' ?_))
  show wpAny _ _ (do again (.builtin "list.__iadd__" ⟨[← newList [], .ref l], []⟩)) _ _ s
  refine wpAny_bind (wpAny_newList (wpAny_pure ⟨Code.quiet_builtin _ (by decide +kernel), codeAny_builtin entry_list_iadd' ?_⟩))
  show wpAny _ _ (Builtin.List.listExtendWith (.ref s.heap.objs.size) (.ref l) (.ref s.heap.objs.size)) _ _ { s with heap := s.heap.push (seqObj "list" #[] 0) }
  unfold Builtin.List.listExtendWith
  have ho' : (s.heap.push (seqObj "list" #[] 0)).get? l = some o := Heap.get?_push_of_some _ ho
  refine wpAny_bind (wpAny_typeOf (T := "tuple") ⟨o, ho', hc⟩ ?_)
  have ht : (Value.type "tuple" == Value.type "tuple") = true := by rfl
  rw [if_pos (by rw [ht]; simp)]
  refine wpAny_bind (listItems_at ho' hd ?_)
  refine wpAny_bind (listItems_at (xs := #[]) (n := 0) (Heap.get?_push_size _ rfl) rfl ?_)
  rw [if_neg (by simp)]
  refine wpAny_bind (listUpdate_at (xs := #[]) (n := 0) (Heap.get?_push_size _ rfl) rfl ?_ (Nat.zero_le _) (by show (#[] ++ vs.toArray).size ≤ sizeLine + 1; simp only [Array.size_append, List.size_toArray, List.length_nil]; omega))
  refine wpAny_pure ?_
  show wpAny (model prog w) A (do
      let o ← load s.heap.objs.size
      match o.data with
      | .seq xs _ => pure xs.toList
      | _ => unsupported "internal:collect") Q E { s with heap := (s.heap.push (seqObj "list" #[] 0)).update s.heap.objs.size (Obj.mapSeq (· ++ vs.toArray)) }
  refine wpAny_bind (wpAny_load (get?_update_seq (Heap.get?_push_size _ rfl) _) ?_)
  show wpAny _ _ (pure ((#[] : Array Value) ++ vs.toArray).toList) Q E _
  rw [show ((#[] : Array Value) ++ vs.toArray).toList = vs by simp]
  exact wpAny_pure h
theorem sortedKT {κ : KeyKind} (hO : κ.OneLt) {l : Addr} {vs : List Value} {Q : Value → Shared → Prop} (hl : IsTup s.heap l vs.toArray) (h0 : KeysOf κ (pairsOf vs)) (hkk : ∀ v₁ v₂ rest, vs = v₁ :: v₂ :: rest → keyKind' (v₁ :: v₂ :: rest).toArray = pure oneType') (h64 : vs.length < 64)
    (h : ∀ st' : SortSt, (arrOf st').Perm (pairsOf vs) → SortedToK κ (arrOf st') (pairsOf vs).size → Q (.ref (s.heap.objs.size + 1)) { s with heap := sortedAll s.heap vs ((arrOf st').map (·.2)) }) :
    wpAny (model prog w) A (call (.builtin "sorted") [.ref l]) Q E s := by
  refine Calls.call_function_entry kind_sorted plain_sorted entry_sorted (args_sorted1 _) ?_
  unfold Builtin.«sorted»
  refine wpAny_bind (m := checkCount "sorted" 1 1 _) (wpAny_pure ?_)
  refine wpAny_bind (collect_tuple hl ?_ (by rw [sizeLine_eq]; omega))
  refine wpAny_bind (wpAny_newList ?_)
  have hsz : ((s.heap.push (seqObj "list" #[] 0)).update s.heap.objs.size (Obj.mapSeq (· ++ vs.toArray))).objs.size = s.heap.objs.size + 1 := by
    rw [Heap.size_update, size_push']
  have hoL : (((s.heap.push (seqObj "list" #[] 0)).update s.heap.objs.size (Obj.mapSeq (· ++ vs.toArray))).push (seqObj "list" vs.toArray 0)).get? (s.heap.objs.size + 1) = some (seqObj "list" vs.toArray 0) := by
    rw [← hsz]; exact Heap.get?_push_size _ rfl
  show wpAny _ _ _ _ _ { s with heap := ((s.heap.push (seqObj "list" #[] 0)).update s.heap.objs.size (Obj.mapSeq (· ++ vs.toArray))).push (seqObj "list" vs.toArray 0) }
  rw [hsz]
  refine wpAny_bind (wpAny_holding (wpAny_call_entry slot_list_sort ⟨_, hoL, rfl⟩ entry_list_sort (list_sort_treeK hO hoL h0 hkk h64 fun st' a1 a2 => ⟨_, rfl, ?_⟩) (args_list_sort _)))
  exact wpAny_pure ⟨_, rfl, h st' a1 a2⟩
theorem sorted_strsT {l : Addr} {vs : List Value} {ss : List Str} {Q : Value → Shared → Prop} (hl : IsTup s.heap l vs.toArray) (hS : StrsAre vs ss) (h64 : vs.length < 64)
    (h : ∀ (out : Array Value) (ss' : List Str), StrsAre out.toList ss' → ss'.Perm ss → sortedS ss' = true → Q (.ref (s.heap.objs.size + 1)) { s with heap := sortedAll s.heap vs out }) :
    wpAny (model prog w) A (call (.builtin "sorted") [.ref l]) Q E s := by
  refine sortedKT strKind_oneLt hl hS.keysOf (fun v₁ v₂ rest e => keyKind_strs (by rw [← e]; exact hS)) h64 fun st' hp hs => ?_
  obtain ⟨ss', h1, h2, h3⟩ := sorted_out_str hS hp hs
  exact h _ ss' h1 h2 h3
end
/-- sorted(t), t a tuple of texts -/
def rSortedST (K : PySem.W.Frag) : List V → Hp → VK → Prop := fun vs H Q => ∃ (a : Addr) (xs : List Str), vs = [V.ref a] ∧ SqT K H a (xs.map V.str) ∧ xs.length < 64 ∧
  ∀ (ys : List Str) (p : Addr), ys.Perm xs → sortedS ys = true → H p = none → Q (.ref p) (upd H p (.lst (ys.map V.str)))
theorem cr_sortedST {X : Cx} : CallR X (.builtin "sorted") (rSortedST X.K) := by
  intro pins s σ H vs us Q I r h
  obtain ⟨a, xs, rfl, hs, h64, q⟩ := h
  obtain ⟨its, rv, hl, _⟩ := I.tuple hs
  rw [Vals.ref1 r]
  have hlen0 := rv.length
  rw [List.length_map] at hlen0
  refine sorted_strsT hl rv.strs (by rw [← hlen0]; exact h64) fun out ys h1 h2 h3 => ?_
  obtain ⟨ep, he'⟩ := PyProof.Rows.sortedAll_at s.heap its out
  have hlen : (ys.map V.str).length ≤ sizeLine := by rw [List.length_map, h2.length_eq]; exact small64 h64
  exact ⟨.ref _, upd H (s.heap.objs.size + 1) (.lst (ys.map V.str)), I.laid (t' := s.toks) (fun _ _ => PyProof.Rows.sortedAll_old) (Nat.le_succ _) ⟨hlen, out.toList, ep, vals_of_strs h1, he'⟩, rfl, q ys _ h2 h3 (I.hok.fresh (Nat.le_succ _))⟩
end U

namespace U
open PySem PySem.Spec PySem.Calls PyProof.Rows L2
theorem int_or_own (a : Int) (t : Tok) (x C dx : Addr) : Meets (Builtin.«int.__or__» ⟨[.int a t, .ref x], []⟩) (fun _ R s => s.heap.get? x = some (PySem.W.instObj C dx) ∧ R (.ok (.ret Value.notImplemented)) s) :=
  .of_wp fun prog w A R s h => by obtain ⟨hp, g, d, tk, os⟩ := s; obtain ⟨hl, h⟩ := h; wp_walk using wpAny_loadPart' hl; exact ⟨_, rfl, h⟩
theorem int_and_own (a : Int) (t : Tok) (x C dx : Addr) : Meets (Builtin.«int.__and__» ⟨[.int a t, .ref x], []⟩) (fun _ R s => s.heap.get? x = some (PySem.W.instObj C dx) ∧ R (.ok (.ret Value.notImplemented)) s) :=
  .of_wp fun prog w A R s h => by obtain ⟨hp, g, d, tk, os⟩ := s; obtain ⟨hl, h⟩ := h; wp_walk using wpAny_loadPart' hl; exact ⟨_, rfl, h⟩
theorem int_xor_own (a : Int) (t : Tok) (x C dx : Addr) : Meets (Builtin.«int.__xor__» ⟨[.int a t, .ref x], []⟩) (fun _ R s => s.heap.get? x = some (PySem.W.instObj C dx) ∧ R (.ok (.ret Value.notImplemented)) s) :=
  .of_wp fun prog w A R s h => by obtain ⟨hp, g, d, tk, os⟩ := s; obtain ⟨hl, h⟩ := h; wp_walk using wpAny_loadPart' hl; exact ⟨_, rfl, h⟩
end U

namespace U
open PySem PySem.Spec PySem.Calls PyProof.Rows L2
section
variable {prog : Program} {w : World} {A : Around} {E : Value → Shared → Prop} {s : Shared} {K : PySem.W.Frag} {x y C L f : Addr} {h₀ : Heap} {m : Str → Option Value} {ox oy : Obj} {od od' : Option Obj} {nm T : String} {Q : Value → Shared → Prop}
/-- x op b, x of an own class, b of a built-in type -/
theorem bin1_T {b : Value} {fo ro rc : Option Value} (X : K.In s.heap) (I : PySem.W.InstAt s.heap x ox C od) (hb : typeOf b = pure (.type T)) (hc : PySem.W.selfFirst K C = true)
    (hs : PySem.W.findIn K (.ref C) (PySem.dunder nm) = some (some (.ref f))) (hf : PySem.W.isFn K (.ref f) = true) (hr : PySem.W.findIn K (.ref C) (dunderR nm) = some rc) (hp : rc = none ∨ ∃ g : Addr, rc = some (.ref g))
    (h1 : PySem.W.findIn K (.type T) (PySem.dunder nm) = some fo) (h2 : PySem.W.findIn K (.type T) (dunderR nm) = some ro) (hsub : PySem.W.subIn K (.type T) (.ref C) = some false)
    (h : wpAny (model prog w) A (call (.ref f) [.ref x, b]) (PySem.W.CmpBack Q) E s) : wpAny (model prog w) A (binaryOp1 nm (.ref x) b) (fun r s' => ∃ v, r = some v ∧ Q v s') E s := by
  obtain ⟨cd, rest, hcd, hm⟩ := PySem.W.ksp_first hc
  have one := PySem.W.ksp_try X I hs hf h
  obtain ⟨hh, g, d, tt, os⟩ := s
  have L1 : PySem.W.Looks (model prog w) hh (typeOf (.ref x)) (.ref C) := I.type
  have L2 : PySem.W.Looks (model prog w) hh (typeOf b) (.type T) := PySem.W.Looks.of_pure hb
  have L3 : PySem.W.Looks (model prog w) hh (fillsNumberSlot (.ref C) nm) true := PySem.W.fills_K X hcd hm hs
  have L4 : PySem.W.Looks (model prog w) hh (fillsNumberSlot (.type T) nm) ((fo.isSome && !isSeqSlot fo) || (ro.isSome && !isSeqSlot ro)) := PySem.W.ksp_fillsT X h1 h2
  have L5 : PySem.W.Looks (model prog w) hh (isSubtype (.type T) (.ref C)) false := PySem.W.looks_subIn X hsub
  have L6 : PySem.W.Looks (model prog w) hh (numberSlotInPython (.ref C) nm) true := PySem.W.ksp_inPy X hs hr hp
  have L7 : PySem.W.Looks (model prog w) hh (numberSlotInPython (.type T) nm) false := PySem.W.Looks.of_pure rfl
  have L8 : PySem.W.Looks (model prog w) hh (typeLookup (.type T) (dunderR nm)) ro := PySem.W.looks_findIn X h2
  generalize ((fo.isSome && !isSeqSlot fo) || (ro.isSome && !isSeqSlot ro)) = right at L4
  have hne : (Value.ref C == Value.type T) = false := Bool.eq_false_iff.mpr fun q => by cases beq_iff_eq.mp q
  unfold binaryOp1
  refine wpAny_bind (L1.at (wpAny_bind (L2.at (wpAny_bind (L3.at ?_)))))
  simp only [hne, Bool.false_eq_true, if_false]
  cases right with
  | false =>
    ksp_lk
    refine wpAny_mono one (fun r s' hr' => ?_) fun _ _ e => e
    obtain ⟨v, rfl, hq⟩ := hr'
    ksp_lk
    exact ⟨v, rfl, hq⟩
  | true =>
    ksp_lk
    refine wpAny_mono one (fun r s' hr' => ?_) fun _ _ e => e
    obtain ⟨v, rfl, hq⟩ := hr'
    ksp_lk
    exact ⟨v, rfl, hq⟩
/-- x op y, both of one own class -/
theorem bin1_same (X : K.In s.heap) (I : PySem.W.InstAt s.heap x ox C od) (J : PySem.W.InstAt s.heap y oy C od') (hc : PySem.W.selfFirst K C = true)
    (hs : PySem.W.findIn K (.ref C) (PySem.dunder nm) = some (some (.ref f))) (hf : PySem.W.isFn K (.ref f) = true)
    (h : wpAny (model prog w) A (call (.ref f) [.ref x, .ref y]) (PySem.W.CmpBack Q) E s) : wpAny (model prog w) A (binaryOp1 nm (.ref x) (.ref y)) (fun r s' => ∃ v, r = some v ∧ Q v s') E s := by
  obtain ⟨cd, rest, hcd, hm⟩ := PySem.W.ksp_first hc
  have one := PySem.W.ksp_try X I hs hf h
  obtain ⟨hh, g, d, tt, os⟩ := s
  have L1 : PySem.W.Looks (model prog w) hh (typeOf (.ref x)) (.ref C) := I.type
  have L2 : PySem.W.Looks (model prog w) hh (typeOf (.ref y)) (.ref C) := J.type
  have L3 : PySem.W.Looks (model prog w) hh (fillsNumberSlot (.ref C) nm) true := PySem.W.fills_K X hcd hm hs
  have hne : (Value.ref C == Value.ref C) = true := beq_self_eq_true _
  unfold binaryOp1
  refine wpAny_bind (L1.at (wpAny_bind (L2.at (wpAny_bind (L3.at ?_)))))
  simp only [hne, if_true]
  ksp_lk
  refine wpAny_mono one (fun r s' hr' => ?_) fun _ _ e => e
  obtain ⟨v, rfl, hq⟩ := hr'
  ksp_lk
  exact ⟨v, rfl, hq⟩
/-- i op x, x of an own class -/
theorem bin1_rev {i : Int} {t : Tok} {fo ro : Option Value} (X : K.In s.heap) (I : PySem.W.InstAt s.heap x ox C od) (hc : PySem.W.selfFirst K C = true) {f' : Addr}
    (hs : PySem.W.findIn K (.ref C) (PySem.dunder nm) = some (some (.ref f'))) (hr : PySem.W.findIn K (.ref C) (dunderR nm) = some (some (.ref f))) (hf : PySem.W.isFn K (.ref f) = true)
    (h1 : PySem.W.findIn K (.type "int") (PySem.dunder nm) = some fo) (h2 : PySem.W.findIn K (.type "int") (dunderR nm) = some ro) (hsub : PySem.W.subIn K (.ref C) (.type "int") = some false)
    (hno : ∀ {R : Option Value → Shared → Prop}, R none s → wpAny (model prog w) A (tryMethod (.int i t) (PySem.dunder nm) (.ref x)) R E s)
    (h : wpAny (model prog w) A (call (.ref f) [.ref x, .int i t]) (PySem.W.CmpBack Q) E s) : wpAny (model prog w) A (binaryOp1 nm (.int i t) (.ref x)) (fun r s' => ∃ v, r = some v ∧ Q v s') E s := by
  obtain ⟨cd, rest, hcd, hm⟩ := PySem.W.ksp_first hc
  have one := PySem.W.ksp_try X I hr hf h
  obtain ⟨hh, g, d, tt, os⟩ := s
  have L1 : PySem.W.Looks (model prog w) hh (typeOf (.ref x)) (.ref C) := I.type
  have L2 : PySem.W.Looks (model prog w) hh (typeOf (.int i t)) (.type "int") := PySem.W.Looks.of_pure rfl
  have L3 : PySem.W.Looks (model prog w) hh (fillsNumberSlot (.ref C) nm) true := PySem.W.fills_K X hcd hm hs
  have L4 : PySem.W.Looks (model prog w) hh (fillsNumberSlot (.type "int") nm) ((fo.isSome && !isSeqSlot fo) || (ro.isSome && !isSeqSlot ro)) := PySem.W.ksp_fillsT X h1 h2
  have L5 : PySem.W.Looks (model prog w) hh (isSubtype (.ref C) (.type "int")) false := PySem.W.looks_subIn X hsub
  have L7 : PySem.W.Looks (model prog w) hh (numberSlotInPython (.type "int") nm) false := PySem.W.Looks.of_pure rfl
  generalize ((fo.isSome && !isSeqSlot fo) || (ro.isSome && !isSeqSlot ro)) = left at L4
  have hne : (Value.type "int" == Value.ref C) = false := Bool.eq_false_iff.mpr fun q => by cases beq_iff_eq.mp q
  unfold binaryOp1
  refine wpAny_bind (L2.at (wpAny_bind (L1.at (wpAny_bind (L4.at ?_)))))
  simp only [hne, Bool.false_eq_true, if_false]
  cases left with
  | false =>
    ksp_lk
    refine wpAny_mono one (fun r s' hr' => ?_) fun _ _ e => e
    obtain ⟨v, rfl, hq⟩ := hr'
    ksp_lk
    exact ⟨v, rfl, hq⟩
  | true =>
    ksp_lk
    refine hno ?_
    ksp_lk
    refine wpAny_mono one (fun r s' hr' => ?_) fun _ _ e => e
    obtain ⟨v, rfl, hq⟩ := hr'
    ksp_lk
    exact ⟨v, rfl, hq⟩
end
/-- the operators of bits -/
def bitO : Operator → Bool
  | .BitOr | .BitAnd | .BitXor => true
  | _ => false
section
variable {prog : Program} {w : World} {A : Around} {E : Value → Shared → Prop} {s : Shared} {x C dx : Addr} {i : Int} {t : Tok}
theorem int_declines {op : Operator} (ho : bitO op = true) (hx : s.heap.get? x = some (PySem.W.instObj C dx)) {R : Option Value → Shared → Prop} (h : R none s) : wpAny (model prog w) A (tryMethod (.int i t) (PySem.dunder op.info.2) (.ref x)) R E s := by
  have key : ∀ {nm id : String} {B : Builtin} (slot : Slot "int" (PySem.dunder nm) id) (entry : entryFor table id = some B) (args : argsOk id ⟨[.int i t, .ref x], []⟩)
      (g : Meets (B ⟨[.int i t, .ref x], []⟩) (fun _ R s => s.heap.get? x = some (PySem.W.instObj C dx) ∧ R (.ok (.ret Value.notImplemented)) s)), wpAny (model prog w) A (tryMethod (.int i t) (PySem.dunder nm) (.ref x)) R E s := fun {nm id B} slot entry args g => by
    unfold tryMethod
    exact wpAny_bind (wpAny_callSpecial?_slot (typeIs_int s i t) slot (call_meets slot (typeIs_int s i t) entry args g ⟨hx, wpAny_pure h⟩))
  cases op <;> first | (cases ho; done) | skip
  · exact key (nm := "or") PySem.F.slot_int_or PySem.F.entry_int_or (PySem.F.args_int_or_2 _ _) (int_or_own i t x C dx)
  · exact key (nm := "xor") PySem.F.slot_int_xor PySem.F.entry_int_xor (PySem.F.args_int_xor_2 _ _) (int_xor_own i t x C dx)
  · exact key (nm := "and") PySem.F.slot_int_and PySem.F.entry_int_and (PySem.F.args_int_and_2 _ _) (int_and_own i t x C dx)
end
/-- what of the text a class must have for an operator of bits, on both sides of an int -/
structure OprF (K : PySem.W.Frag) (C : Addr) (op : Operator) : Prop where
  bit : bitO op = true
  first : PySem.W.selfFirst K C = true
  fwd : ∃ f : Addr, PySem.W.findIn K (.ref C) (PySem.dunder op.info.2) = some (some (.ref f))
  rev : ∃ f : Addr, PySem.W.findIn K (.ref C) (dunderR op.info.2) = some (some (.ref f))
  i1 : (PySem.W.findIn K (.type "int") (PySem.dunder op.info.2)).isSome = true
  i2 : (PySem.W.findIn K (.type "int") (dunderR op.info.2)).isSome = true
  sub : PySem.W.subIn K (.type "int") (.ref C) = some false
  bus : PySem.W.subIn K (.ref C) (.type "int") = some false
  ipI : PySem.W.findIn K (.type "int") (dunderI op.info.2) = some none
  ipC : ((PySem.W.clsIn K C).any fun cd => cd.mro.all fun c => decide (PySem.W.findIn K c (dunderI op.info.2) = some none)) = true
section
variable {prog : Program} {w : World} {A : Around} {E : Value → Shared → Prop} {s : Shared} {K : PySem.W.Frag} {x C : Addr} {ox : Obj} {od : Option Obj} {nm : String} {Q : Value → Shared → Prop}
theorem bin_of {op : Operator} {a b : Value} (h : wpAny (model prog w) A (binaryOp1 op.info.2 a b) (fun r s' => ∃ v, r = some v ∧ Q v s') E s) : wpAny (model prog w) A (binaryOp op a b) Q E s := by
  rcases hi : op.info with ⟨sym, nm⟩
  rw [hi] at h
  simp only [binaryOp, hi]
  refine wpAny_holding (wpAny_bind (wpAny_mono h (fun r s' hr => ?_) fun _ _ e => e))
  obtain ⟨v, rfl, hq⟩ := hr
  exact wpAny_pure hq
theorem noInp {cd : ClassData} (X : K.In s.heap) (hc : PySem.W.clsIn K C = some cd) (h : (cd.mro.all fun c => decide (PySem.W.findIn K c (dunderI nm) = some none)) = true) {add : Bool} : PySem.W.Looks (model prog w) s.heap (fillsInplaceSlot (.ref C) nm add) false := by
  intro A Q E s' k q
  have Lm : PySem.W.Looks (model prog w) s.heap (mroOf (.ref C)) cd.mro := (PySem.W.looks_clsIn X hc).andThen (f := fun cd => pure cd.mro) .now
  have Lm' := Lm.keeps k
  obtain ⟨hh, g, d, tt, os⟩ := s'
  have X' : K.In hh := X.keeps k
  unfold fillsInplaceSlot
  refine wpAny_bind (Lm'.at ?_)
  generalize cd.mro = l at h
  induction l with
  | nil => exact wpAny_pure q
  | cons c r ih =>
    rw [List.all_cons] at h
    obtain ⟨h1, h2⟩ := Bool.and_eq_true_iff.mp h
    rw [List.anyM_cons]
    have L1 : PySem.W.Looks (model prog w) hh (typeLookup c (dunderI nm)) none := PySem.W.looks_findIn X' (of_decide_eq_true h1)
    refine wpAny_bind (wpAny_bind (L1.at (wpAny_pure ?_)))
    exact ih h2
theorem inp_of {op : Operator} {a b ta : Value} (hT : PySem.W.Looks (model prog w) s.heap (typeOf a) ta) (hi : PySem.W.Looks (model prog w) s.heap (fillsInplaceSlot ta op.info.2 (op == .Add)) false)
    (h : wpAny (model prog w) A (binaryOp1 op.info.2 a b) (fun r s' => ∃ v, r = some v ∧ Q v s') E s) : wpAny (model prog w) A (inplaceOp op a b) Q E s := by
  unfold inplaceOp
  refine wpAny_holding (wpAny_bind (hT.here (wpAny_bind (hi.here ?_))))
  simp only [Bool.false_eq_true, if_false]
  refine wpAny_bind (wpAny_mono h (fun r s' hr => ?_) fun _ _ e => e)
  obtain ⟨v, rfl, hq⟩ := hr
  exact wpAny_pure hq
end
end U

namespace U
open PySem PySem.Spec PyProof.Rows L2

abbrev St := L2.St
/-- built-in functions and types that are called -/
inductive B where
  | len | abs | int | bool | str | list | tuple | sum | all | any | sorted | dict
  deriving DecidableEq
/-- methods of built-in types -/
inductive M where
  | append | join | find | split | count | get | extend | pop
  deriving DecidableEq
/-- a class that isinstance is asked for -/
inductive CR where
  | ty (n : String) | own (x : Str)
  deriving DecidableEq

/-- the text of a body, as it is read -/
inductive I where
  | k (v : V) | v (i : Nat) | g (x : Str)
  | bop (op : Operator) (a b : I) | uop (op : UnaryOp) (a : I)
  | not (a : I) | and (a b : I) | or (a b : I) | ite (c a b : I)
  | cmp (op : CmpOp) (a b : I) | cmp2 (op op' : CmpOp) (a b c : I)
  | lst (as : I) | tup (as : I) | dic (ps : I)
  | call (f : Str) (as : I) | mk (c : Str) (as : I) | bi (f : B) (as : I)
  | isi (a : I) (cs : List CR) (many : Bool)
  | meth (o : I) (m : Str) (as : I) | bm (m : M) (o as : I)
  | icall (o as : I) (ks : List Str) (zs : I) | ostr (a : I)
  | att (o : I) (f : Str)
  | ix (o i : I) | sl (o lo hi : I)
  | lc (own : List (Str × Nat)) (elt tg it : I) (hasIf : Bool) (cond : I)
  | nil | cons (a b : I) | pair (k v r : I)
  | tupG (gs : I) | subG (o i : I) | attG (o : I) (f : Str)
  | itL (e : I) | itT (e : I) | itS (e : I) | itR1 (a : I) | itR2 (a b : I) | itE (e : I) | itES (e : I) | itET (e : I) | itZ (a b : I)
  | set (g e : I) | setLc (i : Nat) (e : I) | par (i j : Nat) (as : I) | par3 (i j l : Nat) (as : I) | aug (i : Nat) (op : Operator) (e : I)
  | expr (e : I) | ret (e : I) | retN | if_ (c a b : I) | while_ (c b : I) | for_ (tg it b : I)
  | raise (c : Str) (as : I) | try_ (c : Str) (i : Nat) (b s : I) | eatt (o : I) (f : Str) | eisi (o : I) (c : CR)
  | never | pass | brk | cont
  | lamc (f : Str) (b : I) | act (i : Nat)
  | methk (o : I) (m : Str) (as : I) (ks : List Str) (zs : I) | smeth (c m : Str) (as : I) (ks : List Str) (zs : I) | oeq (a b : I)
  | rep (a : I) | one (a b : I) | fmt (a : I) | joi (a b c d e f g h i j : I) | callk (f : Str) (as : I) (ks : List Str) (zs : I)
  | xcmp (op : CmpOp) (a b : I) | obin (op : Operator) (a b : I) | oinv (a : I) | oin (a b : I) | oaug (i : Nat) (op : Operator) (e : I)
  | olen (a : I) | obool (a : I) | cat (c f : Str) | fo3 (a : I) | unl (gs : I)
  | rev (a : I) | oeqs (a b : I) | rgl (t : Bool) (a : I)
  | cmeth (c m : Str) (as : I) (ks : List Str) (zs : I) | mkv (cs : List Str) (a as : I) | mkk (c : Str) (as : I) (ks : List Str) (zs : I)

/-- how many parts -/
def I.len : I → Nat
  | .cons _ b => b.len + 1
  | _ => 0
/-- one item of a walk: a value, or a new tuple of values -/
inductive It1 where
  | v (x : V) | t (xs : List V)
abbrev TI1 := St → Hp → ((Hp → Prop) → List It1 → Hp → Prop) → Prop

/-- a lambda that a def has got: the function's place, its code object's, what it does -/
structure LamT where
  f : Addr
  c : Addr
  q : Str
  i : Nat
  T : XK → Hp → VK → Prop
structure Ctx where
  K : PySem.W.Frag
  w : World
  fn : Str → Sp
  gv : Str → Option V
  tabs : List KTab
  mth : Str → Str → Option Str
  prp : Str → Str → Option Str
  fld : Str → Str → Bool
  isi : Str → CR → Option Bool
  xf : Str → Option (List Str)
  kwo : Str → Nat → List Str → Option (List Nat)
  exm : Str → Str → Option Bool
  eis : Str → CR → Option Bool
  lt : List (Addr × Str)
  lfn : Str → (XK → Hp → VK → Prop) → Hp → VK → Prop
  lam : Option LamT
  smt : Str → Str → Option Str
  cmt : Str → Str → Option Str
  cvl : Str → Str → Option V
  opr : Str → Operator → Bool
  sub : Str → Str → Option Bool
  dfl : Str → List V

/-- what a text means: as an expression, a test, arguments, a statement, a target, targets, a walked thing, the pairs of a display, an end of a slice -/
structure Rd1 where
  e : TE
  t : TT
  a : TA
  s : TS
  g : TG
  gs : TGs
  i : TI1
  p : List (TE × TE)
  o : St → Hp → (Option Int → Hp → Prop) → Prop

def rB (K : PySem.W.Frag) : B → List V → Hp → VK → Prop
  | .len => fun vs H Q => match vs with
    | [.str z] => z.length ≤ sizeLine ∧ Q (.int z.length) H
    | [.ref p] => (∃ ys, SqL K H p ys ∧ Q (.int ys.length) H) ∨ (∃ ys, SqT K H p ys ∧ Q (.int ys.length) H) ∨ ∃ kvs, H p = some (.dK kvs) ∧ Q (.int kvs.length) H
    | _ => False
  | .abs => fun vs H Q => match vs with
    | [.int i] => Q (.int (if i < 0 then -i else i)) H
    | _ => False
  | .int => fun vs H Q => match vs with
    | [.int i] => Q (.int i) H
    | [.bl b] => Q (.int (if b then 1 else 0)) H
    | [.str a] => ∃ n, PySem.intText? a = some n ∧ a.length ≤ 640 ∧ Q (.int n) H
    | _ => False
  | .bool => fun vs H Q => match vs with
    | [.int i] => Q (.bl (i != 0)) H
    | [.bl b] => Q (.bl b) H
    | _ => False
  | .str => fun vs H Q => match vs with
    | [.int i] => i.natAbs.log2 < 1920 ∧ Q (.str (toString i)) H
    | [.str a] => Q (.str a) H
    | _ => False
  | .list => fun vs H Q => match vs with
    | [.ref p] => ∃ ys, (SqL K H p ys ∨ SqT K H p ys) ∧ ∀ l, H l = none → Q (.ref l) (upd H l (.lst ys))
    | [.str z] => z.length ≤ sizeLine ∧ ∀ l, H l = none → Q (.ref l) (upd H l (.lst (z.cps.toList.map fun c => .str (S [c]))))
    | _ => False
  | .tuple => fun vs H Q => match vs with
    | [.ref p] => ∃ ys, (SqL K H p ys ∧ ∀ l, H l = none → Q (.ref l) (upd H l (.tup ys))) ∨ (SqT K H p ys ∧ Q (.ref p) H)
    | [.str z] => z.length ≤ sizeLine ∧ ∀ l, H l = none → Q (.ref l) (upd H l (.tup (z.cps.toList.map fun c => .str (S [c]))))
    | _ => False
  | .sum => fun vs H Q => match vs with
    | [.ref p] => ∃ ns : List Int, SqL K H p (ns.map V.int) ∧ Q (.int ns.sum) H
    | _ => False
  | .all => fun vs H Q => match vs with
    | [.ref p] => ∃ bs : List Bool, SqL K H p (bs.map V.bl) ∧ Q (.bl (bs.all id)) H
    | _ => False
  | .any => fun vs H Q => match vs with
    | [.ref p] => ∃ bs : List Bool, SqL K H p (bs.map V.bl) ∧ Q (.bl (bs.any id)) H
    | _ => False
  | .sorted => fun vs H Q => rSorted K vs H Q ∨ rSortedS K vs H Q ∨ rSortedST K vs H Q
  | .dict => fun vs H Q => match vs with
    | [.ref p] => ∃ kvs, Rd H p (.dK kvs) ∧ ∀ q, H q = none → Q (.ref q) (upd H q (.dK kvs))
    | _ => False
def rM (K : PySem.W.Frag) : M → V → List V → Hp → VK → Prop
  | .append => rAppend
  | .join => fun x xs H Q => ∃ a p, ∃ ys : List Str, x = .str a ∧ xs = [.ref p] ∧ (SqL K H p (ys.map V.str) ∨ SqT K H p (ys.map V.str)) ∧ (ys.map (·.length)).sum + ys.length * a.length ≤ 16777216 ∧ Q (.str (Txt.join a ys)) H
  | .find => fun x xs H Q => ∃ a b, x = .str a ∧ xs = [.str b] ∧ Q (.int (Txt.find a b)) H
  | .split => fun x xs H Q => ∃ a b, x = .str a ∧ xs = [.str b] ∧ (b.length == 0) = false ∧ a.length + 2 ≤ sizeLine ∧ rNewStrs (Txt.split a b) H Q
  | .count => fun x xs H Q => ∃ a b, x = .str a ∧ xs = [.str b] ∧ Q (.int (Txt.count a b)) H
  | .get => fun x xs H Q => ∃ p y z o, x = .ref p ∧ xs = [y, z] ∧ DGet H p y o ∧ Q (o.getD z) H
  | .extend => rExtend
  | .pop => rPopAt
/-- the built-in type of a method -/
def M.T : M → String
  | .append | .extend | .pop => "list"
  | .get => "dict"
  | _ => "str"
def M.nm : M → Str
  | .append => "append" | .join => "join" | .find => "find" | .split => "split" | .count => "count" | .get => "get" | .extend => "extend" | .pop => "pop"

/-- the name of a built-in value's type -/
def tyN : V → Option String
  | .non => some "NoneType" | .bl _ => some "bool" | .int _ => some "int" | .str _ => some "str" | _ => none
def tyHO : HO → Option String
  | .lst _ => some "list" | .tup _ => some "tuple" | .dK _ => some "dict" | _ => none
def subTy (a b : String) : Bool := a == b || (a == "bool" && b == "int") || b == "object"
/-- a built-in type against a class -/
def isiT (t : String) : CR → Bool
  | .ty n => subTy t n
  | .own _ => false
/-- isinstance(x, c) is b -/
def Isi (C : Ctx) (H : Hp) (x : V) (cs : List CR) (Q : VK) : Prop := match tyN x with
  | some t => Q (.bl (cs.any (isiT t))) H
  | none => match x with
    | .ref p => (∃ cn dx fs, H p = some (.ins (He.ga C.K cn) dx fs) ∧ ∃ bs : List Bool, cs.map (C.isi cn) = bs.map some ∧ Q (.bl (bs.any id)) H) ∨
        ∃ o, (H p = some o ∨ ∃ ob, H p = some (.frz ob o)) ∧ ∃ t, tyHO o = some t ∧ Q (.bl (cs.any (isiT t))) H
    | _ => False

/-- e.f of an own instance -/
def rAtt (C : Ctx) (f : Str) (E : XK) (x : V) (H : Hp) (Q : VK) : Prop := match x with
  | .ref a => ∃ cn dx fs, H a = some (.ins (He.ga C.K cn) dx fs) ∧ ((C.fld cn f = true ∧ ∃ v, fs.lookup f = some v ∧ Q v H) ∨ ∃ key, C.prp cn f = some key ∧ C.fn key [.ref a] H Q fun _ _ _ => False)
  | _ => False
/-- the values in the parameters' order -/
def byOrd (vs : List V) (ord : List Nat) : Option (List V) := ord.mapM fun i => vs[i]?

/-- a call with keywords, vs the positional values, us the keywords' -/
def kwRun (C : Ctx) (key : Str) (ks : List Str) (vs us : List V) (H : Hp) (Q : VK) (E : XK) : Prop := match ks with
  | [] => C.fn key vs H Q E
  | ks => us.length = ks.length ∧ ∃ ord ts, C.kwo key vs.length ks = some ord ∧ byOrd (vs ++ (us ++ C.dfl key)) ord = some ts ∧ C.fn key ts H Q E

/-! ### walks -/
def forGo (ok : Hp → Prop) (g : TG) (gs : TGs) (tb : TS) (D : Ends) : List It1 → St → Hp → Prop
  | [], σ, H => ok H ∧ D.nx σ H
  | .v x :: r, σ, H => ok H ∧ g x σ H fun σ2 H2 => tb { D with nx := forGo ok g gs tb D r, ct := forGo ok g gs tb D r, bk := D.nx } σ2 H2
  | .t xs :: r, σ, H => ok H ∧ ∀ T, H T = none → gs xs σ (upd H T (.tup xs)) fun σ2 H2 => tb { D with nx := forGo ok g gs tb D r, ct := forGo ok g gs tb D r, bk := D.nx } σ2 H2
/-- what a turn of a comprehension does with the next item -/
def lcTurn (tt : TT) (te : TE) (Dl : Addr) (vs : List Nat) (σ : St) (nx : Hp → Prop) (σ2 : St) (H2 : Hp) : Prop :=
  wipe σ2 vs = wipe σ vs ∧ tt σ2 H2 fun b H3 => if b = true then te σ2 H3 fun y H4 => ∃ acc, H4 Dl = some (.lst acc) ∧ acc.length < sizeLine ∧ nx (upd H4 Dl (.lst (acc ++ [y]))) else nx H3
def lcGo (ok : Hp → Prop) (g : TG) (gs : TGs) (tt : TT) (te : TE) (Dl : Addr) (vs : List Nat) (σ : St) (Q : VK) : List It1 → Hp → Prop
  | [], H => ok H ∧ Q (.ref Dl) H
  | .v x :: r, H => ok H ∧ g x (wipe σ vs) H (lcTurn tt te Dl vs σ (lcGo ok g gs tt te Dl vs σ Q r))
  | .t xs :: r, H => ok H ∧ ∀ T, H T = none → gs xs (wipe σ vs) (upd H T (.tup xs)) (lcTurn tt te Dl vs σ (lcGo ok g gs tt te Dl vs σ Q r))

def noW : WX := fun _ _ _ _ => False
def lcIf (b : Bool) (t : TT) : TT := match b with
  | true => t
  | false => fun _ H Q => Q true H
def noE : TE := fun _ _ _ => False
def noT : TT := fun _ _ _ => False
def noA : TA := fun _ _ _ => False
def noS : TS := fun _ _ _ => False
def noG : TG := fun _ _ _ _ => False
def noGs : TGs := fun _ _ _ _ => False
def noI : TI1 := fun _ _ _ => False
def noO : St → Hp → (Option Int → Hp → Prop) → Prop := fun _ _ _ => False
def Rd1.ofE (K : PySem.W.Frag) (e : TE) : Rd1 :=
  { e := e, t := fun σ H Q => e σ H fun x H' => match x with
      | .bl b => Q b H'
      | x => ∃ b, TruV K x H' b ∧ Q b H'
    a := noA, s := noS, g := noG, gs := noGs, i := noI, p := [],
    o := fun σ H Q => e σ H fun x H' => match x with
      | .int i => Q (some i) H'
      | _ => False }
def Rd1.ofET (e : TE) (t : TT) : Rd1 := { e := e, t := t, a := noA, s := noS, g := noG, gs := noGs, i := noI, p := [], o := noO }
def Rd1.ofS (s : TS) : Rd1 := { e := noE, t := noT, a := noA, s := s, g := noG, gs := noGs, i := noI, p := [], o := noO }
def Rd1.ofG (g : TG) : Rd1 := { e := noE, t := noT, a := noA, s := noS, g := g, gs := noGs, i := noI, p := [], o := noO }
def Rd1.ofI (i : TI1) : Rd1 := { e := noE, t := noT, a := noA, s := noS, g := noG, gs := noGs, i := i, p := [], o := noO }
def Rd1.ofP (p : List (TE × TE)) : Rd1 := { e := noE, t := noT, a := noA, s := noS, g := noG, gs := noGs, i := noI, p := p, o := noO }

/-- a slice by values -/
def rSlU (K : PySem.W.Frag) (x : V) (lo hi : Option Int) (H : Hp) (Q : VK) : Prop := match x with
  | .str z => z.length ≤ sizeLine ∧ Q (.str (cutS z lo hi)) H
  | .ref a => rSlL K (.ref a) lo hi H Q ∨ rSlA K (.ref a) lo hi H Q
  | _ => False
def rIxU (K : PySem.W.Frag) (w : World) (T : List KTab) : R2 := fun x y H Q => match x, y with
  | .str z, .int i => z.length ≤ sizeLine ∧ ∃ c, atI z.cps.toList i = some c ∧ Q (.str (S [c])) H
  | .ref a, .int i => (∃ xs, SqL K H a xs ∧ ∃ v, atI xs i = some v ∧ Q v H) ∨ (∃ xs, SqT K H a xs ∧ ∃ v, atI xs i = some v ∧ Q v H) ∨ ∃ v, DGet H a (.int i) (some v) ∧ Q v H
  | .ref a, .str z => (∃ kvs, Rd H a (.dK kvs) ∧ ∃ v, valV kvs (.inr z) = some v ∧ Q v H) ∨ ∃ v, KHas K w T a z (some v) ∧ Q v H
  | _, _ => False
/-- o[i] = v -/
def rSetU : V → V → V → Hp → (Hp → Prop) → Prop := fun o i v H Q => match o, i with
  | .ref p, .int j => (∃ xs, H p = some (.lst xs) ∧ ∃ n, ixN xs.length j = some n ∧ Q (upd H p (.lst (xs.set n v)))) ∨ ∃ kvs, H p = some (.dK kvs) ∧ kvs.length < sizeLine ∧ Q (upd H p (.dK (putK kvs (.inl j) v)))
  | .ref p, .str z => ∃ kvs, H p = some (.dK kvs) ∧ kvs.length < sizeLine ∧ Q (upd H p (.dK (putK kvs (.inr z) v)))
  | _, _ => False

/-- what an own __eq__ is asked for: a value of a built-in type, one of the same class -/
def EqR (C : Ctx) (H : Hp) (cn : Str) (y : V) : Prop := (tyN y).isSome = true ∨ (∃ q dy gs, y = .ref q ∧ H q = some (.ins (He.ga C.K cn) dy gs)) ∨ ∃ q o, y = .ref q ∧ Rd H q o ∧ (tyHO o).isSome = true
/-- x != y by the class's own __eq__ -/
def rOne (C : Ctx) : R2 := fun x y H Q => match x with
  | .ref p => ∃ cn dx fs key, H p = some (.ins (He.ga C.K cn) dx fs) ∧ C.mth cn "__eq__" = some key ∧ EqR C H cn y ∧
      C.fn key [x, y] H (fun v H' => match v with | .bl k => Q (.bl (!k)) H' | _ => False) fun _ _ _ => False
  | _ => False
/-- repr(x) of data; of an own instance by its __repr__ -/
def rRep (C : Ctx) (x : V) (H : Hp) (Q : VK) : Prop := (∃ d, Dp C.K H x d ∧ d.showable = true ∧ d.shown.length ≤ sizeLine ∧ d.depth ≤ 60 ∧ Q (.str d.shown) H) ∨
  ∃ p cn dx fs key, x = .ref p ∧ H p = some (.ins (He.ga C.K cn) dx fs) ∧ C.mth cn "__repr__" = some key ∧ C.fn key [x] H (fun v H' => match v with | .str z => Q (.str z) H' | _ => False) fun _ _ _ => False
/-- x == y by the class's own __eq__ -/
def rOeq (C : Ctx) : R2 := fun x y H Q => match x with
  | .ref p => ∃ cn dx fs key, H p = some (.ins (He.ga C.K cn) dx fs) ∧ C.mth cn "__eq__" = some key ∧ EqR C H cn y ∧
      C.fn key [x, y] H (fun v H' => match v with | .bl k => Q (.bl k) H' | _ => False) fun _ _ _ => False
  | _ => False
/-- len(x) by the class's own __len__ -/
def rOlen (C : Ctx) (x : V) (H : Hp) (Q : VK) : Prop := match x with
  | .ref p => ∃ cn dx fs key, H p = some (.ins (He.ga C.K cn) dx fs) ∧ C.mth cn "__len__" = some key ∧
      C.fn key [x] H (fun v H' => match v with | .int k => (0 ≤ k ∧ k < 2 ^ 63) ∧ Q (.int k) H' | _ => False) fun _ _ _ => False
  | _ => False
/-- bool(x) by the class's own __bool__ -/
def rObool (C : Ctx) (x : V) (H : Hp) (Q : VK) : Prop := match x with
  | .ref p => ∃ cn dx fs key, H p = some (.ins (He.ga C.K cn) dx fs) ∧ C.mth cn "__bool__" = some key ∧
      C.fn key [x] H (fun v H' => match v with | .bl k => Q (.bl k) H' | _ => False) fun _ _ _ => False
  | _ => False
/-- a comparison, also of data in a tuple, of a dict with a text -/
def rXc (C : Ctx) (op : CmpOp) : R2 := fun x y H Q => rCmp C.K C.w C.tabs op x y H Q ∨ rX C.K op x y H Q
/-- x op y by the class's own method: an instance with an int or one of the same class, an int with an instance -/
def rObin (C : Ctx) (E : XK) (op : Operator) : R2 := fun x y H Q =>
  (∃ p cn dx fs key, x = .ref p ∧ H p = some (.ins (He.ga C.K cn) dx fs) ∧ C.opr cn op = true ∧ C.mth cn (PySem.dunder op.info.2) = some key ∧ ((∃ i, y = .int i) ∨ ∃ q dy gs, y = .ref q ∧ H q = some (.ins (He.ga C.K cn) dy gs)) ∧ C.fn key [x, y] H Q E) ∨
  ∃ q cn dx fs key i, x = .int i ∧ y = .ref q ∧ H q = some (.ins (He.ga C.K cn) dx fs) ∧ C.opr cn op = true ∧ C.mth cn (PySem.dunderR op.info.2) = some key ∧ C.fn key [y, x] H Q E
/-- x in y by the class's own __contains__ -/
def rOin (C : Ctx) : R2 := fun x y H Q => match y with
  | .ref p => ∃ cn dx fs key, H p = some (.ins (He.ga C.K cn) dx fs) ∧ C.mth cn "__contains__" = some key ∧
      C.fn key [y, x] H (fun v H' => match v with | .bl k => Q (.bl k) H' | _ => False) fun _ _ _ => False
  | _ => False
/-- x == y of two own classes: the right side's method comes first if its class is below the left one's -/
def rOeqs (C : Ctx) : R2 := fun x y H Q => ∃ p cn dx fs q cn' dy gs, x = .ref p ∧ y = .ref q ∧ H p = some (.ins (He.ga C.K cn) dx fs) ∧ H q = some (.ins (He.ga C.K cn') dy gs) ∧
  ((C.sub cn' cn = some false ∧ ∃ key, C.mth cn "__eq__" = some key ∧ C.fn key [x, y] H (fun v H' => match v with | .bl k => Q (.bl k) H' | _ => False) fun _ _ _ => False) ∨
   (C.sub cn' cn = some true ∧ ∃ key, C.mth cn' "__eq__" = some key ∧ C.fn key [y, x] H (fun v H' => match v with | .bl k => Q (.bl k) H' | _ => False) fun _ _ _ => False))
/-- three octal digits -/
def S3o : Str := S [48, 51, 111]
def oct3 (a : Int) : Str := S [48 + (a / 64).toNat, 48 + (a / 8 % 8).toNat, 48 + (a % 8).toNat]
def rd (C : Ctx) : I → WX → Rd1
  | .k v, _ => .ofE C.K fun _ H Q => Q v H
  | .v i, _ => { Rd1.ofE C.K (fun σ H Q => match σ[i]? with
      | some (some v) => Q v H
      | _ => False) with g := gName i }
  | .g x, _ => .ofE C.K fun _ H Q => match C.gv x with
      | some v => Q v H
      | none => False
  | .bop op a b, W => .ofE C.K fun σ H Q => (rd C a W).e σ H fun x H1 => (rd C b W).e σ H1 fun y H2 => rBin C.K op x y H2 Q
  | .uop op a, W => .ofE C.K fun σ H Q => (rd C a W).e σ H fun x H1 => rUn op x H1 Q
  | .not a, W => .ofET (fun σ H Q => (rd C a W).e σ H fun x H1 => match x with
      | .bl c => Q (.bl (!c)) H1
      | x => ∃ k, TruV C.K x H1 k ∧ Q (.bl (!k)) H1) (tNot (rd C a W).t)
  | .and a b, W => .ofET (fun σ H Q => (rd C a W).e σ H fun x H1 => match x with
      | .bl c => if c = true then (rd C b W).e σ H1 Q else Q (.bl false) H1
      | _ => False) (tAnd (rd C a W).t (rd C b W).t)
  | .or a b, W => .ofET (fun σ H Q => (rd C a W).e σ H fun x H1 => match x with
      | .bl c => if c = true then Q (.bl true) H1 else (rd C b W).e σ H1 Q
      | _ => False) (tOr (rd C a W).t (rd C b W).t)
  | .ite c a b, W => .ofET (fun σ H Q => (rd C c W).t σ H fun k H1 => if k = true then (rd C a W).e σ H1 Q else (rd C b W).e σ H1 Q) noT
  | .cmp op a b, W => .ofET (fun σ H Q => (rd C a W).e σ H fun x H1 => (rd C b W).e σ H1 fun y H2 => rCmp C.K C.w C.tabs op x y H2 Q)
      (fun σ H Q => (rd C a W).e σ H fun x H1 => (rd C b W).e σ H1 fun y H2 => rCmp C.K C.w C.tabs op x y H2 fun z H3 => match z with
        | .bl k => Q k H3
        | _ => False)
  | .cmp2 op op' a b c, W =>
      let t : TE := fun σ H Q => (rd C a W).e σ H fun x H1 => (rd C b W).e σ H1 fun y H2 => rCmp C.K C.w C.tabs op x y H2 fun z H3 => match z with
        | .bl k => if k = true then (rd C c W).e σ H3 fun u H4 => rCmp C.K C.w C.tabs op' y u H4 Q else Q (.bl false) H3
        | _ => False
      .ofET t (fun σ H Q => t σ H fun z H3 => match z with
        | .bl k => Q k H3
        | _ => False)
  | .lst as, W => .ofE C.K fun σ H Q => (rd C as W).a σ H fun xs H1 => xs.length ≤ sizeLine ∧ ∀ p, H1 p = none → Q (.ref p) (upd H1 p (.lst xs))
  | .tup as, W => .ofE C.K fun σ H Q => (rd C as W).a σ H fun xs H1 => xs.length ≤ sizeLine ∧ ∀ p, H1 p = none → Q (.ref p) (upd H1 p (.tup xs))
  | .dic ps, W => .ofE C.K fun σ H Q => match (rd C ps W).p with
      | [] => ∀ p, H p = none → Q (.ref p) (upd H p (.dK []))
      | trs => tDisp trs σ H Q
  | .call f as, W => .ofE C.K fun σ H Q => (rd C as W).a σ H fun vs H1 => C.fn f vs H1 Q fun cls d H' => W cls d σ H'
  | .mk c as, W => .ofE C.K fun σ H Q => (rd C as W).a σ H fun vs H1 => ∀ x dx, H1 x = none → H1 dx = none → dx ≠ x →
      ∃ key, C.mth c "__init__" = some key ∧ C.fn key (.ref x :: vs) (upd (upd H1 dx (.own x)) x (.ins (He.ga C.K c) dx [])) (fun v H2 => v = .non ∧ Q (.ref x) H2) fun cls d H' => W cls d σ H'
  | .bi f as, W => .ofE C.K fun σ H Q => (rd C as W).a σ H fun vs H1 => rB C.K f vs H1 Q
  | .isi a cs many, W => .ofE C.K fun σ H Q => (rd C a W).e σ H fun x H1 => match many with
      | false => Isi C H1 x cs Q
      | true => ∀ p, H1 p = none → Isi C (upd H1 p (.tup (cs.map fun c => match c with | .ty n => V.ty n | .own x => V.ref (He.ga C.K x)))) x cs Q
  | .meth o m as, W => .ofE C.K fun σ H Q => (rd C o W).e σ H fun x H1 => match x with
      | .ref a => ∃ cn dx fs key, H1 a = some (.ins (He.ga C.K cn) dx fs) ∧ C.mth cn m = some key ∧ fs.lookup m = none ∧
          (rd C as W).a σ H1 fun vs H2 => C.fn key (.ref a :: vs) H2 Q fun cls d H' => W cls d σ H'
      | _ => False
  | .bm m o as, W => .ofE C.K fun σ H Q => (rd C o W).e σ H fun x H1 => tyV C.K m.T x H1 ∧ (rd C as W).a σ H1 fun vs H2 => rM C.K m x vs H2 Q
  | .icall o as ks zs, W => .ofE C.K fun σ H Q => (rd C o W).e σ H fun x H1 => match x with
      | .ref a => ∃ cn, (∃ dx fs, H1 a = some (.ins (He.ga C.K cn) dx fs)) ∧ (rd C as W).a σ H1 fun vs H2 => (rd C zs W).a σ H2 fun us H3 => ∃ dx fs key, H3 a = some (.ins (He.ga C.K cn) dx fs) ∧ C.mth cn "__call__" = some key ∧
          kwRun C key ks (.ref a :: vs) us H3 Q (fun cls d H' => W cls d σ H')
      | _ => False
  | .ostr a, W => .ofE C.K fun σ H Q => (rd C a W).e σ H fun x H1 => match x with
      | .ref a => ∃ cn dx fs key, H1 a = some (.ins (He.ga C.K cn) dx fs) ∧ C.mth cn "__str__" = some key ∧ C.fn key [.ref a] H1 (fun v H2 => match v with | .str z => Q (.str z) H2 | _ => False) fun _ _ _ => False
      | _ => False
  | .att o f, W => .ofE C.K fun σ H Q => (rd C o W).e σ H fun x H1 => rAtt C f (fun cls d H' => W cls d σ H') x H1 Q
  | .ix o i, W => .ofE C.K fun σ H Q => (rd C o W).e σ H fun x H1 => (rd C i W).e σ H1 fun y H2 => rIxU C.K C.w C.tabs x y H2 Q
  | .sl o lo hi, W => .ofE C.K fun σ H Q => (rd C o W).e σ H fun x H1 => (rd C lo W).o σ H1 fun l H2 => (rd C hi W).o σ H2 fun h H3 => rSlU C.K x l h H3 Q
  | .lc own elt tg it hasIf cond, W => .ofE C.K fun σ H Q => (rd C it W).i σ H fun ok items H1 => ∀ Dl, H1 Dl = none →
      lcGo ok (rd C tg noW).g (rd C tg noW).gs (lcIf hasIf (rd C cond noW).t) (rd C elt noW).e Dl (own.map (·.2)) σ Q items (upd H1 Dl (.lst []))
  | .nil, _ => ⟨noE, noT, fun _ H Q => Q [] H, fun D σ H => D.nx σ H, noG, gNil, noI, [], fun _ H Q => Q none H⟩
  | .cons a b, W => ⟨noE, noT, fun σ H Q => (rd C a W).e σ H fun x H1 => (rd C b W).a σ H1 fun xs H2 => Q (x :: xs) H2,
      fun D σ H => (rd C a W).s { D with nx := (rd C b W).s D } σ H, noG, (fun vs σ H Q => match vs with
        | v :: r => (rd C a W).g v σ H fun σ' H' => (rd C b W).gs r σ' H' Q
        | [] => False), noI, [], noO⟩
  | .pair k v r, W => .ofP (((rd C k W).e, (rd C v W).e) :: (rd C r W).p)
  | .tupG gs, W => { Rd1.ofG (fun v σ H Q => match v with
      | .ref a => ∃ xs, SqT C.K H a xs ∧ xs.length = gs.len ∧ (rd C gs W).gs xs σ H Q
      | _ => False) with gs := fun vs σ H Q => vs.length = gs.len ∧ (rd C gs W).gs vs σ H Q }
  | .subG o i, W => .ofG fun v σ H Q => (rd C o W).e σ H fun x H1 => (rd C i W).e σ H1 fun y H2 => rSetU x y v H2 fun H3 => Q σ H3
  | .attG o f, W => .ofG fun v σ H Q => (rd C o W).e σ H fun x H1 => match x with
      | .ref a => ∃ cn dx fs, H1 a = some (.ins (He.ga C.K cn) dx fs) ∧ C.fld cn f = true ∧ fs.length < 1000 ∧ Q σ (upd H1 a (.ins (He.ga C.K cn) dx (putF f v fs)))
      | _ => False
  | .itL e, W => .ofI fun σ H R => (rd C e W).e σ H fun x H1 => match x with
      | .ref a => ∃ xs, SqL C.K H1 a xs ∧ R (fun H' => SqL C.K H' a xs) (xs.map .v) H1
      | _ => False
  | .itT e, W => .ofI fun σ H R => (rd C e W).e σ H fun x H1 => match x with
      | .ref a => ∃ xs, SqT C.K H1 a xs ∧ R (fun H' => SqT C.K H' a xs) (xs.map .v) H1
      | _ => False
  | .itS e, W => .ofI fun σ H R => (rd C e W).e σ H fun x H1 => match x with
      | .str z => R (fun _ => True) (z.cps.toList.map fun c => .v (.str (S [c]))) H1
      | _ => False
  | .itR1 a, W => .ofI fun σ H R => (rd C a W).e σ H fun x H1 => match x with
      | .int j => -(2 ^ 62) ≤ j ∧ j < 2 ^ 62 ∧ R (fun _ => True) ((List.range j.toNat).map fun i => .v (.int (i : Nat))) H1
      | _ => False
  | .itR2 a b, W => .ofI fun σ H R => (rd C a W).e σ H fun x H1 => (rd C b W).e σ H1 fun y H2 => match x, y with
      | .int i, .int j => (-(2 ^ 62) ≤ i ∧ i < 2 ^ 62 ∧ -(2 ^ 62) ≤ j ∧ j < 2 ^ 62) ∧ R (fun _ => True) ((List.range (j - i).toNat).map fun k => .v (.int (i + (k : Nat)))) H2
      | _, _ => False
  | .itE e, W => .ofI fun σ H R => (rd C e W).e σ H fun x H1 => match x with
      | .ref a => ∃ xs, SqL C.K H1 a xs ∧ R (fun H' => SqL C.K H' a xs) (xs.zipIdx.map fun p => .t [.int (p.2 : Nat), p.1]) H1
      | _ => False
  | .itES e, W => .ofI fun σ H R => (rd C e W).e σ H fun x H1 => match x with
      | .str z => R (fun _ => True) (z.cps.toList.zipIdx.map fun p => .t [.int (p.2 : Nat), .str (S [p.1])]) H1
      | _ => False
  | .itET e, W => .ofI fun σ H R => (rd C e W).e σ H fun x H1 => match x with
      | .ref a => ∃ xs, SqT C.K H1 a xs ∧ R (fun H' => SqT C.K H' a xs) (xs.zipIdx.map fun p => .t [.int (p.2 : Nat), p.1]) H1
      | _ => False
  | .itZ a b, W => .ofI fun σ H R => (rd C a W).e σ H fun x H1 => (rd C b W).e σ H1 fun y H2 => match x, y with
      | .ref p, .ref q => ∃ xs ys, SqL C.K H2 p xs ∧ SqL C.K H2 q ys ∧ R (fun H' => SqL C.K H' p xs ∧ SqL C.K H' q ys) ((xs.zip ys).map fun z => .t [z.1, z.2]) H2
      | _, _ => False
  | .set g e, W => .ofS fun D σ H => (rd C e W).e σ H fun x H1 => (rd C g W).g x σ H1 D.nx
  | .setLc i e, W => .ofS fun D σ H => (rd C e W).e σ H fun x H1 => D.nx (σ.set i (some x)) H1
  | .par i j as, W => .ofS (tPar i j (rd C as W).a)
  | .par3 i j l as, W => .ofS (tPar3 i j l (rd C as W).a)
  | .aug i op e, W => .ofS noS
  | .expr e, W => .ofS fun D σ H => (rd C e W).e σ H fun _ H1 => D.nx σ H1
  | .ret e, W => .ofS fun D σ H => (rd C e W).e σ H D.rt
  | .retN, _ => .ofS fun D _ H => D.rt .non H
  | .if_ c a b, W => .ofS fun D σ H => (rd C c W).t σ H fun k H1 => if k = true then (rd C a W).s D σ H1 else (rd C b W).s D σ H1
  | .while_ c b, W => .ofS (tWhile (rd C c W).t (rd C b W).s)
  | .for_ tg it b, W => .ofS fun D σ H => (rd C it W).i σ H fun ok items H1 => forGo ok (rd C tg W).g (rd C tg W).gs (rd C b W).s D items σ H1
  | .raise c as, W => .ofS fun _ σ H => (rd C as W).a σ H fun vs H1 => ∃ fs, C.xf c = some fs ∧ vs.length = fs.length ∧ ∀ d, H1 d = none → W (.ref (He.ga C.K c)) (some d) σ (upd H1 d (.xd (fs.zip vs).reverse))
  | .try_ c i b s, W => .ofS fun D σ H => (rd C b fun cls d σ' H' => ∃ cn k, cls = .ref (He.ga C.K cn) ∧ C.exm cn c = some k ∧
      (k = true → ∀ a, H' a = none → (rd C s noW).s ⟨fun σ2 H2 => D.nx (σ2.set i none) H2, D.rt, fun σ2 H2 => D.bk (σ2.set i none) H2, fun σ2 H2 => D.ct (σ2.set i none) H2⟩ (σ'.set i (some (.ref a))) (upd H' a (errO a cls d))) ∧ (k = false → W cls d σ' H')).s D σ H
  | .eatt o f, W => .ofE C.K fun σ H Q => (rd C o W).e σ H fun x H1 => match x with
      | .ref a => ∃ cn d fs, H1 a = some (errO a (.ref (He.ga C.K cn)) (some d)) ∧ H1 d = some (.xd fs) ∧ (∃ es, C.xf cn = some es ∧ f ∈ es) ∧ ∃ v, fs.lookup f = some v ∧ Q v H1
      | _ => False
  | .eisi o c, W => .ofE C.K fun σ H Q => (rd C o W).e σ H fun x H1 => match x with
      | .ref a => ∃ cn d fs k, H1 a = some (errO a (.ref (He.ga C.K cn)) (some d)) ∧ H1 d = some (.xd fs) ∧ C.eis cn c = some k ∧ Q (.bl k) H1
      | _ => False
  | .never, _ => .ofS noS
  | .pass, _ => .ofS fun D σ H => D.nx σ H
  | .brk, _ => .ofS fun D σ H => D.bk σ H
  | .cont, _ => .ofS fun D σ H => D.ct σ H
  | .methk o m as ks zs, W => .ofE C.K fun σ H Q => (rd C o W).e σ H fun x H1 => match x with
      | .ref a => ∃ cn dx fs key, H1 a = some (.ins (He.ga C.K cn) dx fs) ∧ C.mth cn m = some key ∧ fs.lookup m = none ∧
          (rd C as W).a σ H1 fun vs H2 => (rd C zs W).a σ H2 fun us H3 => kwRun C key ks (.ref a :: vs) us H3 Q fun cls d H' => W cls d σ H'
      | _ => False
  | .smeth c m as ks zs, W => .ofE C.K fun σ H Q => match C.smt c m with
      | some key => (rd C as W).a σ H fun vs H2 => (rd C zs W).a σ H2 fun us H3 => kwRun C key ks vs us H3 Q fun cls d H' => W cls d σ H'
      | none => False
  | .cmeth c m as ks zs, W => .ofE C.K fun σ H Q => match C.cmt c m with
      | some key => (rd C as W).a σ H fun vs H2 => (rd C zs W).a σ H2 fun us H3 => kwRun C key ks (.ref (He.ga C.K c) :: vs) us H3 Q fun cls d H' => W cls d σ H'
      | none => False
  | .mkv cs a as, W => .ofE C.K fun σ H Q => (rd C a W).e σ H fun f H0 => ∃ c, c ∈ cs ∧ f = .ref (He.ga C.K c) ∧ (rd C as W).a σ H0 fun vs H1 => ∀ x dx, H1 x = none → H1 dx = none → dx ≠ x →
      ∃ key, C.mth c "__init__" = some key ∧ kwRun C key [] (.ref x :: vs) [] (upd (upd H1 dx (.own x)) x (.ins (He.ga C.K c) dx [])) (fun v H2 => v = .non ∧ Q (.ref x) H2) fun cls d H' => W cls d σ H'
  | .mkk c as ks zs, W => .ofE C.K fun σ H Q => (rd C as W).a σ H fun vs H0 => (rd C zs W).a σ H0 fun us H1 => ∀ x dx, H1 x = none → H1 dx = none → dx ≠ x →
      ∃ key, C.mth c "__init__" = some key ∧ kwRun C key ks (.ref x :: vs) us (upd (upd H1 dx (.own x)) x (.ins (He.ga C.K c) dx [])) (fun v H2 => v = .non ∧ Q (.ref x) H2) fun cls d H' => W cls d σ H'
  | .oeq a b, W => .ofET (fun σ H Q => (rd C a W).e σ H fun x H1 => (rd C b W).e σ H1 fun y H2 => rOeq C x y H2 Q)
      (fun σ H Q => (rd C a W).e σ H fun x H1 => (rd C b W).e σ H1 fun y H2 => rOeq C x y H2 fun z H3 => match z with
        | .bl k => Q k H3
        | _ => False)
  | .one a b, W => .ofET (fun σ H Q => (rd C a W).e σ H fun x H1 => (rd C b W).e σ H1 fun y H2 => rOne C x y H2 Q)
      (fun σ H Q => (rd C a W).e σ H fun x H1 => (rd C b W).e σ H1 fun y H2 => rOne C x y H2 fun z H3 => match z with
        | .bl k => Q k H3
        | _ => False)
  | .rep a, W => .ofE C.K fun σ H Q => (rd C a W).e σ H fun x H1 => rRep C x H1 Q
  | .xcmp op a b, W => .ofET (fun σ H Q => (rd C a W).e σ H fun x H1 => (rd C b W).e σ H1 fun y H2 => rXc C op x y H2 Q)
      (fun σ H Q => (rd C a W).e σ H fun x H1 => (rd C b W).e σ H1 fun y H2 => rXc C op x y H2 fun z H3 => match z with
        | .bl k => Q k H3
        | _ => False)
  | .obin op a b, W => .ofE C.K fun σ H Q => (rd C a W).e σ H fun x H1 => (rd C b W).e σ H1 fun y H2 => rObin C (fun cls d H' => W cls d σ H') op x y H2 Q
  | .oinv a, W => .ofE C.K fun σ H Q => (rd C a W).e σ H fun x H1 => match x with
      | .ref p => ∃ cn dx fs key, H1 p = some (.ins (He.ga C.K cn) dx fs) ∧ C.mth cn "__invert__" = some key ∧ C.fn key [.ref p] H1 Q fun cls d H' => W cls d σ H'
      | _ => False
  | .oin a b, W => .ofET (fun σ H Q => (rd C a W).e σ H fun x H1 => (rd C b W).e σ H1 fun y H2 => rOin C x y H2 Q)
      (fun σ H Q => (rd C a W).e σ H fun x H1 => (rd C b W).e σ H1 fun y H2 => rOin C x y H2 fun z H3 => match z with
        | .bl k => Q k H3
        | _ => False)
  | .oaug i op e, W => .ofS fun D σ H => ∃ x, σ[i]? = some (some x) ∧ (rd C e W).e σ H fun y H1 => rObin C (fun cls d H' => W cls d σ H') op x y H1 fun z H2 => D.nx (σ.set i (some z)) H2
  | .rev a, W => .ofE C.K (tRevL C.K (rd C a W).e)
  | .rgl t a, W => .ofE C.K fun σ H Q => (rd C a W).e σ H fun x H1 => ∃ n, x = .int n ∧ RgOk 0 n ∧ ∀ q, H1 q = none → Q (.ref q) (upd H1 q (match t with | true => .tup (rgV 0 n) | false => .lst (rgV 0 n)))
  | .oeqs a b, W => .ofET (fun σ H Q => (rd C a W).e σ H fun x H1 => (rd C b W).e σ H1 fun y H2 => rOeqs C x y H2 Q)
      (fun σ H Q => (rd C a W).e σ H fun x H1 => (rd C b W).e σ H1 fun y H2 => rOeqs C x y H2 fun z H3 => match z with
        | .bl k => Q k H3
        | _ => False)
  | .olen a, W => .ofE C.K fun σ H Q => (rd C a W).e σ H fun x H1 => rOlen C x H1 Q
  | .obool a, W => .ofE C.K fun σ H Q => (rd C a W).e σ H fun x H1 => rObool C x H1 Q
  | .cat c f, W => .ofE C.K fun _ H Q => match C.cvl c f with
      | some v => Q v H
      | none => False
  | .fo3 a, W => .ofET (fun σ H Q => (rd C a W).e σ H fun x H1 => match x with
      | .int i => 0 ≤ i ∧ i < 512 ∧ Q (.str (oct3 i)) H1
      | _ => False) noT
  | .unl gs, W => .ofG fun v σ H Q => match v with
      | .ref a => ∃ xs, SqL C.K H a xs ∧ xs.length = gs.len ∧ (rd C gs W).gs xs σ H Q
      | _ => False
  | .fmt a, W => .ofET (tFmt (rd C a W).e) noT
  | .joi a b c d e f g h i j, W => .ofE C.K fun σ H Q => tJs ([(a, (rd C a W).e), (b, (rd C b W).e), (c, (rd C c W).e), (d, (rd C d W).e), (e, (rd C e W).e), (f, (rd C f W).e), (g, (rd C g W).e), (h, (rd C h W).e), (i, (rd C i W).e), (j, (rd C j W).e)].filterMap fun p => match p.1 with
      | .nil => none
      | _ => some p.2) Str.empty σ H fun out H1 => Q (.str out) H1
  | .callk f as ks zs, W => .ofE C.K fun σ H Q => (rd C as W).a σ H fun vs H1 => (rd C zs W).a σ H1 fun us H2 => kwRun C f ks vs us H2 Q fun cls d H' => W cls d σ H'
  | .lamc f b, W => .ofE C.K fun σ H Q => LamX.Tabs C.lt H ∧ ∀ H1, LamX.ExtN H H1 → LamX.Tabs C.lt H1 → C.lfn f (fun E H' Q' => (rd C b fun cls d _ H2 => E cls d H2).e σ H' Q') H1 Q
  | .act i, W => .ofE C.K fun σ H Q => match C.lam with
      | some L => L.i = i ∧ σ[i]? = some (some (.ref L.f)) ∧ H L.c = some (LamX.CodeO L.c L.q) ∧ L.T (fun cls d H' => W cls d σ H') H Q
      | none => False
end U

namespace U
open PySem PySem.Spec PyProof.Rows L2

/-! ### what is looked at in the text -/
structure SD where
  frees : List Str
  globs : List Str
  fns : List Str
  clss : List Str
  mks : List Str
  errs : List Str
  ecls : List Str
  lfns : List Str
structure SC where
  N : List Str
  sc : Scope
  top : Bool
  calm : Bool
  lam : Bool
def SC.vis (S : SC) (x : Str) : Bool := match S.sc.names.lookup x with
  | some .local => true | some .cell => true | some .free => true | _ => false
def SC.loc (S : SC) (x : Str) : Bool := match S.sc.names.lookup x with
  | some .local => true | some .cell => S.top | _ => false
def SC.gl (S : SC) (x : Str) : Bool := match S.sc.names.lookup x with
  | some .globalImplicit => !(x == ("__debug__" : Str)) && !(x == ("__name__" : Str)) | _ => false
def nst : Expr → Bool
  | .Starred .. => false
  | _ => true
def abase : Expr → Bool
  | .Call (.Name ..) [] [] _ => false
  | _ => true
def noSlice : Expr → Bool
  | .Slice .. => false
  | _ => true
def noComp : Expr → Bool
  | .ListComp .. => false | .SetComp .. => false | .DictComp .. => false
  | _ => true
def noSet : Expr → Bool
  | .Set .. => false
  | _ => true
def noTup : Expr → Bool
  | .Tuple .. => false | .List .. => false
  | _ => true
def constV : Const → Option V
  | .none => some .non | .bool b => some (.bl b) | .int i => some (.int i) | .str x => some (.str x) | _ => none
def B.nm : B → Str
  | .len => "len" | .abs => "abs" | .int => "int" | .bool => "bool" | .str => "str" | .list => "list" | .tuple => "tuple" | .sum => "sum" | .all => "all" | .any => "any" | .sorted => "sorted" | .dict => "dict"
/-- a class, as isinstance's second argument -/
def crOk (D : SD) (S : SC) (c : CR) : Expr → Bool
  | .Name x _ => S.gl x && (match c with
    | .ty n => decide (x ∈ D.frees) && (decide (bootBuiltins x = some (.type n)) && decide (n ∈ ["int", "bool", "str", "list", "tuple", "dict"]))
    | .own y => decide (x = y) && decide (x ∈ D.clss))
  | _ => false
def crsOk (D : SD) (S : SC) : List CR → List Expr → Bool
  | [], [] => true
  | c :: cs, e :: es => crOk D S c e && crsOk D S cs es
  | _, _ => false

/-- a class that a caught error is asked for -/
def ecrOk (D : SD) (S : SC) (c : CR) : Expr → Bool
  | .Name x _ => S.gl x && (match c with
    | .ty n => decide (x ∈ D.frees) && decide (bootBuiltins x = some (.type n))
    | .own y => decide (x = y) && decide (x ∈ D.ecls))
  | _ => false
/-- what is called: a name, a call's answer -/
def calE : Expr → Bool
  | .Name .. => true
  | .Call .. => true
  | _ => false
/-- the tests of a comprehension: none, or one -/
def ifOk (b : Bool) (f : Expr → Bool) (ifs : List Expr) : Bool := match b with
  | true => (match ifs with | [c] => f c | _ => false)
  | false => ifs.isEmpty
/-- several names, one of them no plain local -/
def notLoc (sc : Scope) : Expr → Bool
  | .Name x _ => !(sc.names.lookup x == some .local)
  | _ => true
def notSwap (sc : Scope) : Expr → Expr → Bool
  | .Tuple ts _ _, .Tuple vs _ _ => ts.any (notLoc sc)
  | _, _ => false
/-- one name, that is no plain local -/
def cellT (sc : Scope) : Expr → Bool
  | .Name x _ => !(sc.names.lookup x == some .local)
  | _ => false
/-- no parameters -/
def noPar (a : Arguments) : Bool := a.posonlyargs.isEmpty && a.args.isEmpty && a.vararg.isNone && a.kwonlyargs.isEmpty && a.kw_defaults.isEmpty && a.kwarg.isNone && a.defaults.isEmpty
structure Ck where
  e : Expr → Bool := fun _ => false
  a : List Expr → Bool := fun _ => false
  s : Stmt → Bool := fun _ => false
  ss : List Stmt → Bool := fun _ => false
  g : Expr → Bool := fun _ => false
  gs : List Expr → Bool := fun _ => false
  i : Expr → Expr → Bool := fun _ _ => false
  p : List (Option Expr) → List Expr → Bool := fun _ _ => false
  o : Option Expr → Bool := fun _ => false
/-- a check that holds where no error is handled -/
def Ck.when (b : Bool) (k : Ck) : Ck := match b with
  | true => k
  | false => {}
/-- from a check of an expression: also a part of a slice -/
def Ck.ofE (f : Expr → Bool) : Ck := { e := f, o := fun | some x => f x | none => false }
def Ck.ofB (f : Expr → Bool) : Ck := { e := f }
def isBool (op : BoolOp) (f : List Expr → Bool) : Expr → Bool
  | .BoolOp op' vs _ => decide (op = op') && f vs
  | _ => false

/-- the parts of an f-string -/
def jois : List (Expr → Bool) → List Expr → Bool
  | [], [] => true
  | f :: fs, e :: es => f e && jois fs es
  | _, _ => false

def chk (D : SD) : I → SC → Ck
  | .k v, _ => .ofE fun
      | .Constant c _ _ => decide (constV c = some v)
      | _ => false
  | .v i, S => { Ck.ofE (fun
      | .Name x _ => decide (S.N[i]? = some x) && S.vis x && !(x == ("__debug__" : Str)) && !(x == ("__classdict__" : Str))
      | _ => false) with
      g := fun
      | .Name x _ => decide (S.N[i]? = some x) && S.loc x
      | _ => false }
  | .g y, S => .ofE fun
      | .Name x _ => decide (x = y) && S.gl x && decide (x ∈ D.globs)
      | _ => false
  | .bop op a b, S => .ofE fun
      | .BinOp x op' y _ => decide (op = op') && (chk D a S).e x && (chk D b S).e y
      | _ => false
  | .uop op a, S => .ofE fun
      | .UnaryOp op' x _ => decide (op = op') && decide (op ≠ .Not) && (chk D a S).e x
      | _ => false
  | .not a, S => .ofB fun
      | .UnaryOp op x _ => decide (op = .Not) && (chk D a S).e x
      | _ => false
  | .and a b, S => { Ck.ofB (fun
      | .BoolOp op (x :: rest) pos => decide (op = .And) && !rest.isEmpty && (chk D a S).e x && (match rest with
        | [y] => (chk D b S).e y
        | ys => (chk D b S).e (.BoolOp .And ys pos))
      | _ => false) with a := fun _ => false }
  | .or a b, S => { Ck.ofB (fun
      | .BoolOp op (x :: rest) pos => decide (op = .Or) && !rest.isEmpty && (chk D a S).e x && (match rest with
        | [y] => (chk D b S).e y
        | ys => (chk D b S).e (.BoolOp .Or ys pos))
      | _ => false) with a := fun _ => false }
  | .ite c a b, S => .ofB fun
      | .IfExp x y z _ => (chk D c S).e x && (chk D a S).e y && (chk D b S).e z
      | _ => false
  | .cmp op a b, S => .ofB fun
      | .Compare x ops ys _ => (match ops, ys with
        | [op'], [y] => decide (op = op') && !behindInMarks op y && (chk D a S).e x && (chk D b S).e y
        | _, _ => false)
      | _ => false
  | .cmp2 op1 op2 a b c, S => .ofB fun
      | .Compare x ops ys _ => (match ops, ys with
        | [o1, o2], [y, z] => decide (op1 = o1) && decide (op2 = o2) && !lastMarks [o1, o2] [y, z] && (chk D a S).e x && (chk D b S).e y && (chk D c S).e z
        | _, _ => false)
      | _ => false
  | .lst as, S => .ofE fun
      | .List es _ => (chk D as S).a es
      | _ => false
  | .tup as, S => .ofE fun
      | .Tuple es _ _ => (chk D as S).a es
      | _ => false
  | .dic ps, S => .ofE fun
      | .Dict ks vs _ => decide (ks.length ≤ 15) && decide (ks.length = vs.length) && (chk D ps S).p ks vs
      | _ => false
  | .call f as, S => Ck.when S.calm <| .ofE fun
      | .Call (.Name x _) es [] _ => decide (x = f) && S.gl x && decide (x ∈ D.fns) && (chk D as S).a es
      | _ => false
  | .mk c as, S => Ck.when S.calm <| .ofE fun
      | .Call (.Name x _) es [] _ => decide (x = c) && S.gl x && decide (x ∈ D.mks) && (chk D as S).a es
      | _ => false
  | .bi f as, S => Ck.when S.calm <| .ofE fun
      | .Call (.Name x _) es [] _ => decide (x = f.nm) && S.gl x && decide (x ∈ D.frees) && !es.isEmpty && (chk D as S).a es
      | _ => false
  | .isi a cs many, S => .ofE fun
      | .Call (.Name x _) [y, c] [] _ => decide (x = ("isinstance" : Str)) && S.gl x && decide (x ∈ D.frees) && nst y && !cs.isEmpty && (chk D a S).e y && (match many with
        | false => nst c && crsOk D S cs [c]
        | true => (match c with
          | .Tuple es _ _ => es.all nst && crsOk D S cs es && decide (es.length ≤ 15)
          | _ => false))
      | _ => false
  | .meth o m as, S => Ck.when S.calm <| .ofE fun
      | .Call (.Attribute x f ap) es [] pos => decide (f = m) && abase x && (ap.endLine == pos.line) && decide (es.length < 29) && (chk D o S).e x && (chk D as S).a es
      | _ => false
  | .bm m o as, S => .ofE fun
      | .Call (.Attribute x f ap) es [] pos => decide (f = m.nm) && abase x && (ap.endLine == pos.line) && decide (es.length < 29) && !es.isEmpty && (chk D o S).e x && (chk D as S).a es
      | _ => false
  | .icall o as ks zs, S => Ck.when S.calm <| .ofE fun
      | .Call fe es kws pos => calE fe && (chk D o S).e fe && (chk D as S).a es && decide (kws.map (·.arg) = ks.map some) && (chk D zs S).a (kws.map (·.value)) && decide (es.length + kws.length < 12)
      | _ => false
  | .ostr a, S => Ck.when S.calm <| .ofE fun
      | .Call (.Name x _) [y] [] _ => decide (x = ("str" : Str)) && S.gl x && decide (x ∈ D.frees) && nst y && (chk D a S).e y
      | _ => false
  | .att o f, S => Ck.when S.calm <| .ofE fun
      | .Attribute x f' _ => decide (f = f') && abase x && (chk D o S).e x
      | _ => false
  | .ix o i, S => .ofE fun
      | .Subscript x y _ => noSlice y && (chk D o S).e x && (chk D i S).e y
      | _ => false
  | .sl o lo hi, S => .ofE fun
      | .Subscript x (.Slice l h none _) _ => (chk D o S).e x && (chk D lo S).o l && (chk D hi S).o h
      | _ => false
  | .lc own elt tg it hasIf cond, S => Ck.when S.calm <| .ofE fun
      | .ListComp x [⟨t, it', ifs, 0⟩] sc _ => blkC S.N S.sc sc own && noSet it' && (chk D it S).i t it' && (chk D tg ⟨S.N, relS sc S.sc, false, true, false⟩).g t && ifOk hasIf (chk D cond ⟨S.N, relS sc S.sc, false, true, false⟩).e ifs && (chk D elt ⟨S.N, relS sc S.sc, false, true, false⟩).e x
      | _ => false
  | .nil, _ => ⟨fun _ => false, fun es => es.isEmpty, fun _ => false, fun ss => ss.isEmpty, fun _ => false, fun es => es.isEmpty, fun _ _ => false, fun ks vs => ks.isEmpty && vs.isEmpty, fun o => o.isNone⟩
  | .cons a b, S => ⟨fun _ => false, (fun | e :: es => nst e && (chk D a S).e e && (chk D b S).a es | [] => false), fun _ => false, (fun | s :: ss => (chk D a S).s s && (chk D b S).ss ss | [] => false), fun _ => false,
      (fun | e :: es => nst e && (chk D a S).g e && (chk D b S).gs es | [] => false), fun _ _ => false, fun _ _ => false, fun _ => false⟩
  | .pair k v r, S => { p := fun ks vs => match ks, vs with
      | some x :: ks, y :: vs => (chk D k S).e x && (chk D v S).e y && (chk D r S).p ks vs
      | _, _ => false }
  | .tupG gs, S => Ck.when S.calm { g := fun
      | .Tuple es _ _ => (chk D gs S).gs es
      | _ => false }
  | .subG o i, S => { g := fun
      | .Subscript x y _ => noSlice y && (chk D o S).e x && (chk D i S).e y
      | _ => false }
  | .attG o f, S => { g := fun
      | .Attribute x f' _ => decide (f = f') && abase x && (chk D o S).e x
      | _ => false }
  | .itL e, S => { i := fun _ x => (chk D e S).e x }
  | .itT e, S => { i := fun _ x => (chk D e S).e x }
  | .itS e, S => { i := fun _ x => (chk D e S).e x }
  | .itR1 a, S => { i := fun _ x => match x with
      | .Call (.Name f _) [y] [] _ => decide (f = ("range" : Str)) && S.gl f && decide (f ∈ D.frees) && nst y && (chk D a S).e y
      | _ => false }
  | .itR2 a b, S => { i := fun _ x => match x with
      | .Call (.Name f _) [y, z] [] _ => decide (f = ("range" : Str)) && S.gl f && decide (f ∈ D.frees) && nst y && nst z && (chk D a S).e y && (chk D b S).e z
      | _ => false }
  | .itE e, S => { i := fun t x => match t, x with
      | .Tuple _ _ _, .Call (.Name f _) [y] [] _ => decide (f = ("enumerate" : Str)) && S.gl f && decide (f ∈ D.frees) && nst y && (chk D e S).e y
      | _, _ => false }
  | .itES e, S => { i := fun t x => match t, x with
      | .Tuple _ _ _, .Call (.Name f _) [y] [] _ => decide (f = ("enumerate" : Str)) && S.gl f && decide (f ∈ D.frees) && nst y && (chk D e S).e y
      | _, _ => false }
  | .itET e, S => { i := fun t x => match t, x with
      | .Tuple _ _ _, .Call (.Name f _) [y] [] _ => decide (f = ("enumerate" : Str)) && S.gl f && decide (f ∈ D.frees) && nst y && (chk D e S).e y
      | _, _ => false }
  | .itZ a b, S => { i := fun t x => match t, x with
      | .Tuple _ _ _, .Call (.Name f _) [y, z] [] _ => decide (f = ("zip" : Str)) && S.gl f && decide (f ∈ D.frees) && nst y && nst z && (chk D a S).e y && (chk D b S).e z
      | _, _ => false }
  | .set g e, S => { s := fun
      | .Assign [t] x _ => (noComp x || cellT S.sc t) && (noTup t || noTup x || notSwap S.sc t x) && nst t && (chk D g S).g t && (chk D e S).e x
      | _ => false }
  | .setLc i e, S => Ck.when S.calm { s := fun
      | .Assign [.Name y py] x _ => (match x with
        | .ListComp _ [_] sc pos => decide (S.N[i]? = some y) && decide (S.sc.names.lookup y = some .local) && (py.line == pos.line) && !(sc.names.any fun (n, k) => n == y && (k == .local || k == .cell))
        | _ => false) && (chk D e S).e x
      | _ => false }
  | .par i j as, S => Ck.when S.calm { s := fun
      | .Assign [.Tuple [.Name x px, .Name y py] _ _] (.Tuple [a, b] _ _) _ => decide (S.N[i]? = some x) && decide (S.N[j]? = some y) && decide (i ≠ j) && decide (S.sc.names.lookup x = some .local) && decide (S.sc.names.lookup y = some .local) &&
          (px.line == py.line) && !([a, b].all (foldedForSure 8)) && !([a, b].all (constantsAlone 8)) && (chk D as S).a [a, b]
      | _ => false }
  | .par3 i j l as, S => Ck.when S.calm { s := fun
      | .Assign [.Tuple [.Name x px, .Name y py, .Name z pz] _ _] (.Tuple [a, b, c] _ _) _ => decide (S.N[i]? = some x) && decide (S.N[j]? = some y) && decide (S.N[l]? = some z) && (decide (i ≠ j) && decide (i ≠ l) && decide (j ≠ l)) && (decide (S.sc.names.lookup x = some .local) && decide (S.sc.names.lookup y = some .local) && decide (S.sc.names.lookup z = some .local)) &&
          ((px.line == py.line) && (py.line == pz.line)) && !([a, b, c].all (foldedForSure 8)) && !([a, b, c].all (constantsAlone 8)) && (chk D as S).a [a, b, c]
      | _ => false }
  | .aug _ _ _, _ => {}
  | .expr e, S => { s := fun
      | .Expr x _ => noComp x && (chk D e S).e x
      | _ => false }
  | .ret e, S => { s := fun
      | .Return (some x) _ => (chk D e S).e x
      | _ => false }
  | .retN, _ => { s := fun
      | .Return none _ => true
      | _ => false }
  | .if_ c a b, S => { s := fun
      | .If x as bs _ => (chk D c S).e x && (chk D a S).ss as && (chk D b S).ss bs
      | _ => false }
  | .while_ c b, S => { s := fun
      | .While x bs [] _ => (chk D c S).e x && (chk D b S).ss bs
      | _ => false }
  | .for_ tg it b, S => Ck.when S.calm { s := fun
      | .For t x bs [] _ => noSet x && (chk D tg S).g t && (chk D it S).i t x && (chk D b S).ss bs
      | _ => false }
  | .raise c as, S => Ck.when S.calm { s := fun
      | .Raise (some (.Call (.Name x _) es [] _)) none _ => decide (x = c) && S.gl x && decide (x ∈ D.errs) && !es.isEmpty && (chk D as S).a es
      | _ => false }
  | .try_ c i b s, S => Ck.when S.calm { s := fun
      | .Try body [.ExceptHandler (some (.Name x _)) (some nm) (s0 :: suite) _] [] [] _ => decide (x = c) && S.gl x && decide (x ∈ D.ecls) && S.top && decide (S.N[i]? = some nm) && decide (S.sc.names.lookup nm = some .local) && (chk D b S).ss body && (chk D s ⟨S.N, S.sc, S.top, false, false⟩).ss (s0 :: suite)
      | _ => false }
  | .eatt o f, S => .ofE fun
      | .Attribute x f' _ => decide (f = f') && abase x && (chk D o S).e x
      | _ => false
  | .eisi o c, S => .ofE fun
      | .Call (.Name x _) [y, z] [] _ => decide (x = ("isinstance" : Str)) && S.gl x && decide (x ∈ D.frees) && nst y && nst z && (chk D o S).e y && ecrOk D S c z
      | _ => false
  | .methk o m as ks zs, S => Ck.when S.calm <| .ofE fun
      | .Call (.Attribute x f ap) es kws pos => decide (f = m) && abase x && (ap.endLine == pos.line) && decide (es.length + kws.length < 12) && (chk D o S).e x && (chk D as S).a es && decide (kws.map (·.arg) = ks.map some) && (chk D zs S).a (kws.map (·.value))
      | _ => false
  | .smeth c m as ks zs, S => Ck.when S.calm <| .ofE fun
      | .Call (.Attribute (.Name x _) f ap) es kws pos => decide (x = c) && S.gl x && decide (x ∈ D.clss) && decide (f = m) && (ap.endLine == pos.line) && decide (es.length + kws.length < 12) && (chk D as S).a es && decide (kws.map (·.arg) = ks.map some) && (chk D zs S).a (kws.map (·.value))
      | _ => false
  | .cmeth c m as ks zs, S => Ck.when S.calm <| .ofE fun
      | .Call (.Attribute (.Name x _) f ap) es kws pos => decide (x = c) && S.gl x && decide (x ∈ D.clss) && decide (f = m) && (ap.endLine == pos.line) && decide (es.length + kws.length < 12) && (chk D as S).a es && decide (kws.map (·.arg) = ks.map some) && (chk D zs S).a (kws.map (·.value))
      | _ => false
  | .mkv cs a as, S => Ck.when S.calm <| .ofE fun
      | .Call fe es [] pos => calE fe && (chk D a S).e fe && cs.all (fun c => decide (c ∈ D.mks)) && (chk D as S).a es
      | _ => false
  | .mkk c as ks zs, S => Ck.when S.calm <| .ofE fun
      | .Call (.Name x _) es kws pos => decide (x = c) && S.gl x && decide (x ∈ D.mks) && (chk D as S).a es && decide (kws.map (·.arg) = ks.map some) && (chk D zs S).a (kws.map (·.value))
      | _ => false
  | .oeq a b, S => Ck.when S.calm <| .ofB fun
      | .Compare x ops ys _ => (match ops, ys with
        | [op'], [y] => decide (op' = .Eq) && !behindInMarks .Eq y && (chk D a S).e x && (chk D b S).e y
        | _, _ => false)
      | _ => false
  | .one a b, S => Ck.when S.calm <| .ofB fun
      | .Compare x ops ys _ => (match ops, ys with
        | [op'], [y] => decide (op' = .NotEq) && !behindInMarks .NotEq y && (chk D a S).e x && (chk D b S).e y
        | _, _ => false)
      | _ => false
  | .rep a, S => Ck.when S.calm <| .ofE fun
      | .Call (.Name x _) [y] [] _ => decide (x = ("repr" : Str)) && S.gl x && decide (x ∈ D.frees) && nst y && (chk D a S).e y
      | _ => false
  | .xcmp op a b, S => .ofB fun
      | .Compare x ops ys _ => (match ops, ys with
        | [op'], [y] => decide (op = op') && !behindInMarks op y && (chk D a S).e x && (chk D b S).e y
        | _, _ => false)
      | _ => false
  | .obin op a b, S => Ck.when S.calm <| .ofE fun
      | .BinOp x op' y _ => decide (op = op') && (chk D a S).e x && (chk D b S).e y
      | _ => false
  | .oinv a, S => Ck.when S.calm <| .ofE fun
      | .UnaryOp op' x _ => decide (op' = .Invert) && (chk D a S).e x
      | _ => false
  | .oin a b, S => Ck.when S.calm <| .ofB fun
      | .Compare x ops ys _ => (match ops, ys with
        | [op'], [y] => decide (op' = .In) && !behindInMarks .In y && (chk D a S).e x && (chk D b S).e y
        | _, _ => false)
      | _ => false
  | .oaug i op e, S => Ck.when S.calm { s := fun
      | .AugAssign (.Name x _) op' y _ => decide (op = op') && decide (S.N[i]? = some x) && decide (S.sc.names.lookup x = some .local) && (chk D e S).e y
      | _ => false }
  | .rgl t a, S => Ck.when S.calm <| .ofE fun
      | .Call (.Name x _) [.Call (.Name y _) [z] [] _] [] _ => decide (x = (if t then ("tuple" : Str) else ("list" : Str))) && S.gl x && decide (x ∈ D.frees) && decide (y = ("range" : Str)) && S.gl y && decide (y ∈ D.frees) && nst z && (chk D a S).e z
      | _ => false
  | .rev a, S => .ofE fun
      | .Subscript x (.Slice none none (some (.UnaryOp .USub (.Constant (.int 1) _ _) _)) _) _ => (chk D a S).e x
      | _ => false
  | .oeqs a b, S => Ck.when S.calm <| .ofB fun
      | .Compare x ops ys _ => (match ops, ys with
        | [op'], [y] => decide (op' = .Eq) && !behindInMarks .Eq y && (chk D a S).e x && (chk D b S).e y
        | _, _ => false)
      | _ => false
  | .olen a, S => Ck.when S.calm <| .ofE fun
      | .Call (.Name x _) [y] [] _ => decide (x = ("len" : Str)) && S.gl x && decide (x ∈ D.frees) && nst y && (chk D a S).e y
      | _ => false
  | .obool a, S => Ck.when S.calm <| .ofE fun
      | .Call (.Name x _) [y] [] _ => decide (x = ("bool" : Str)) && S.gl x && decide (x ∈ D.frees) && nst y && (chk D a S).e y
      | _ => false
  | .cat c f, S => .ofE fun
      | .Attribute (.Name x _) f' _ => decide (x = c) && S.gl x && decide (x ∈ D.clss) && decide (f = f')
      | _ => false
  | .fo3 a, S => .ofB fun
      | .FormattedValue x cv (some (.JoinedStr [.Constant (.str z) _ _] _)) _ => decide (cv = -1) && decide (z = S3o) && (chk D a S).e x
      | _ => false
  | .unl gs, S => Ck.when S.calm { g := fun
      | .Tuple es _ _ => (chk D gs S).gs es
      | _ => false }
  | .fmt a, S => .ofB fun
      | .FormattedValue x cv none _ => decide (cv = -1) && (chk D a S).e x
      | _ => false
  | .joi a b c d e f g h i j, S => .ofE fun
      | .JoinedStr es _ => decide (2 ≤ es.length) && jois ([(a, (chk D a S).e), (b, (chk D b S).e), (c, (chk D c S).e), (d, (chk D d S).e), (e, (chk D e S).e), (f, (chk D f S).e), (g, (chk D g S).e), (h, (chk D h S).e), (i, (chk D i S).e), (j, (chk D j S).e)].filterMap fun p => match p.1 with
          | .nil => none
          | _ => some p.2) es
      | _ => false
  | .callk f as ks zs, S => Ck.when S.calm <| .ofE fun
      | .Call (.Name x _) es kws pos => decide (x = f) && S.gl x && decide (x ∈ D.fns) && (chk D as S).a es && decide (kws.map (·.arg) = ks.map some) && (chk D zs S).a (kws.map (·.value))
      | _ => false
  | .lamc f b, S => Ck.when (S.calm && S.top && S.lam) <| .ofE fun
      | .Call (.Name x _) [.Lambda params body scope _] [] _ => decide (x = f) && S.gl x && decide (x ∈ D.lfns) && noPar params && LamX.lamSB S.sc scope && (chk D b ⟨S.N, scope, false, true, false⟩).e body
      | _ => false
  | .act i, S => Ck.when (S.calm && S.top) <| .ofE fun
      | .Call (.Name x _) [] [] _ => decide (S.N[i]? = some x) && S.vis x && !(x == ("__debug__" : Str)) && !(x == ("__classdict__" : Str))
      | _ => false
  | .never, _ => { s := fun _ => true }
  | .pass, _ => { s := fun
      | .Pass _ => true
      | _ => false }
  | .brk, _ => { s := fun
      | .Break _ => true
      | _ => false }
  | .cont, _ => { s := fun
      | .Continue _ => true
      | _ => false }
end U

namespace U
open PySem PySem.Spec PyProof.Rows L2
/-! ### own errors whose __init__ says super().__init__('..') and keeps its arguments -/
abbrev veT : List Value := [.type "ValueError", .type "Exception", .type "BaseException", .type "object"]
section
open PySem.W
variable {prog : Program} {w : World} {A : Around} {E : Value → Shared → Prop} {s : Shared} {h₀ : Heap} {L : Addr} {m mg : Str → Option Value} {K : Frag} {x C f cc cda t : Addr}
/-- what K holds of the __init__ at f of the class at C -/
structure SupI (prog : Program) (K : Frag) (mg : Str → Option Value) (C f cc cda : Addr) (scope : Scope) (slf : Str) (fd : FuncData) : Prop where
  fn : ∃ oc od osl, K.lookup f = some ⟨oc, od, .func fd, osl⟩
  hp : ∃ ar : Arg, (fd.params.posonlyargs ++ fd.params.args).head? = some ar ∧ ar.arg = slf
  code : ∃ ccl cdd vs ccs file tf, K.lookup cda = some ⟨ccl, cdd, .fields vs, ccs⟩ ∧ vs[2]? = some (.str file tf) ∧ ((prog.main.file : Str) == file) = true
  cell : ∃ cl cld csl, K.lookup cc = some ⟨cl, cld, .cell (some (.ref C)), csl⟩
  cls : ∃ cd, clsIn K C = some cd
  sub : mroIn K C (.ref C) = some true
  sup : mg "super" = none
  ks : scope.names.lookup ("super" : Str) = some .globalImplicit
  kc : scope.names.lookup ("__class__" : Str) = some .free
  ka : scope.names.lookup slf = some .local
  kd : scope.kind = .function
  top : (prog.main.scope.names.lookup ("super" : Str)).isSome = false
  opq : nsIn K cStatics "thirdparty.any" = some none
  ini : ks_superIn K C C "__init__" = some (some (.builtin "ValueError.__init__"))
  sve : subIn K (.ref C) (.type "ValueError") = some true
  exi : excInitIn K C veT "ValueError.__new__" = true
theorem super_stmt {q slf : Str} {scope : Scope} {fd : FuncData} {body : List Stmt} {p0 p1 p2 p3 p4 p5 : Pos} {txt : Str} {k : Nat} {Q : Flow → Shared → Prop} {mb : Str → Option Value}
    (I : SupI prog K mg C f cc cda scope slf fd) (F : Fr h₀ L s.heap m) (X₀ : K.In h₀) (N : News h₀ L s.heap [(x, excObj C t none .none)]) (G : h₀.Ns mainGlobals mg) (Bn : h₀.Ns builtinsNs mb) (hb : ∀ y : Str, y ≠ "__name__" → mb y = bootBuiltins y)
    (hv : m slf = some (.ref x)) (hl : (p2.endLine == p4.line) = true)
    (h : ∀ t' h' tk, Fr h₀ L h' m → h'.get? x = some (excObj C t' none .none) → Q .next { s with heap := h', toks := tk }) :
    _root_.PySem.wpAt (model prog w) A (.func body (ksEnv q scope L f (.ref cda) cc)) (exec (.Expr (.Call (.Attribute (.Call (.Name "super" p0) [] [] p1) "__init__" p2) [.Constant (.str txt) k p3] [] p4) p5) (ksEnv q scope L f (.ref cda) cc)) Q E s := by
  obtain ⟨oc, od, osl, hf⟩ := I.fn
  obtain ⟨ar, hp, rfl⟩ := I.hp
  obtain ⟨ccl, cdd, vs, ccs, file, tf, hcode, hvs, hfile⟩ := I.code
  obtain ⟨cl, cld, csl, hcell⟩ := I.cell
  obtain ⟨cdD, hD⟩ := I.cls
  have X : K.In s.heap := X₀.keeps F.keep
  have IX : InstAt s.heap x (excObj C t none .none) C none := InstAt.of_exc0 N (List.mem_singleton.mpr rfl)
  have he : eval (.Call (.Attribute (.Call (.Name "super" p0) [] [] p1) "__init__" p2) [.Constant (.str txt) k p3] [] p4) (ksEnv q scope L f (.ref cda) cc) = (do
      let ov ← attributeBase (.Call (.Name "super" p0) [] [] p1) "__init__" (ksEnv q scope L f (.ref cda) cc) (eval (.Call (.Name "super" p0) [] [] p1) (ksEnv q scope L f (.ref cda) cc))
      standAt p2.atName
      let (ff, first) ← holding [ov] (getMethod ov "__init__" (plainOf (.Call (.Name "super" p0) [] [] p1) (ksEnv q scope L f (.ref cda) cc)))
      callWith p4 ff first (backTo p4 (starEach [.Constant (.str txt) k p3] (ksEnv q scope L f (.ref cda) cc))) []) := by
    rw [arm_eval_Call]
    have hf : methodCallForm 1 (backTo p4 (starEach [.Constant (.str txt) k p3] (ksEnv q scope L f (.ref cda) cc))) [] = true := rfl
    have e : (backToKw p4 (keywordEach [] (ksEnv q scope L f (.ref cda) cc))) = [] := rfl
    simp only [e]
    have e2 : ∀ ov, methodCall (.Call (.Name "super" p0) [] [] p1) "__init__" p2 p4 (ksEnv q scope L f (.ref cda) cc) ov 1 (backTo p4 (starEach [.Constant (.str txt) k p3] (ksEnv q scope L f (.ref cda) cc))) [] = _ := fun ov => mcall_line hf hl
    exact congrArg _ (funext fun ov => congrArg _ (funext fun _ => e2 ov))
  refine ks_wpAt_Expr_any (ks_wpAt_MethodCall (pl := plainOf (.Call (.Name "super" p0) [] [] p1) (ksEnv q scope L f (.ref cda) cc)) ?_ he) (by
    have := I.kd
    unfold interactive
    simp [this])
  obtain ⟨hh, g, d, tk, os⟩ := s
  obtain ⟨oD, hD1, hD2⟩ : ∃ oD, hh.get? C = some oD ∧ oD.data = .cls cdD := by
    unfold clsIn at hD
    split at hD
    · rename_i c d cd' sl ho
      cases hD
      exact ⟨_, X _ _ ho, rfl⟩
    · cases hD
  refine ks_wpAt_super_base (env := ksEnv q scope L f (.ref cda) cc) I.ks I.kc (by decide) rfl (X _ _ hf) rfl hp rfl (X _ _ hcode) rfl hvs hfile I.top ?_
  refine ks_loadName_global I.kd I.ks (Calls.loadGlobal_builtin (env := ksEnv q scope L f (.ref cda) cc) (G.keeps F.keep) I.sup (Bn.keeps F.keep) ((hb _ (by decide)).trans (by decide +kernel)) ⟨rfl, ?_⟩)
  refine wpAny_loadName_free I.kd I.kc rfl ⟨_, X _ _ hcell, rfl⟩ ?_
  refine wpAny_loadName_local I.kd I.ka F.ns hv ?_
  refine ks_wpAny_isType_cls hD1 hD2 ⟨rfl, ?_⟩
  refine ks_wpAny_call_super hD1 hD2 IX.at_ IX.cls (fun c e => ?_) (looks_mroIn X I.sub) (fun h' e kp => ?_)
  · cases e
  obtain ⟨F1, N1, l1⟩ := ks_newsPush (s := ⟨hh, g, d, tk, os⟩) F N rfl e kp
  have IX1 : InstAt h' x (excObj C t none .none) C none := InstAt.of_exc0 N1 (List.mem_cons_of_mem _ (List.mem_singleton.mpr rfl))
  refine kxs_method kxs_ValueError F1 X₀ N1 (List.mem_cons_self ..) IX1 I.opq I.ini I.sve (by decide) fun u h2 F2 N2 l2 => ?_
  refine kxs_callWith1 N2 (List.mem_cons_self ..) ?_
  refine Calls.spliced_cons (Calls.Constant_str (k := k) (pos := p3) (Calls.spliced_nil ⟨kxs_at N2 (List.mem_cons_self ..), ?_⟩))
  have lx : x < hh.objs.size := l1 (x, _) (List.mem_singleton.mpr rfl)
  have lu : hh.objs.size < u := l2 (hh.objs.size, _) (List.mem_cons_self ..)
  refine kxs_call (t := t) (dv := none) (c2 := .none) (nw := fun o => [(u, kxs_mw "ValueError.__init__" x), (hh.objs.size, ks_superObj C x C), (x, o)]) F2 X₀ N2 PySem.F.excBase_ValueError I.exi (List.mem_cons_self ..) ?_ (by decide : 1 ≤ sizeLine) fun t' h3 F3 N3 l3 => ?_
  · exact .tail (Nat.ne_of_gt (Nat.lt_trans lx lu)) (.tail (Nat.ne_of_gt lx) (.head fun _ z => nomatch z))
  · exact h t' h3 _ F3 (N3 (x, excObj C t' none .none) (by simp)).1
end
end U

namespace U
open PySem PySem.Spec PyProof.Rows L2
/-- self.f = y, one behind another -/
inductive Sto (slf : Str) : List Stmt → List (Str × Str) → Prop
  | nil : Sto slf [] []
  | cons {f y : Str} {p1 p2 p3 p4 : Pos} {r : List Stmt} {l : List (Str × Str)} : Sto slf r l → Sto slf (.Assign [.Attribute (.Name slf p1) f p2] (.Name y p3) p4 :: r) ((f, y) :: l)
section
open PySem.W
variable {prog : Program} {w : World} {A : Around} {E : Value → Shared → Prop} {h₀ : Heap} {L : Addr} {m mg : Str → Option Value} {K : Frag} {x C f cc cda : Addr} {scope : Scope} {q slf : Str} {fv : Array Value}
abbrev exA (C : Addr) (d : Option Addr) (fv : Array Value) : Obj := { cls := .ref C, dict := d, data := .fields fv }
theorem ld_loc {s : Shared} {y : Str} {p : Pos} {u : Value} {Q : Value → Shared → Prop} (kd : scope.kind = .function) (hn : s.heap.Ns L m) (ky : scope.names.lookup y = some .local) (hd : (y == ("__debug__" : Str)) = false) (hv : m y = some u) (h : Q u s) :
    wpAny (model prog w) A (eval (.Name y p) (ksEnv q scope L f (.ref cda) cc)) Q E s := wpAny_Name (wpAny_loadName_local kd ky hn hv h) hd
theorem Fr.put {h h' : Heap} {dx : Addr} (F : Fr h₀ L h m) (hd : h₀.objs.size ≤ dx) (nL : dx ≠ L) (k : ∀ b o, b ≠ dx → h.get? b = some o → h'.get? b = some o) : Fr h₀ L h' m := by
  obtain ⟨oL, es, ep, hL, r⟩ := F.ns
  exact ⟨⟨oL, es, ep, k _ _ (Ne.symm nL) hL, r⟩, fun b o z => k b o (fun e => absurd (Heap.lt_size z) (by rw [e]; exact Nat.not_lt.mpr hd)) (F.keep b o z), F.above⟩
theorem sto_old {dx : Addr} (X₀ : K.In h₀) (hd : h₀.objs.size ≤ dx) (T : OexC K C) (kd : scope.kind = .function) (ks : scope.names.lookup slf = some .local) (ds : (slf == ("__debug__" : Str)) = false) (hs : m slf = some (.ref x)) (nL : dx ≠ L) : ∀ {st : List Stmt} {l : List (Str × Str)}, Sto slf st l →
    ∀ {s : Shared} {fs : List (Str × V)} {vs : List V}, Fr h₀ L s.heap m → s.heap.get? x = some (exA C (some dx) fv) → (∃ mA, s.heap.Ns1 dx mA ∧ ∀ g, RelO (fs.lookup g) (mA g)) → fs.length + l.length ≤ 900 → x ≠ dx →
    (∀ g ∈ l, findIn K (.ref C) g.1 = some none ∧ scope.names.lookup g.2 = some .local ∧ (g.2 == ("__debug__" : Str)) = false) → Paired (fun (g : Str × Str) (v : V) => ∃ u, m g.2 = some u ∧ RelV v u) l vs →
    ∀ {Q : Flow → Shared → Prop}, (∀ h' tk, (∀ b o, b ≠ dx → s.heap.get? b = some o → h'.get? b = some o) → (∃ mA, h'.Ns1 dx mA ∧ ∀ g, RelO (((l.map (·.1)).zip vs).reverse ++ fs |>.lookup g) (mA g)) → Q .next { s with heap := h', toks := tk }) →
    wpAny (model prog w) A (execs st (ksEnv q scope L f (.ref cda) cc)) Q E s := by
  intro st l S
  induction S with
  | nil =>
    intro s fs vs F hx hD hl hne hg hv Q h
    cases hv
    exact wpAny_execs_nil (h s.heap s.toks (fun _ _ _ e => e) hD)
  | @cons fl y p1 p2 p3 p4 r l S ih =>
    intro s fs vs F hx hD hl hne hg hv Q h
    cases hv with
    | @cons _ v _ vs' hv0 hvs =>
      obtain ⟨u, hu, ru⟩ := hv0
      have X : K.In s.heap := X₀.keeps F.keep
      have N := F.ns
      obtain ⟨g1, g2, g3⟩ := hg (fl, y) (List.mem_cons_self ..)
      obtain ⟨nm, qn, N', bs, bm, sn, sub, ab, col, dd, k0, k1, k2, k3, k5, hC, hbm⟩ := T.cls
      have hcl : clsIn K C = some { name := nm, bases := bs, mro := .ref C :: bm, ns := N', qualname := qn, hasDict := true, slotNames := sn, subclasses := sub, abstract := ab, collection := col, hasDel := false } := by unfold clsIn; rw [hC] <;> rfl
      obtain ⟨mA, hns, rel⟩ := hD
      have hw := within_of rel
      refine wpAny_execs_cons (plainObj_wpAny_Assign_Attribute (ld_loc kd N g2 g3 hu (ld_loc kd N ks ds hs ?_)) rfl)
      obtain ⟨hp, g, d, t, os⟩ := s
      obtain ⟨oD, _, _, hoD, _, _⟩ := hns.count hw
      refine set_plain X (ox := exA C (some dx) fv) (od := some oD) ⟨hx, rfl, rfl, hoD⟩ T.sa ?_
      refine PySem.OEX.osa_old X hx hns hw (by rw [List.length_map]; omega) hcl (show PySem.HandSPX.refsVE (.ref C :: bm) = true from hbm) rfl g1 (fun h' tk' k hn => ?_)
      refine ih (s := ⟨h', g, d, tk', os⟩) (fs := (fl, v) :: fs) (vs := vs') (Fr.put F hd nL k) (k _ _ hne hx) ⟨_, hn, relO_put ru rel⟩ (by simp at hl ⊢; omega) hne (fun g hg' => hg g (List.mem_cons_of_mem _ hg')) hvs ?_
      · intro h2 tk2 k2 hD2
        refine h h2 tk2 (fun b o nb e => k2 b o nb (k b o nb e)) ?_
        simpa using hD2
end
end U

namespace U
open PySem PySem.Spec PyProof.Rows L2
section
open PySem.W
variable {prog : Program} {w : World} {A : Around} {mg mb : Str → Option Value} {K : Frag} {x C f cc cda t : Addr} {scope : Scope} {slf : Str} {hp : Heap}
theorem lookup_rev {α β : Type} [BEq α] [LawfulBEq α] (a : α) : ∀ {l : List (α × β)}, (l.map (·.1)).Nodup → l.reverse.lookup a = l.lookup a
  | [], _ => rfl
  | (k, v) :: r, h => by
    rw [List.map_cons, List.nodup_cons] at h
    rw [List.reverse_cons, List.lookup_append, lookup_rev a h.2, List.lookup_cons]
    cases e : (a == k) with
    | true =>
      have hn : r.lookup a = none := by
        cases q : r.lookup a with
        | none => rfl
        | some b => exact absurd (by rw [← eq_of_beq e]; exact List.mem_map.mpr ⟨_, lookup_mem q, rfl⟩) h.1
      rw [hn]
      simp [List.lookup, e]
    | false =>
      cases q : r.lookup a <;> simp [List.lookup, e, q]
theorem paired_imp {α β : Type} {P Q : α → β → Prop} : ∀ {l : List α} {vs : List β}, Paired P l vs → (∀ a ∈ l, ∀ b, P a b → Q a b) → Paired Q l vs
  | _, _, .nil, _ => .nil
  | _, _, .cons h r, k => .cons (k _ (List.mem_cons_self ..) _ h) (paired_imp r fun a ha => k a (List.mem_cons_of_mem _ ha))
theorem init_ok {name qual : Str} {params : Arguments} {dV kV doc pm ct : Value} {an : Option Addr} {st : List Stmt} {l : List (Str × Str)} {p0 p1 p2 p3 p4 p5 : Pos} {txt : Str} {k : Nat} {ys : List Str} {us : List Value} {vs : List V} {s : Shared} {R : Result → Shared → Prop}
    (I : SupI prog K mg C f cc cda scope slf (ksFn name qual params (.Expr (.Call (.Attribute (.Call (.Name "super" p0) [] [] p1) "__init__" p2) [.Constant (.str txt) k p3] [] p4) p5 :: st) scope dV kV doc pm an (.ref cda) ct cc))
    (T : OexC K C) (S : Sto slf st l) (X₀ : K.In hp) (G : hp.Ns mainGlobals mg) (Bn : hp.Ns builtinsNs mb) (hb : ∀ y : Str, y ≠ "__name__" → mb y = bootBuiltins y) (hlim : s.heap.NoLimit) (hcd : codeIn K (.ref cda) qual = true)
    (hroom : A.depth < recursionLimit) (hk : ∀ b o, hp.get? b = some o → s.heap.get? b = some o) (hxs : hp.objs.size ≤ x) (hx : s.heap.get? x = some (excObj C t none .none)) (hsz : hp.objs.size ≤ s.heap.objs.size)
    (hbind : BindsTo s (ksFn name qual params (.Expr (.Call (.Attribute (.Call (.Name "super" p0) [] [] p1) "__init__" p2) [.Constant (.str txt) k p3] [] p4) p5 :: st) scope dV kV doc pm an (.ref cda) ct cc) ⟨.ref x :: us, []⟩ ((slf :: ys).zip (.ref x :: us)))
    (hloc : ∀ z ∈ slf :: ys, scope.names.lookup z = some .local ∧ (z == ("__debug__" : Str)) = false) (hnd : (slf :: ys).Nodup) (hlen : us.length = ys.length) (hcell : ∀ z ∈ scope.names, z.2 ≠ .cell) (hl : (p2.endLine == p4.line) = true)
    (hco : scope.isCoroutine = false) (hgen : scope.isGenerator = false) (hlz : l.length ≤ 800) (hne : l ≠ [])
    (hg : ∀ g ∈ l, findIn K (.ref C) g.1 = some none ∧ g.2 ∈ ys) (hv : Paired (fun (g : Str × Str) (v : V) => ∃ u, (ys.zip us).lookup g.2 = some u ∧ RelV v u) l vs)
    (h : ∀ h' tk dx t', (∀ b o, hp.get? b = some o → h'.get? b = some o) → hp.objs.size ≤ dx → dx ≠ x → h'.get? x = some (exA C (some dx) #[.ref t', .none, .none, .none, .bool false, .none]) →
      (∃ mA, h'.Ns1 dx mA ∧ ∀ g, RelO (((l.map (·.1)).zip vs).reverse.lookup g) (mA g)) → R (.ok (.ret .none)) { s with heap := h', toks := tk }) :
    codeAny (model prog w) A (.call (.ref f) ⟨.ref x :: us, []⟩) R s := by
  obtain ⟨oc, od, osl, hf⟩ := I.fn
  have X : K.In s.heap := fun b o e => hk b o (X₀ b o e)
  refine ks_codeAny_call_defAt hroom (X _ _ hf) rfl hlim (codeRec_of X hcd) rfl hbind hcell ?_ ?_ hco hgen I.kd
  · intro z hz
    exact (hloc _ (List.of_mem_zip hz).1).1
  intro h1 hns keep1
  have hxL : x < s.heap.objs.size := Heap.lt_size hx
  have F : Fr hp s.heap.objs.size h1 (fun y => ((slf :: ys).zip (Value.ref x :: us)).reverse.lookup y) := ⟨hns, fun b o e => keep1 b o (hk b o e), hsz⟩
  have N : News hp s.heap.objs.size h1 [(x, excObj C t none .none)] := by
    intro p hp'
    rw [List.mem_singleton.mp hp']
    refine ⟨keep1 _ _ hx, Nat.ne_of_lt hxL, ?_⟩
    cases e : hp.get? x with
    | none => rfl
    | some o => exact absurd (Heap.lt_size e) (Nat.not_lt.mpr hxs)
  have hrev : ∀ y, ((slf :: ys).zip (Value.ref x :: us)).reverse.lookup y = ((slf :: ys).zip (Value.ref x :: us)).lookup y := fun y => lookup_rev y (by
    rw [List.map_fst_zip (by simp [hlen])]
    exact hnd)
  have hself : ((slf :: ys).zip (Value.ref x :: us)).reverse.lookup slf = some (.ref x) := by
    rw [hrev, List.zip_cons_cons, List.lookup_cons, beq_self_eq_true]
  have hys : ∀ y ∈ ys, ((slf :: ys).zip (Value.ref x :: us)).reverse.lookup y = (ys.zip us).lookup y := fun y hy => by
    have ne : (y == slf) = false := beq_false_of_ne fun e => (List.nodup_cons.mp hnd).1 (e ▸ hy)
    rw [hrev, List.zip_cons_cons, List.lookup_cons, ne]
  refine ks_wpAt_execs_cons (super_stmt (q := qual) (mb := mb) I F X₀ N G Bn hb hself hl fun t' h2 tk F2 hx2 => ?_)
  refine wpAt_of_wpAny ?_
  cases S with
  | nil => exact absurd rfl hne
  | @cons fl y q1 q2 q3 q4 r l S =>
    cases hv with
    | @cons _ v _ vs' hv0 hvs =>
      obtain ⟨u, hu, ru⟩ := hv0
      obtain ⟨g1, g2⟩ := hg (fl, y) (List.mem_cons_self ..)
      obtain ⟨nm, qn, N', bs, bm, sn, sub, ab, col, dd, k0, k1, k2, k3, k5, hC, hbm⟩ := T.cls
      have hcl : clsIn K C = some { name := nm, bases := bs, mro := .ref C :: bm, ns := N', qualname := qn, hasDict := true, slotNames := sn, subclasses := sub, abstract := ab, collection := col, hasDel := false } := by unfold clsIn; rw [hC] <;> rfl
      have X2 : K.In h2 := X₀.keeps F2.keep
      obtain ⟨l1, l2⟩ := hloc slf (List.mem_cons_self ..)
      obtain ⟨l3, l4⟩ := hloc y (List.mem_cons_of_mem _ g2)
      refine wpAny_execs_cons (plainObj_wpAny_Assign_Attribute (ld_loc I.kd F2.ns l3 l4 ((hys y g2).trans hu) (ld_loc I.kd F2.ns l1 l2 hself ?_)) rfl)
      refine set_plain X2 (ox := excObj C t' none .none) (od := none) ⟨hx2, rfl, rfl, trivial⟩ T.sa ?_
      refine PySem.HandSPX.exc_osa X2 hx2 hcl (show PySem.HandSPX.refsVE (.ref C :: bm) = true from hbm) rfl g1 (fun h3 tk3 dx kp dn dne hx3 hn3 => ?_)
      have Ls : s.heap.objs.size < h2.objs.size := F2.ns.lt
      have F3 := Fr.put F2 hxs (Nat.ne_of_lt hxL) kp
      have nL : dx ≠ s.heap.objs.size := Nat.ne_of_gt (Nat.lt_of_lt_of_le Ls dn)
      have hdx : hp.objs.size ≤ dx := Nat.le_trans hsz (Nat.le_of_lt (Nat.lt_of_lt_of_le Ls dn))
      refine sto_old X₀ hdx T I.kd l1 l2 hself nL S (s := { s with heap := h3, toks := tk3 }) (fs := [(fl, v)]) (vs := vs') F3 hx3 ⟨_, hn3, relO_put (fs := []) ru fun g => True.intro⟩ (by simp at hlz ⊢; omega) (Ne.symm dne) (fun g hg' => ?_) ?_ fun h4 tk4 k4 hD4 => ?_
      · obtain ⟨a1, a2⟩ := hg g (List.mem_cons_of_mem _ hg')
        obtain ⟨a3, a4⟩ := hloc g.2 (List.mem_cons_of_mem _ a2)
        exact ⟨a1, a3, a4⟩
      · exact paired_imp hvs fun g hg' v ⟨u, e1, e2⟩ => ⟨u, (hys g.2 (hg g (List.mem_cons_of_mem _ hg')).2).trans e1, e2⟩
      · have F4 := Fr.put F3 hdx nL k4
        refine h h4 tk4 dx t' F4.keep hdx dne (k4 _ _ (Ne.symm dne) hx3) ?_
        simpa using hD4
end
end U

namespace U
open PySem PySem.Spec PyProof.Rows L2
/-- what is known of an own error: its class at C, its __init__ at fI; fs its fields -/
structure ErrI (prog : Program) (K : PySem.W.Frag) (mg : Str → Option Value) (C fI : Addr) (fs : List Str) : Prop where
  cls : OexC K C
  ini : PySem.W.findIn K (.ref C) "__init__" = some (some (.ref fI))
  typ : PySem.W.typeIn K (.ref fI) = some (.type "function")
  nof : ∀ g ∈ fs, PySem.W.findIn K (.ref C) g = some none
  def_ : ∃ (cc cda : Addr) (scope : Scope) (slf name qual : Str) (params : Arguments) (dV kV doc pm ct : Value) (an : Option Addr) (st : List Stmt) (l : List (Str × Str)) (p0 p1 p2 p3 p4 p5 : Pos) (txt : Str) (k : Nat) (ys : List Str),
    SupI prog K mg C fI cc cda scope slf (PySem.W.ksFn name qual params (.Expr (.Call (.Attribute (.Call (.Name "super" p0) [] [] p1) "__init__" p2) [.Constant (.str txt) k p3] [] p4) p5 :: st) scope dV kV doc pm an (.ref cda) ct cc) ∧
    Sto slf st l ∧ PySem.W.codeIn K (.ref cda) qual = true ∧ (∀ (s : Shared) (us : List Value), K.In s.heap → us.length = ys.length → ∀ x : Addr, BindsTo s (PySem.W.ksFn name qual params (.Expr (.Call (.Attribute (.Call (.Name "super" p0) [] [] p1) "__init__" p2) [.Constant (.str txt) k p3] [] p4) p5 :: st) scope dV kV doc pm an (.ref cda) ct cc) ⟨.ref x :: us, []⟩ ((slf :: ys).zip (.ref x :: us))) ∧
    (∀ z ∈ slf :: ys, scope.names.lookup z = some .local ∧ (z == ("__debug__" : Str)) = false) ∧ (slf :: ys).Nodup ∧ (∀ z ∈ scope.names, z.2 ≠ .cell) ∧ (p2.endLine == p4.line) = true ∧ scope.isCoroutine = false ∧ scope.isGenerator = false ∧ l.length ≤ 800 ∧ l ≠ [] ∧ l.map (·.1) = fs ∧ l.map (·.2) = ys
section
variable {X : Cx} {C fI : Addr} {fs : List Str} {x : Str} {e : Expr} {es : List Expr} {ta : TA} {p pos : Pos}
theorem paired_self {ys : List Str} : ∀ {us : List Value} {vs : List V}, ys.Nodup → us.length = ys.length → Vals vs us → Paired (fun (y : Str) (v : V) => ∃ u, (ys.zip us).lookup y = some u ∧ RelV v u) ys vs := by
  induction ys with
  | nil =>
    intro us vs _ hl r
    cases us with
    | nil => cases r; exact .nil
    | cons => cases hl
  | cons y ys ih =>
    intro us vs hn hl r
    cases us with
    | nil => cases hl
    | cons u us =>
      cases r with
      | @cons v _ vs _ rv r =>
        obtain ⟨h1, h2⟩ := List.nodup_cons.mp hn
        refine .cons ⟨u, by rw [List.zip_cons_cons, List.lookup_cons, beq_self_eq_true], rv⟩ (paired_imp (ih h2 (by simpa using hl) r) fun z hz v ⟨u', e1, e2⟩ => ⟨u', ?_, e2⟩)
        have ne : (z == y) = false := beq_false_of_ne fun e => h1 (e ▸ hz)
        rw [List.zip_cons_cons, List.lookup_cons, ne]
        exact e1
theorem paired_map {l : List (Str × Str)} {P : Str → V → Prop} : ∀ {vs : List V}, Paired P (l.map (·.2)) vs → Paired (fun (g : Str × Str) v => P g.2 v) l vs := by
  induction l with
  | nil => intro vs h; cases h; exact .nil
  | cons g l ih => intro vs h; cases h with | cons a b => exact .cons a (ih b)
/-- C(e, ..): an own error is made; its dict is d -/
theorem pmk_err {R : List V → Hp → XK → Prop} (hR : ∀ vs H1 Q, R vs H1 Q → vs.length = fs.length ∧ ∀ d, H1 d = none → Q (.ref C) (some d) (upd H1 d (.xd (fs.zip vs).reverse))) (T : ErrI X.prog X.K X.mg C fI fs) (hr : Room 1 X.A) (hg : Gl X x) (hm : X.mg x = some (.ref C)) (ha : PA X (e :: es) ta) (hdb : (x == ("__debug__" : Str)) = false) (he : starEach (e :: es) X.env = (false, eval e X.env) :: starEach es X.env) (hpl : (backTo pos (starEach es X.env)).any (·.1) = false) :
    PMk X (.Call (.Name x p) (e :: es) [] pos) (fun σ H Q => ta σ H fun vs H1 => R vs H1 Q) := by
  intro pins s σ H Q I h
  obtain ⟨nm, q, N, bs, bm, sn, sub, ab, col, dd, k0, k1, k2, k3, k5, hC, hbm⟩ := T.cls.cls
  obtain ⟨cc, cda, scope, slf, name, qual, params, dV, kV, doc, pm, ct, an, st, l, p0, p1, p2, p3, p4, p5, txt, k, ys, S, hst, hcd, hbd, hloc, hnd, hcell, hln, hco, hgen, hlz, hne, hl1, hl2⟩ := T.def_
  refine wpAny_Call_Name_kw (ld_glob I hg hm ?_ hdb)
  refine PySem.W.callWith_K (h₀ := X.base) I.ok.mod.kin T.cls.kC (thn (ha.run pos pins s σ H _ I h) fun us s1 ⟨vs, H1, I1, r1, hz0⟩ => ⟨I1.kIn, ?_⟩) he hpl
  obtain ⟨hz, q1⟩ := hR _ _ _ hz0
  show wpAny _ _ (call (.ref C) us) _ _ _
  obtain ⟨hp, g, dr, tk, os⟩ := s1
  have hys : ys.length = us.length := by rw [← r1.length, hz, ← hl1, ← hl2, List.length_map, List.length_map]
  obtain ⟨mb, hb1, hb2⟩ := I1.ok.mod.blt
  have kb : ∀ b o, X.base.get? b = some o → hp.get? b = some o := I1.bk
  have hus : us.length ≤ sizeLine := by
    have z : (800 : Nat) ≤ sizeLine := by decide
    rw [← hys, ← hl2, List.length_map]
    omega
  refine wpAny_call (PySem.HandSPX.call_own PySem.F.excBase_ValueError (fun Y => PySem.HandSPX.refsVE_contains Y bm hbm) (I1.kIn _ _ hC) (PySem.W.looks_findIn I1.kIn T.ini) (fun slf => PySem.W.bind_fn I1.kIn slf T.typ) hus ?_)
  have kk : ∀ b o, hp.get? b = some o → ((hp.push (PySem.W.kdv_tup us)).push (PySem.HandSPX.excO C hp.objs.size)).get? b = some o := fun b o e => Heap.get?_push_of_some _ (Heap.get?_push_of_some _ e)
  have hget : ((hp.push (PySem.W.kdv_tup us)).push (PySem.HandSPX.excO C hp.objs.size)).get? (hp.objs.size + 1) = some (PySem.HandSPX.excO C hp.objs.size) := by heap_get
  refine init_ok (hp := hp) (mb := mb) (vs := vs) (l := l) S T.cls hst I1.kIn (I1.ok.mod.glob.keeps kb) (hb1.keeps kb) hb2 ?_ hcd ?_ kk (Nat.le_succ _) hget ?_ (hbd _ us (fun b o z => kk b o (I1.kIn b o z)) hys.symm _) hloc hnd hys.symm hcell hln hco hgen hlz hne ?_ ?_ ?_
  · exact (I1.ok.mod.nolimit.keeps kb).keeps kk
  · exact (Room.make hr C us []).depth
  · exact Nat.le_of_lt (Nat.lt_of_succ_lt (Heap.lt_size hget))
  · intro g' hg'
    exact ⟨T.nof g'.1 (by rw [← hl1]; exact List.mem_map.mpr ⟨g', hg', rfl⟩), by rw [← hl2]; exact List.mem_map.mpr ⟨g', hg', rfl⟩⟩
  · refine paired_map (P := fun y v => ∃ u, (ys.zip us).lookup y = some u ∧ RelV v u) ?_
    rw [hl2]
    exact paired_self (List.nodup_cons.mp hnd).2 hys.symm r1
  · intro h' tk' dx t' keep hdx hne hx hD
    rw [hl1] at hD
    have hn1 : H1 dx = none := I1.hok.fresh hdx
    have hna : H1 (hp.objs.size + 1) = none := I1.hok.fresh (Nat.le_succ _)
    obtain ⟨G, g1, g2⟩ := restrict h' fun b => decide (b ≠ hp.objs.size + 1)
    have gk : ∀ b, b ≠ hp.objs.size + 1 → G.get? b = h'.get? b := fun b hb => g1 b (decide_eq_true hb)
    have ge : G.get? (hp.objs.size + 1) = none := g2 _ (by simp)
    have hk2 : ∀ b o, hp.get? b = some o → G.get? b = some o := fun b o z => by
      rw [gk b (Nat.ne_of_lt (Nat.lt_succ_of_lt (Heap.lt_size z)))]
      exact keep b o z
    obtain ⟨mA, hns, rel⟩ := hD
    have J := I1.laid (t' := tk') (a := dx) (o := .xd (fs.zip vs).reverse) (h' := G) hk2 hdx ⟨mA, hns.at fun o y => (gk dx hne).trans y, rel⟩
    refine ⟨rfl, hp.objs.size + 1, _, _, _, _, .ref C, some dx, rfl, J, fun b o z => ?_, ge, hx, ⟨rfl, rfl⟩, rfl, rfl, ?_, rfl, I1.bare, raises_own T.cls.exC T.cls.tyC, q1 dx hn1⟩
    · by_cases hb : b = hp.objs.size + 1
      · rw [hb] at z
        rw [show G.get? (hp.objs.size + 1) = none from ge] at z
        cases z
      · exact (gk b hb).symm.trans z
    · rw [upd_ne (Ne.symm hne)]
      exact hna
end
end U

namespace U
open PySem PySem.Spec PyProof.Rows L2
/-! ### a caught error as a thing that is tracked -/
theorem errO_ok {P : Program} {w : World} {H : Hp} {h : Heap} {a : Addr} {cls : Value} {d : Option Addr} {oe : Obj} {vs : Array Value} (he : h.get? a = some oe) (hz : Zc cls d oe) (hd : oe.data = .fields vs) : ObjOk P w H h a (errO a cls d) :=
  ⟨⟨oe, vs, he, hz, hd⟩, ⟨oe, he⟩, fun h1 h2 ⟨o, us, e1, e2, e3⟩ k => ⟨o, us, k o e1, e2, e3⟩⟩
theorem errO_at {P : Program} {w : World} {H : Hp} {h : Heap} {a : Addr} {cls : Value} {d : Option Addr} (hok : HOk P w H h) (e : H a = some (errO a cls d)) : ∃ (oe : Obj) (vs : Array Value), h.get? a = some oe ∧ Zc cls d oe ∧ oe.data = .fields vs := by
  have x : ObjOk P w H h a (.ext fun h => ∃ (oe : Obj) (vs : Array Value), h.get? a = some oe ∧ Zc cls d oe ∧ oe.data = .fields vs) := hok a _ e
  exact x.1
section
variable {X : Cx} {pins : List (Addr × Obj)} {σ : St} {H : Hp} {sI s s' : Shared} {B : Heap}
theorem landedV {a : Addr} {cls : Value} {d : Option Addr} {oe : Obj} {vs : Array Value} (I : Inv X pins σ H sI) (nb : ∀ b o, sI.heap.get? b = some o → b ∉ frs X.stack → B.get? b = some o) (st : B.StaysIn s'.heap) (up : sI.heap.UpToSlots s'.heap) (os : s'.os = sI.os) (ag : AllBare s'.gens)
    (hn : sI.heap.get? a = none) (na : H a = none) (he : s'.heap.get? a = some oe) (hz : Zc cls d oe) (hd : oe.data = .fields vs) : Inv X pins σ (upd H a (errO a cls d)) s' := by
  have nf : ∀ b ∈ frs X.stack, ∀ o, sI.heap.get? b = some o → ∃ sl, s'.heap.get? b = some { o with slots := sl } := by
    intro b hb o e
    obtain ⟨_, o', e', hd'⟩ := I.stack.mem hb
    rw [e] at e'
    cases e'
    exact up b o e hd'
  have ne : ∀ {b : Addr} {o : Obj}, sI.heap.get? b = some o → b ≠ a := fun {b o} e z => by
    rw [z, hn] at e
    cases e
  have nH : ∀ {b : Addr} {o : HO}, H b = some o → b ≠ a := fun {b o} e => ne_of_none e na
  have hokS : HOk X.prog X.w H s'.heap := (I.inGround nb).kept st
  have hok2 : HOk X.prog X.w (upd H a (errO a cls d)) s'.heap := by
    intro b o q
    by_cases hb : b = a
    · subst hb
      rw [upd_same] at q
      cases q
      exact errO_ok he hz hd
    · rw [upd_ne hb] at q
      exact (hokS b o q).stay (fun c v _ z => z) (fun c hc => by rw [upd_ne (nH hc)]; exact hc) (fun c xs hc => by rw [upd_ne (nH hc)]; exact hc)
  have J := I.call (ch := []) (h' := s'.heap) (g' := s'.gens) (t' := s'.toks) (d' := s'.drawn) (H' := upd H a (errO a cls d))
    ⟨fun b o e _ hb _ => st b o (nb b o e hb), fun b o e _ hb _ => nf b hb o e, fun b o e n _ => by rw [upd_ne (ne e)]; exact n, fun b o e _ => by
      by_cases hb : b ∈ frs X.stack
      · obtain ⟨sl, q⟩ := nf b hb o e
        exact ⟨_, q⟩
      · exact ⟨o, st b o (nb b o e hb)⟩, fun b xs e => by rw [upd_ne (nH e)]; exact e, fun b o u e => by rw [upd_ne (nH e)]; exact e, fun b ps e => ⟨#[], by rw [upd_ne (nH e), e]; simp⟩⟩
    hok2 ag (fun _ z => nomatch z)
  obtain ⟨a1, a2, a3, a4, a5⟩ := s'
  have e5 : a5 = sI.os := os
  subst e5
  exact J
end
end U

namespace U
open PySem PySem.Spec PyProof.Rows L2
section
variable {X : Cx} {pins : List (Addr × Obj)} {σ : St} {H : Hp} {s : Shared}
/-- into a suite, out of it: nothing is pinned -/
theorem toSuite (I : Inv X pins σ H s) (a : Addr) : Inv (X.suite a (X.pn ++ pins)) [] σ H s := by
  refine ⟨I.ok.suite _ _, I.os, I.bare, I.base, I.loc, I.cell, I.free, I.freeC, fun p hp => I.pin p ?_, I.hok, I.len⟩
  rw [List.append_nil] at hp
  exact hp
theorem ofSuite {a : Addr} {pn' : List (Addr × Obj)} (I : Inv (X.suite a (X.pn ++ pins)) pn' σ H s) (ok : X.Ok) : Inv X pins σ H s :=
  ⟨ok, I.os, I.bare, I.base, I.loc, I.cell, I.free, I.freeC, fun p hp => I.pin p (List.mem_append_left _ hp), I.hok, I.len⟩
/-- the wish of 'except x as n', the error a tracked thing; slot i is n's -/
def wVal (K : PySem.W.Frag) (c : Value) (i : Nat) (ts : TS) (Wout : WX) (D : Ends) : WX := fun cls d σ H => ∃ b, PySem.W.exmOne K cls c = some b ∧
  (b = true → ∀ a, H a = none → ts ⟨fun σ' H' => D.nx (σ'.set i none) H', D.rt, fun σ' H' => D.bk (σ'.set i none) H', fun σ' H' => D.ct (σ'.set i none) H'⟩ (σ.set i (some (.ref a))) (upd H a (errO a cls d))) ∧ (b = false → Wout cls d σ H)
variable {x n : Str} {c : Value} {i : Nat} {body suite : List Stmt} {b₀ : Stmt} {np pos pos' : Pos} {tb : WX → TS} {ts : TS} {Wout : WX}
theorem ps_try_val {Wf : Ends → WX} (hW : ∀ D cls d σ H, Wf D cls d σ H → wVal X.K c i ts Wout D cls d σ H) (hs : X.stack = X.env :: X.outer) (hf : X.env.frame = some X.env.locals) (hN : X.N.Nodup) (hi : X.N[i]? = some n) (hln : X.env.kindOf n = some .local) (hc : Names X x c) (tk : Takes X Wout)
    (hb : ∀ (W : WX) (pn : List (Addr × Obj)) (xe : Value → Shared → Prop), Takes (X.tr pn xe) W → PassesOwn (model X.prog X.w) X.A X.env xe → PSs (X.tr pn xe) body (tb W))
    (hsu : ∀ (a : Addr) (pn : List (Addr × Obj)), PSs (X.suite a pn) (b₀ :: suite) ts) :
    PS X (.Try body [.ExceptHandler (some (.Name x np)) (some n) (b₀ :: suite) pos'] [] [] pos) (fun D σ H => tb (Wf D) D σ H) := by
  refine ⟨fun pins s σ H D I h => ?_⟩
  have ok := I.ok
  have hfr : X.A.frames = some (X.env :: X.outer) := ok.frames.trans (congrArg some hs)
  refine wpAny_Try_except (wpAny_mono ((hb (Wf D) (X.pn ++ pins) (fun e s₁ => wpAny (model X.prog X.w) X.A (noteFrame e X.env) (fun _ s₂ => wpAny (model X.prog X.w) X.A (setFlight e none) (fun _ s₃ =>
    wpAny (model X.prog X.w) X.A (handleBy e X.env [.ExceptHandler (some (.Name x np)) (some n) (b₀ :: suite) pos']) (SP X pins D) X.xe s₃) X.xe s₂) X.xe s₁) (fun u s' xx => ?_) PassesOwn.looking).run [] s σ H D (I.toTry _) h) (fun f s1 hsp => ?_) fun e s1 he => he)
  · obtain ⟨a, B, sI, pins', σ', H', cls, d, rfl, J', nb, up, sky, na, os, ag, ww⟩ := xx
    obtain ⟨b, hb1, hyes, hno⟩ := hW _ _ _ _ _ ww
    have J : Inv X pins σ' H' sI := J'.ofTry ok
    refine Sky.land Zc.steady hfr hf (show Sky B (X.env :: X.outer) a (Zc cls d) X.env.locals s'.heap by rw [← hs]; exact sky) fun h3 fl3 up3 => ?_
    have J3 : Inv X pins σ' H' { s' with heap := h3 } := J.landed nb fl3.1 (up.trans up3) os ag
    obtain ⟨oe3, vs3, he3, hz3, hd3⟩ := fl3.there
    have nfr : a ∉ frs (X.env :: X.outer) := fun hm => by
      obtain ⟨_, o', e', hnf⟩ := fl3.2.2.1.mem hm
      rw [he3] at e'
      cases e'
      exact hnf _ hd3
    have hnI : sI.heap.get? a = none := by
      cases z : sI.heap.get? a with
      | none => rfl
      | some o =>
        have y := nb a o z (by rw [hs]; exact nfr)
        rw [fl3.2.1] at y
        cases y
    refine wpAny_handleBy_cons (codeAny_handlers_test ?_) (by intro q; cases q)
    have LT : PySem.W.Looks (model X.prog X.w) h3 (typeOf (.ref a)) cls := fun A Q E s k q => wpAny_typeOf_ref (k _ _ he3) (by rw [hz3.1]; exact q)
    have LM := PySem.W.exm_one (M := model X.prog X.w) J3.kIn LT hb1
    have test : ∀ {Q : Value → Shared → Prop} {E : Value → Shared → Prop}, Q c { s' with heap := h3 } → wpAny (model X.prog X.w) (X.A.mark (some (.ref a))) (eval (.Name x np) X.env) Q E { s' with heap := h3 } := fun {Q E} q => by
      obtain ⟨hg, hdbg, hm | ⟨hm, hv, hnn⟩⟩ := hc
      · exact ld_glob (X := X.suite a (X.pn ++ pins)) (toSuite J3 a) hg hm q hdbg
      · exact ld_blt (X := X.suite a (X.pn ++ pins)) (toSuite J3 a) hg hm hv q hnn hdbg
    refine test (LM.here ?_)
    cases b with
    | true =>
      refine codeAny_handlers_suite_as (HandSPX.lands_againZ fl3 fun h4 fl4 up4 => ?_)
      obtain ⟨oe4, vs4, he4, hz4, hd4⟩ := fl4.there
      have J4 : Inv X pins σ' (upd H' a (errO a cls d)) { s' with heap := h4 } := landedV J nb fl4.1 ((up.trans up3).trans up4) os ag hnI na he4 hz4 hd4
      refine store_ok (X := X.suite a (X.pn ++ pins)) (v := .ref a) (toSuite J4 a) hN hi (.inl hln) rfl (fun s5 S5 => ?_) (.inr hln)
      refine wpAny_mono ((hsu a (X.pn ++ pins)).run [] s5 _ _ _ S5 (hyes rfl a na)) (fun f s6 hsp => ?_) fun _ _ z => False.elim z
      have end_ : ∀ {σ6 : St} {H6 : Hp} {Q : Shared → Prop}, Inv (X.suite a (X.pn ++ pins)) [] σ6 H6 s6 → (∀ s7, Inv X pins (σ6.set i none) H6 s7 → Q s7) →
          wpAny (model X.prog X.w) X.A (do bindName X.env n .none; unbindBehindTheSuite X.env n pos') (fun _ s7 => Q s7) X.xe s6 := fun {σ6 H6 Q} S6 hq => gone_ok (ofSuite S6 ok) hN hi hln hq
      cases f with
      | ret u =>
        obtain ⟨v6, σ6, H6, S6, r6, q6⟩ := hsp
        exact end_ S6 fun s7 J7 => ⟨_, _, _, J7, r6, q6⟩
      | next | brk | cont =>
        obtain ⟨σ6, H6, S6, q6⟩ := hsp
        exact end_ S6 fun s7 J7 => ⟨_, _, J7, q6⟩
    | false =>
      refine wpAny_handleBy_nil ?_
      obtain ⟨_, _, _, oe, vs, T, oT, ts', he, hz, hd, h1, hr⟩ := id fl3
      unfold PySem.passOn
      refine wpAny_bind (wpAny_field he hd h1 ?_)
      rw [if_neg (show ¬ ((Value.ref T == Value.none) = true) from by simp)]
      have fin : wpAny (model X.prog X.w) X.A (setFlight (.ref a) X.env.frame) (fun _ s4 => wpAny (model X.prog X.w) X.A (throw (.ref a) : Sem Flow) (SP X pins D) X.xe s4) X.xe { s' with heap := h3 } := by
        rw [hf]
        exact HandSPX.setFlight_upZ fl3 fun h4 hh4 up4 => wpAny_throw (tk _ _ ⟨a, B, sI, pins, σ', H', cls, d, rfl, J, nb, (up.trans up3).trans up4, .inr (.inr (by rw [hs]; exact hh4)), na, os, ag, hno rfl⟩)
      first
        | exact wpAny_bind (wpAny_pure (wpAny_bind fin))
        | exact wpAny_bind fin
  · cases f with
    | ret u =>
      obtain ⟨v, σ', H', J', r, q⟩ := hsp
      exact ⟨v, σ', H', J'.ofTry ok, r, q⟩
    | next =>
      obtain ⟨σ', H', J', q⟩ := hsp
      exact wpAny_execs_nil ⟨σ', H', J'.ofTry ok, q⟩
    | brk | cont =>
      obtain ⟨σ', H', J', q⟩ := hsp
      exact ⟨σ', H', J'.ofTry ok, q⟩
end
end U

namespace U
open PySem PySem.Spec PyProof.Rows L2
section
variable {X : Cx} {pins : List (Addr × Obj)} {σ : St} {H : Hp} {s : Shared} {a C d : Addr} {fs : List (Str × V)} {v : V} {n : Str} {Q : VK}
/-- err.n: an attribute of its own dict -/
theorem err_get {b : Bool} {E : Value → Shared → Prop} (T : XfC X.K C) (hno : PySem.W.findIn X.K (.ref C) n = some none) (I : Inv X pins σ H s) (ea : H a = some (errO a (.ref C) (some d))) (ed : H d = some (.xd fs)) (l : fs.lookup n = some v) (q : Q v H) :
    wpAny (model X.prog X.w) X.A (getAttr (.ref a) n b) (EP X pins σ Q) E s := by
  obtain ⟨oe, vs, he, hz, hd⟩ := errO_at I.hok ea
  have hx : ObjOk X.prog X.w H s.heap d (.xd fs) := I.hok d _ ed
  obtain ⟨mA, hns, hr⟩ := hx
  obtain ⟨od, ho, hl⟩ := lookIn_ns hns
  obtain ⟨u, hu, ru⟩ := RelO.some_of (v := v) (o := mA n) (by rw [← l]; exact hr n)
  have J : PySem.W.InstAt s.heap a oe C (some od) := ⟨he, hz.1, by unfold PySem.W.notCls; rw [hd] <;> rfl, by rw [hz.2]; exact ho⟩
  exact HandSPX.exc_get I.kIn J T.ga T.gg T.exC (PySem.W.findObj_own T.hdC hno rfl (by rw [hl, hu])) (handed_of ru) ⟨v, H, I.tok _, ru, q⟩
end
end U

namespace U
open PySem PySem.Spec PyProof.Rows L2
section
variable {X : Cx} {pins : List (Addr × Obj)} {σ : St} {H : Hp} {s : Shared} {a D d : Addr} {fs : List (Str × V)} {Q : VK} {cv : Value} {b : Bool}
/-- isinstance(err, c) -/
theorem err_isi (T : ExcC X.K D) (I : Inv X pins σ H s) (ea : H a = some (errO a (.ref D) (some d))) (ed : H d = some (.xd fs)) (e : PySem.W.kitOne X.K (.ref D) cv = some b) (q : Q (.bl b) H) :
    wpAny (model X.prog X.w) X.A (call (.builtin "isinstance") [.ref a, cv]) (EP X pins σ Q) X.xe s := by
  obtain ⟨oe, vs, he, hz, hd⟩ := errO_at I.hok ea
  have hx : ObjOk X.prog X.w H s.heap d (.xd fs) := I.hok d _ ed
  obtain ⟨mA, hns, hr⟩ := hx
  obtain ⟨od, ho, hl⟩ := lookIn_ns hns
  have J : PySem.W.InstAt s.heap a oe D (some od) := ⟨he, hz.1, by unfold PySem.W.notCls; rw [hd] <;> rfl, by rw [hz.2]; exact ho⟩
  have hc1 : (PySem.W.clsIn X.K D).isSome = true := by
    obtain ⟨cd, z, _⟩ := PySem.W.any_some T.hd
    rw [z] <;> rfl
  exact PySem.W.kia_one (PySem.W.kitx_exc hc1 T.hg T.hk T.hs T.ha T.hn T.ht T.hm) I.kIn J e (fun z => nomatch z) fun tk => ⟨.bl b, H, I.kept (t' := tk) fun _ _ z => z, rfl, q⟩
end
end U

namespace U
open PySem PySem.Spec PyProof.Rows L2
/-! ### side conditions -/
section
variable {env : Env} {e : Expr} {es : List Expr} {pos : Pos}
theorem star_cons (h : nst e = true) : starEach (e :: es) env = (false, eval e env) :: starEach es env := by
  cases e <;> first | rfl | (simp [nst] at h)
theorem star_none : ∀ {es : List Expr}, es.all nst = true → (backTo pos (starEach es env)).any (·.1) = false
  | [], _ => rfl
  | e :: es, h => by
    rw [List.all_cons, Bool.and_eq_true] at h
    rw [star_cons h.1]
    show (false || (backTo pos (starEach es env)).any (·.1)) = false
    rw [star_none h.2, Bool.or_false]
theorem star_none' : ∀ {es : List Expr}, es.all nst = true → (backTo pos (starEach es env)).all (fun x => !x.1) = true
  | [], _ => rfl
  | e :: es, h => by
    rw [List.all_cons, Bool.and_eq_true] at h
    rw [star_cons h.1]
    show (true && (backTo pos (starEach es env)).all (fun x => !x.1)) = true
    rw [star_none' h.2, Bool.and_true]
theorem abase_ok {f : Str} {whole : Sem Value} (h : abase e = true) : attributeBase e f env whole = whole := by
  unfold attributeBase
  cases e <;> try rfl
  rename_i fn as ks p
  cases fn <;> try rfl
  cases as with
  | cons => rfl
  | nil =>
    cases ks with
    | cons => rfl
    | nil => simp [abase] at h
theorem plainIx_ok (h : noSlice e = true) : PlainIx e := by
  intro o i
  cases e <;> first | rfl | (simp [noSlice] at h)
theorem noComp_ok {t : Option Expr} {l : Nat} (h : noComp e = true) : swapsWith e t l env = pure false := by
  unfold swapsWith
  cases e <;> first | rfl | (simp [noComp] at h)
theorem cellT_ok {t : Expr} {l : Nat} (h : cellT env.scope t = true) : swapsWith e (some t) l env = pure false := by
  cases t <;> first | (cases h; done) | skip
  rename_i x p
  have h : (!(env.kindOf x == some .local)) = true := h
  have h' : (env.kindOf x == some .local) = false := by simpa using h
  unfold swapsWith
  cases e <;> first | rfl | (dsimp only [pure_bind]; rw [h', Bool.and_false, Bool.false_and, Bool.false_and])
theorem noTup_ok {t : Expr} (h : (noTup t || noTup e) = true) : swappedStores [t] e env = pure none := by
  unfold swappedStores
  cases t <;> first | rfl | skip
  all_goals (cases e <;> first | rfl | (simp [noTup] at h))
theorem filt_lt {α β : Type} {f : α → Option β} : ∀ {l : List α}, (∃ a ∈ l, f a = none) → (l.filterMap f).length < l.length
  | [], ⟨_, h, _⟩ => nomatch h
  | a :: l, ⟨b, hb, e⟩ => by
    rw [List.filterMap_cons]
    have le : (l.filterMap f).length ≤ l.length := List.length_filterMap_le f l
    cases h : f a with
    | none => show (l.filterMap f).length < l.length + 1; omega
    | some y =>
      rcases List.mem_cons.mp hb with rfl | hb
      · rw [h] at e; cases e
      · have := filt_lt (l := l) ⟨b, hb, e⟩
        show (l.filterMap f).length + 1 < l.length + 1
        omega
theorem notSwap_ok {t : Expr} (h : notSwap env.scope t e = true) : swappedStores [t] e env = pure none := by
  cases t <;> first | (cases h; done) | skip
  rename_i ts k1 p1
  cases e <;> first | (cases h; done) | skip
  rename_i vs k2 p2
  have h : ts.any (notLoc env.scope) = true := h
  obtain ⟨a, ha, hn⟩ := List.any_eq_true.mp h
  unfold swappedStores
  simp only [pure_bind]
  split
  · rfl
  · split
    · rfl
    · split
      · rfl
      · rename_i h3
        exfalso
        apply h3
        rw [Bool.or_eq_true]
        left
        have := filt_lt (l := ts) (f := fun | .Name id pos => if env.kindOf id == some .local && pos.line == (ts.head?.map (·.pos.line)).getD 0 then some id else none | _ => none) ⟨a, ha, by
          cases a <;> first | rfl | skip
          rename_i x p
          have hn : (!(env.scope.names.lookup x == some .local)) = true := hn
          have z : (env.kindOf x == some .local) = false := by
            show (env.scope.names.lookup x == some .local) = false
            simpa using hn
          show (if (env.kindOf x == some .local && _) = true then some x else none) = none
          rw [z]
          rfl⟩
        exact bne_iff_ne.mpr (Nat.ne_of_lt this)
theorem noSet_ok {x : Value} (h : noSet e = true) : foldedSetIterable e env x = pure x := by
  unfold foldedSetIterable
  cases e <;> first | rfl | (simp [noSet] at h)
end
theorem lookup_eq {S : SC} {x : Str} {X : Cx} (h : X.env.scope = S.sc) : X.env.scope.names.lookup x = S.sc.names.lookup x := by rw [h]
theorem vis_ok {S : SC} {x : Str} {X : Cx} (h : X.env.scope = S.sc) (hv : S.vis x = true) : Vis X.env.scope x := by
  unfold Vis
  rw [h]
  unfold SC.vis at hv
  split at hv
  · rename_i e; exact .inl e
  · rename_i e; exact .inr (.inl e)
  · rename_i e; exact .inr (.inr e)
  · cases hv
theorem gl_ok {S : SC} {x : Str} {X : Cx} (h : X.env.scope = S.sc) (hv : S.gl x = true) : Gl X x ∧ (x == ("__debug__" : Str)) = false ∧ x ≠ "__name__" := by
  unfold SC.gl at hv
  split at hv
  · rename_i e
    rw [Bool.and_eq_true] at hv
    refine ⟨?_, by simpa using hv.1, by simpa using hv.2⟩
    show X.env.scope.names.lookup x = _
    rw [h, e]
  · cases hv

/-! ### calls -/
/-- room, and no repr under way -/
structure RoomG (k : Nat) (A : Around) : Prop where
  r : Room k A
  gd : A.guards = some []
theorem RoomG.mono {j k : Nat} {A : Around} (r : RoomG k A) (h : j ≤ k) : RoomG j A := ⟨r.r.mono h, r.gd⟩
theorem RoomG.deeper {k : Nat} {A : Around} (r : RoomG (k + 1) A) (env : Env) : RoomG k (A.deeper env) := ⟨r.r.deeper env, r.gd⟩
theorem RoomG.in1 {k : Nat} {A : Around} (r : RoomG (k + 1) A) : RoomG k A.in1 := ⟨r.r.in1, r.gd⟩
theorem RoomG.make {k : Nat} {A : Around} (r : RoomG (k + 1) A) (C : Addr) (us : List Value) (kw : List (Str × Value)) : RoomG k (A.under (.builtin "type.__call__" ⟨.ref C :: us, kw⟩)) :=
  ⟨r.r.make C us kw, by
    have h := r.gd
    first | exact h | (simpa [Around.under, Code.guards, Code.isGuard, guardIds, pushGuards] using h)⟩
/-- a def that keeps its promise where no repr is under way -/
structure FnG (P : Program) (w : World) (K : PySem.W.Frag) (mg : Str → Option Value) (base : Heap) (k : Nat) (f : Addr) (fd : FuncData) (ps : List Str) (sp : Sp) : Prop where
  len : ∀ vs H Q E, sp vs H Q E → vs.length = ps.length
  run : ∀ (A : Around) (outer : List Env) (s : Shared) (H : Hp) (args : Args) (us : List Value) (vs : List V) (Q : VK) (E : XK), RoomG k A → Env0 P w K mg base A outer s H → BindsTo s fd args (ps.zip us) → Vals vs us → sp vs H Q E →
    codeAny (model P w) A (.call (.ref f) args) (L2.CR (CX P w) outer P w H s Q E) s
/-- the def at f, called with positional values and keywords ks -/
def FnA (P : Program) (w : World) (K : PySem.W.Frag) (mg : Str → Option Value) (base : Heap) (k : Nat) (f : Addr) (ks : List Str) (sp : List V → List V → Hp → VK → XK → Prop) : Prop :=
  ∀ (A : Around) (outer : List Env) (s : Shared) (H : Hp) (us ws : List Value) (vs zs : List V) (Q : VK) (E : XK), RoomG k A → Env0 P w K mg base A outer s H → Vals vs us → Vals zs ws → zs.length = ks.length → sp vs zs H Q E →
    codeAny (model P w) A (.call (.ref f) ⟨us, ks.zip ws⟩) (L2.CR (CX P w) outer P w H s Q E) s
theorem fnA_of {P : Program} {w : World} {K : PySem.W.Frag} {mg : Str → Option Value} {base : Heap} {k : Nat} {f : Addr} {fd : FuncData} {ps : List Str} {sp : Sp} (F : FnG P w K mg base k f fd ps sp) (hb : Binds K fd ps []) :
    FnA P w K mg base k f [] (fun vs _ H Q E => sp vs H Q E) := by
  intro A outer s H us ws vs zs Q E hr e0 r rz hl h
  have KX : K.In s.heap := e0.mod.kin.keeps fun b o e => (e0.bs b o e).1
  have hlen : us.length = ps.length := by rw [← r.length]; exact F.len _ _ _ _ h
  have hb2 := hb s us KX (by rw [List.append_nil]; exact hlen)
  rw [List.append_nil] at hb2
  exact F.run A outer s H ⟨us, []⟩ us vs Q E hr e0 hb2 r h
theorem FnA.mono {P : Program} {w : World} {K : PySem.W.Frag} {mg : Str → Option Value} {base : Heap} {j k : Nat} {f : Addr} {ks : List Str} {sp : List V → List V → Hp → VK → XK → Prop} (F : FnA P w K mg base j f ks sp) (h : j ≤ k) : FnA P w K mg base k f ks sp :=
  fun A outer s H us ws vs zs Q E hr => F A outer s H us ws vs zs Q E (hr.mono h)
section
variable {X : Cx} {W : WX} {k : Nat} {f : Addr} {ks : List Str} {sp : List V → List V → Hp → VK → XK → Prop} {pins : List (Addr × Obj)} {σ : St} {H : Hp} {s : Shared} {Q : VK} {us ws : List Value} {vs zs : List V}
theorem ends_of {r : Result} {s' : Shared} (tk : Takes X W) (I : Inv X pins σ H s) (hq : L2.CR (CX X.prog X.w) X.stack X.prog X.w H s Q (fun cls d H' => W cls d σ H') r s') :
    (match r with | .ok (.ret v) => EP X pins σ Q v s' | .ok _ => False | .error e => X.xe e s') := by
  cases r with
  | error e => exact tk _ _ (XE.of_call I (fun _ _ _ h => h) hq)
  | ok fl =>
    cases fl with
    | ret u => exact I.after hq
    | next => exact False.elim hq
    | brk => exact False.elim hq
    | cont => exact False.elim hq
theorem runA (F : FnA X.prog X.w X.K X.mg X.base k f ks sp) (hr : RoomG k X.A) (tk : Takes X W) (I : Inv X pins σ H s) (r : Vals vs us) (rz : Vals zs ws) (hl : zs.length = ks.length) (h : sp vs zs H Q fun cls d H' => W cls d σ H') :
    wpAny (model X.prog X.w) X.A (call (.ref f) us (ks.zip ws)) (EP X pins σ Q) X.xe s := by
  refine wpAny_call (codeAny_mono (F X.A X.stack s H us ws vs zs Q _ hr I.env0 r rz hl h) fun r s' hq => ?_)
  have := ends_of tk I hq
  cases r with
  | error e => exact this
  | ok fl => cases fl <;> first | exact this | exact this.elim
end

/-- a(), where slot i holds the lambda at f, whose code object is at c -/
def ActR (Z : Cx) (a : Str) (i : Nat) (f c : Addr) (q : Str) (tl : XK → Hp → VK → Prop) : Prop :=
  ∀ (pn : List (Addr × Obj)) (xe : Value → Shared → Prop) (V : WX) (pa pb : Pos), Takes (Z.tr pn xe) V →
    PE (Z.tr pn xe) (.Call (.Name a pa) [] [] pb) (fun τ G R => τ[i]? = some (some (.ref f)) ∧ G c = some (LamX.CodeO c q) ∧ tl (fun cls d G' => V cls d τ G') G R)
/-- what a def makes of the lambda it gets -/
def Gives (X : Cx) (Ng : List Str) (x : Str) (sg : Scope) (g : Addr) (cdg : Value) (bg : List Stmt) (a : Str) (q : Str) (TT : (XK → Hp → VK → Prop) → Hp → VK → Prop) : Prop :=
  ∀ (f c : Addr) (s : Shared) (H : Hp) (Q : VK) (tl : XK → Hp → VK → Prop), ActR (cxOf C8.CX0 X.prog X.w X.K X.mg X.base Ng x sg g cdg X.A X.stack s H C8.E0) a 0 f c q tl → H c = some (LamX.CodeO c q) → TT tl H Q →
    ∃ t, PSs (cxOf C8.CX0 X.prog X.w X.K X.mg X.base Ng x sg g cdg X.A X.stack s H C8.E0).nox bg t ∧ t { nx := fun _ H' => Q .non H', rt := Q } (L2.start Ng [.ref f]) H
/-- a def that gets a lambda -/
structure LDef (P : Program) (w : World) (K : PySem.W.Frag) (mg : Str → Option Value) (base : Heap) (n : Nat) (x : Str) (TT : (XK → Hp → VK → Prop) → Hp → VK → Prop) : Prop where
  at_ : mg x = some (.ref (He.ga K x))
  kp : PySem.W.keepIn K (.ref (He.ga K x)) = true
  ex : ∃ (pg : Arguments) (bg : List Stmt) (sg : Scope) (dV kV doc pm cdv ct oc : Value) (an od : Option Addr) (osl : Array (Option Value)) (Ng : List Str) (a : Str),
    K.lookup (He.ga K x) = some ⟨oc, od, .func (PySem.W.fnOf x x pg bg sg dV kV doc pm an cdv ct), osl⟩ ∧ PySem.W.codeIn K cdv x = true ∧ L2.Binds K (PySem.W.fnOf x x pg bg sg dV kV doc pm an cdv ct) [a] [] ∧ FnScope Ng [a] sg ∧ Ng[0]? = some a ∧ Vis sg a ∧
    ((a == ("__debug__" : Str)) = false ∧ (a == ("__classdict__" : Str)) = false) ∧
    ∀ (X : Cx) (q : Str), X.prog = P → X.w = w → X.K = K → X.mg = mg → X.base = base → RoomG (5 * n + 5) X.A → Gives X Ng x sg (He.ga K x) cdv bg a q TT
/-! ### what is known of the program -/
structure Fc (D : SD) (C : Ctx) (n : Nat) (P : Program) (w : World) (K : PySem.W.Frag) (mg : Str → Option Value) (base : Heap) : Prop where
  hK : K = C.K
  hw : w = C.w
  kg : KGood K w C.tabs
  fr : ∀ x ∈ D.frees, mg x = none
  gl : ∀ x ∈ D.globs, ∃ v u, C.gv x = some v ∧ mg x = some u ∧ RelV v u
  fn : ∀ x ∈ D.fns, mg x = some (.ref (He.ga K x)) ∧ PySem.W.keepIn K (.ref (He.ga K x)) = true ∧ FnA P w K mg base (5 * n + 1) (He.ga K x) [] (fun vs _ H Q E => C.fn x vs H Q E) ∧
    ∀ l ks ord, C.kwo x l ks = some ord → FnA P w K mg base (5 * n + 1) (He.ga K x) ks (fun vs zs H Q E => vs.length = l ∧ ∃ ts, byOrd (vs ++ (zs ++ C.dfl x)) ord = some ts ∧ C.fn x ts H Q E)
  cls : ∀ c ∈ D.clss, mg c = some (.ref (He.ga K c)) ∧ (∀ t ∈ ["NoneType", "bool", "int", "str", "list", "tuple", "dict"], PySem.W.kitOne K (.type t) (.ref (He.ga K c)) = some false)
  mks : ∀ c ∈ D.mks, mg c = some (.ref (He.ga K c)) ∧ PySem.W.makesIn K (He.ga K c) = true ∧ PySem.W.keepIn K (.ref (He.ga K c)) = true
  err : ∀ c ∈ D.errs, ∃ fs fI, C.xf c = some fs ∧ mg c = some (.ref (He.ga K c)) ∧ ErrI P K mg (He.ga K c) fI fs
  smt : ∀ c m key, C.smt c m = some key → ∃ mc p g rest, ClX.CRead K (He.ga K c) mc ∧ PySem.W.findCls K (.ref (He.ga K c)) mc m = some (.get (.builtin "staticmethod.__get__") (.ref p) .none (.ref (He.ga K c))) ∧ PySem.W.recIn K p "staticmethod" = some (.ref g :: rest) ∧ PySem.W.keepIn K (.ref g) = true ∧
    FnA P w K mg base (5 * n + 1) g [] (fun vs _ H Q E => C.fn key vs H Q E) ∧ ∀ l ks ord, C.kwo key l ks = some ord → FnA P w K mg base (5 * n + 1) g ks (fun vs zs H Q E => vs.length = l ∧ ∃ ts, byOrd (vs ++ (zs ++ C.dfl key)) ord = some ts ∧ C.fn key ts H Q E)
  cmt : ∀ c m key, C.cmt c m = some key → ∃ mc p g, ClX.CRead K (He.ga K c) mc ∧ ClX.CMet K (He.ga K c) mc m p g ∧
    FnA P w K mg base (5 * n + 1) g [] (fun vs _ H Q E => C.fn key vs H Q E) ∧ ∀ l ks ord, C.kwo key l ks = some ord → FnA P w K mg base (5 * n + 1) g ks (fun vs zs H Q E => vs.length = l ∧ ∃ ts, byOrd (vs ++ (zs ++ C.dfl key)) ord = some ts ∧ C.fn key ts H Q E)
  opr : ∀ c op, C.opr c op = true → OprF K (He.ga K c) op
  sub : ∀ c' c b, C.sub c' c = some b → PySem.W.subIn K (.ref (He.ga K c')) (.ref (He.ga K c)) = some b ∧ He.ga K c ≠ He.ga K c'
  cvl : ∀ c f v, C.cvl c f = some v → ∃ mc u, ClX.CRead K (He.ga K c) mc ∧ ClX.CVal K (He.ga K c) mc f v u
  eqc : ∀ c key, C.mth c "__eq__" = some key → ∀ t ∈ ["NoneType", "bool", "int", "str", "list", "tuple", "dict"], PySem.W.subIn K (.type t) (.ref (He.ga K c)) = some false
  nec : ∀ c key, C.mth c "__eq__" = some key → PySem.W.findIn K (.ref (He.ga K c)) "__ne__" = some (some (.builtin "object.__ne__")) ∧ PySem.W.mroIn K (He.ga K c) (.type "object") = some true
  lfn : ∀ x ∈ D.lfns, LDef P w K mg base n x (C.lfn x)
  ecl : ∀ c ∈ D.ecls, mg c = some (.ref (He.ga K c))
  exm : ∀ cn c k, C.exm cn c = some k → PySem.W.exmOne K (.ref (He.ga K cn)) (.ref (He.ga K c)) = some k
  eis : ∀ cn c k, C.eis cn c = some k → ExcC K (He.ga K cn) ∧ PySem.W.kitOne K (.ref (He.ga K cn)) (match c with | .ty n => .type n | .own x => .ref (He.ga K x)) = some k
  xfc : ∀ cn es, C.xf cn = some es → XfC K (He.ga K cn) ∧ ∀ f ∈ es, PySem.W.findIn K (.ref (He.ga K cn)) f = some none
  mth : ∀ c m key, C.mth c m = some key → ∃ f, Cls K (He.ga K c) ∧ Meth K (He.ga K c) m f ∧ PySem.W.fnIn K f = true ∧ FnA P w K mg base (5 * n + 1) f [] (fun vs _ H Q E => C.fn key vs H Q E) ∧
    ∀ l ks ord, C.kwo key l ks = some ord → FnA P w K mg base (5 * n + 1) f ks (fun vs zs H Q E => vs.length = l ∧ ∃ ts, byOrd (vs ++ (zs ++ C.dfl key)) ord = some ts ∧ C.fn key ts H Q E)
  prp : ∀ c f key, C.prp c f = some key → Cls K (He.ga K c) ∧ ∃ p g, PropOf K (He.ga K c) f p g ∧ FnA P w K mg base (5 * n + 1) g [] (fun vs _ H Q E => C.fn key vs H Q E)
  fld : ∀ c f, C.fld c f = true → Cls K (He.ga K c) ∧ NoAttr K (He.ga K c) f
  isi : ∀ c r b, C.isi c r = some b → (∃ (_ : Cls K (He.ga K c)), PySem.W.findIn K (.ref (He.ga K c)) "__class__" = some (some (.builtin "object.__class__")) ∧
    PySem.W.specialIn K (.builtin "object.__class__") "__get__" = some (some (.builtin "getset_descriptor.__get__")) ∧ PySem.W.takesIn K (.builtin "object.__class__") = some true ∧ PySem.W.mroIn K (He.ga K c) (.type "object") = some true) ∧
    PySem.W.kitOne K (.ref (He.ga K c)) (match r with | .ty n => .type n | .own x => .ref (He.ga K x)) = some b
/-- the context is a good one -/
structure Gd (D : SD) (C : Ctx) (n : Nat) (X : Cx) (W : WX) (S : SC) : Prop where
  fc : Fc D C n X.prog X.w X.K X.mg X.base
  hN : X.N = S.N
  nd : S.N.Nodup
  sc : X.env.scope = S.sc
  kd : X.env.scope.kind = .function
  fnt : S.top = true → ∀ x, X.fn x = true
  stk : S.top = true → X.stack = X.env :: X.outer ∧ X.env.frame = some X.env.locals
  un : X.A.units + 200 < cLine
  calm : S.calm = true → X.calm = true ∧ RoomG (5 * n + 3) X.A
  big : S.lam = true → RoomG (5 * n + 5) X.A
  tab : S.lam = true → ∃ c P, LamX.TabB X.base X.mg c P ∧ X.env.code = .ref c ∧ (P, X.env.qual ++ "<lambda>") ∈ C.lt ∧ ∀ p ∈ C.lt, p.1 = P → p.2 = X.env.qual ++ "<lambda>"
  act : S.top = true → S.calm = true → ∀ L, C.lam = some L → ∀ a, X.N[L.i]? = some a → ActR X a L.i L.f L.c L.q L.T
  tk : Takes X W
  own : PassesOwn (model X.prog X.w) X.A X.env X.xe
section
variable {D : SD} {C : Ctx} {n : Nat} {X : Cx} {W : WX} {S : SC}
theorem Gd.blk (G : Gd D C n X W S) (hS : S.calm = true) {s : Shared} {H : Hp} {scope : Scope} {cl : List (Str × Addr)} {c : Addr} {fp : List Addr} {own : List (Str × Nat)} (ok : BlkOk X.N X.env.scope scope own) :
    Gd D C n (X.blk s H scope (compEnvC scope cl c X.env) fp) noW ⟨S.N, relS scope S.sc, false, true, false⟩ where
  fc := G.fc
  hN := G.hN
  nd := G.nd
  sc := by rw [← G.sc]; rfl
  kd := ok.kind
  fnt := fun z => by cases z
  stk := fun z => by cases z
  un := G.un
  calm := fun _ => G.calm hS
  big := fun z => by cases z
  tab := fun z => by cases z
  act := fun z => by cases z
  tk := fun u s' ⟨_, _, _, _, _, _, _, _, _, _, _, _, _, _, _, _, w⟩ => w.elim
  own := PassesOwn.never
/-! ### the parts of the proof -/
/-- the iterator J yields these -/
def Fits (J : It) (ok : Hp → Prop) (items : List It1) : Prop := ∀ j H', j ≤ items.length → ok H' → match items[j]? with
    | none => J.stop j H'
    | some (It1.v y) => J.go j H' ∧ ∀ z H2, J.yld j H' z H2 → z = y ∧ H2 = H'
    | some (It1.t ys) => J.go j H' ∧ ∀ z H2, J.yld j H' z H2 → ∃ T, z = .ref T ∧ H' T = none ∧ H2 = upd H' T (.tup ys)
def wiOf (t : TI1) : TI := fun σ H R => ∃ R' : (Hp → Prop) → List It1 → Hp → Prop, t σ H R' ∧ ∀ ok items H1, R' ok items H1 → ∀ J : It, Fits J ok items → R J H1
structure Snd1 (D : SD) (C : Ctx) (n : Nat) (i : I) (X : Cx) (W : WX) (S : SC) : Prop where
  e : ∀ x, (chk D i S).e x = true → PE X x (rd C i W).e ∧ PT X x (rd C i W).t
  a : ∀ xs, (chk D i S).a xs = true → PA X xs (rd C i W).a ∧ xs.all nst = true
  k : ∀ kws : List Keyword, (chk D i S).a (kws.map (·.value)) = true → PK X kws (rd C i W).a
  s : ∀ x, (chk D i S).s x = true → PS X x (rd C i W).s
  ss : ∀ xs, (chk D i S).ss xs = true → PSs X xs (rd C i W).s
  g : ∀ x, (chk D i S).g x = true → PG X x (rd C i W).g
  gs : ∀ xs, (chk D i S).gs xs = true → PGs X xs (rd C i W).gs
  it : ∀ tg x, (chk D i S).i tg x = true → PI X tg x (wiOf (rd C i W).i)
  p : ∀ pos ks vs, (chk D i S).p ks vs = true → PPs X pos ks vs (rd C i W).p ∧ ks.all (·.isSome) = true ∧ (rd C i W).p.length = ks.length
  o : ∀ x, (chk D i S).o x = true → PO X x (rd C i W).o
def Snd (D : SD) (C : Ctx) (n : Nat) (i : I) : Prop := ∀ X W S, Gd D C n X W S → Snd1 D C n i X W S
theorem po_of {x : Expr} {t : TE} (h : PE X x t) : PO X (some x) (fun σ H Q => t σ H fun x H' => match x with
      | .int i => Q (some i) H'
      | _ => False) := by
  refine ⟨fun pins s σ H Q I hw => ?_⟩
  rw [evalPart_some]
  refine thn (h.run pins s σ H _ I hw) fun u s1 ⟨x, H1, I1, r1, q1⟩ => ?_
  cases x with
  | int i =>
    obtain ⟨t, rfl⟩ := r1
    exact ⟨some i, H1, I1, .int i t, q1⟩
  | _ => exact q1.elim
theorem pt_of {x : Expr} {t : TE} (h : PE X x t) (he : ∀ whole, isTrue x X.env whole = (do let v ← whole; standAt x.pos; holding [v] (truthy v))) : PT X x (fun σ H Q => t σ H fun x H' => match x with
      | .bl b => Q b H'
      | x => ∃ b, TruV X.K x H' b ∧ Q b H') := by
  refine ⟨fun pins s σ H Q I hw => ?_⟩
  refine isTrue_plain (thn (h.run pins s σ H _ I hw) fun v s1 ⟨x, H1, I1, r1, q1⟩ => ?_) (he _)
  refine tru_ok pins s1 σ H1 x v Q I1 r1 ?_
  cases x <;> first | exact ⟨_, rfl, q1⟩ | exact q1
theorem calmly {i : I} {k : Ck} (hk : chk D i S = Ck.when S.calm k) (h : S.calm = true → chk D i S = k → Snd1 D C n i X W S) : Snd1 D C n i X W S := by
  cases hS : S.calm with
  | true => exact h hS (by rw [hk, hS]; rfl)
  | false =>
    rw [hS] at hk
    have hk : chk D i S = {} := hk
    refine ⟨fun x hx => ?_, fun xs hx => ?_, fun xs hx => ?_, fun x hx => ?_, fun x hx => ?_, fun x hx => ?_, fun x hx => ?_, fun tg x hx => ?_, fun ps ks vs hx => ?_, fun x hx => ?_⟩
    all_goals (rw [hk] at hx; cases hx)
/-- an expression of which nothing but the value is asked -/
theorem snd_ofE {i : I} {t : TE} {f : Expr → Bool} (hr : rd C i W = .ofE C.K t) (hc : chk D i S = .ofE f) (hk : X.K = C.K)
    (h : ∀ x, f x = true → PE X x t ∧ ∀ whole, isTrue x X.env whole = (do let v ← whole; standAt x.pos; holding [v] (truthy v))) : Snd1 D C n i X W S := by
  refine ⟨fun x hx => ?_, fun xs hx => ?_, fun xs hx => ?_, fun x hx => ?_, fun x hx => ?_, fun x hx => ?_, fun x hx => ?_, fun tg x hx => ?_, fun ps ks vs hx => ?_, fun x hx => ?_⟩
  all_goals rw [hc] at hx
  · rw [hr]
    obtain ⟨h1, h2⟩ := h x hx
    refine ⟨h1, ?_⟩
    have := pt_of h1 h2
    rw [hk] at this
    exact this
  · cases hx
  · cases hx
  · cases hx
  · cases hx
  · cases hx
  · cases hx
  · cases hx
  · cases hx
  · cases x with
    | none => cases hx
    | some y =>
      rw [hr]
      exact po_of (h y hx).1
theorem snd_ofET {i : I} {t : TE} {t' : TT} {f : Expr → Bool} (hr : rd C i W = .ofET t t') (hc : chk D i S = .ofB f) (h : ∀ x, f x = true → PE X x t ∧ PT X x t') : Snd1 D C n i X W S := by
  refine ⟨fun x hx => ?_, fun xs hx => ?_, fun xs hx => ?_, fun x hx => ?_, fun x hx => ?_, fun x hx => ?_, fun x hx => ?_, fun tg x hx => ?_, fun ps ks vs hx => ?_, fun x hx => ?_⟩
  all_goals rw [hc] at hx
  · rw [hr]
    exact h x hx
  all_goals cases hx
theorem snd_ofS {i : I} {t : TS} {f : Stmt → Bool} (hr : rd C i W = .ofS t) (hc : chk D i S = { s := f }) (h : ∀ x, f x = true → PS X x t) : Snd1 D C n i X W S := by
  refine ⟨fun x hx => ?_, fun xs hx => ?_, fun xs hx => ?_, fun x hx => ?_, fun x hx => ?_, fun x hx => ?_, fun x hx => ?_, fun tg x hx => ?_, fun ps ks vs hx => ?_, fun x hx => ?_⟩
  all_goals rw [hc] at hx
  case refine_4 =>
    rw [hr]
    exact h x hx
  all_goals cases hx
theorem snd_ofI {i : I} {t : TI1} {f : Expr → Expr → Bool} (hr : rd C i W = .ofI t) (hc : chk D i S = { i := f }) (h : ∀ tg x, f tg x = true → PI X tg x (wiOf t)) : Snd1 D C n i X W S := by
  refine ⟨fun x hx => ?_, fun xs hx => ?_, fun xs hx => ?_, fun x hx => ?_, fun x hx => ?_, fun x hx => ?_, fun x hx => ?_, fun tg x hx => ?_, fun ps ks vs hx => ?_, fun x hx => ?_⟩
  all_goals rw [hc] at hx
  case refine_8 =>
    rw [hr]
    exact h tg x hx
  all_goals cases hx
end
end U

namespace U
open PySem PySem.Spec PyProof.Rows L2
section
variable {D : SD} {C : Ctx} {n : Nat}
theorem bd {p : Prop} [Decidable p] (h : decide p = true) : p := of_decide_eq_true h
theorem b2 {a b : Bool} (h : (a && b) = true) : a = true ∧ b = true := Bool.and_eq_true_iff.mp h
theorem bn {a : Bool} (h : (!a) = true) : a = false := by cases a <;> first | rfl | cases h

theorem snd_k (v : V) : Snd D C n (.k v) := fun X W S G => snd_ofE (f := fun | .Constant c _ _ => decide (constV c = some v) | _ => false) rfl rfl G.fc.hK fun x hx => by
  cases x <;> first | (cases hx; done) | skip
  rename_i c k pos
  have e : constV c = some v := bd hx
  refine ⟨?_, fun _ => rfl⟩
  cases c <;> first
    | (cases e; done)
    | (cases e; exact pe_non)
    | (cases e; exact pe_bl)
    | (cases e; exact pe_int)
    | (cases e; exact pe_str)
theorem snd_v (i : Nat) : Snd D C n (.v i) := fun X W S G => by
  have base : ∀ x, (chk D (.v i) S).e x = true → PE X x (rd C (.v i) W).e ∧ ∀ whole, isTrue x X.env whole = (do let v ← whole; standAt x.pos; holding [v] (truthy v)) := fun x hx => by
    cases x <;> first | (cases hx; done) | skip
    rename_i y pos
    obtain ⟨h1, h4⟩ := b2 (show (decide (S.N[i]? = some y) && S.vis y && !(y == ("__debug__" : Str)) && !(y == ("__classdict__" : Str))) = true from hx)
    obtain ⟨h1, h3⟩ := b2 h1
    obtain ⟨h1, h2⟩ := b2 h1
    refine ⟨⟨fun pins s σ H Q I h => ?_⟩, fun _ => rfl⟩
    refine (pe_var (X := X) (i := i) (by rw [G.hN]; exact bd h1) (vis_ok G.sc h2) (bn h3) (bn h4)).run pins s σ H Q I ?_
    have h : (match σ[i]? with | some (some v) => Q v H | _ => False) := h
    split at h
    · rename_i v e; exact ⟨v, e, h⟩
    · exact h.elim
  refine ⟨fun x hx => ?_, fun xs hx => ?_, fun xs hx => ?_, fun x hx => ?_, fun x hx => ?_, fun x hx => ?_, fun x hx => ?_, fun tg x hx => ?_, fun ps ks vs hx => ?_, fun x hx => ?_⟩
  · obtain ⟨h1, h2⟩ := base x hx
    refine ⟨h1, ?_⟩
    have := pt_of h1 h2
    rw [G.fc.hK] at this
    exact this
  · cases hx
  · cases hx
  · cases hx
  · cases hx
  · cases x <;> first | (cases hx; done) | skip
    rename_i y pos
    obtain ⟨h1, h2⟩ := b2 (show (decide (S.N[i]? = some y) && S.loc y) = true from hx)
    have hl : X.env.scope.names.lookup y = S.sc.names.lookup y := by rw [G.sc]
    refine pg_name (by rw [G.hN]; exact G.nd) (by rw [G.hN]; exact bd h1) ?_ ?_
    · unfold L2.Loc
      rw [hl]
      unfold SC.loc at h2
      split at h2
      · rename_i e; exact .inl e
      · rename_i e; exact .inr e
      · cases h2
    · rw [hl]
      unfold SC.loc at h2
      split at h2
      · rename_i e; exact .inr e
      · exact .inl (G.fnt h2 y)
      · cases h2
  · cases hx
  · cases hx
  · cases hx
  · cases x with
    | none => cases hx
    | some y => exact po_of (base y hx).1
theorem snd_g (y : Str) : Snd D C n (.g y) := fun X W S G => snd_ofE (f := fun | .Name x _ => decide (x = y) && S.gl x && decide (x ∈ D.globs) | _ => false) rfl rfl G.fc.hK fun x hx => by
  cases x <;> first | (cases hx; done) | skip
  rename_i z pos
  obtain ⟨h1, h3⟩ := b2 (show (decide (z = y) && S.gl z && decide (z ∈ D.globs)) = true from hx)
  obtain ⟨h1, h2⟩ := b2 h1
  obtain rfl := bd h1
  obtain ⟨g1, g2, g3⟩ := gl_ok G.sc h2
  obtain ⟨v, u, e1, e2, r⟩ := G.fc.gl z (bd h3)
  refine ⟨⟨fun pins s σ H Q I h => ?_⟩, fun _ => rfl⟩
  refine (pe_glob g1 e2 r g2).run pins s σ H Q I ?_
  have h : (match C.gv z with | some v => Q v H | none => False) := h
  rw [e1] at h
  exact h
theorem snd_bop {a b : I} (op : Operator) (ha : Snd D C n a) (hb : Snd D C n b) : Snd D C n (.bop op a b) := fun X W S G => snd_ofE (f := fun
      | .BinOp x op' y _ => decide (op = op') && (chk D a S).e x && (chk D b S).e y
      | _ => false) rfl rfl G.fc.hK fun x hx => by
  cases x <;> first | (cases hx; done) | skip
  rename_i x op' y pos
  obtain ⟨h1, h3⟩ := b2 (show (decide (op = op') && (chk D a S).e x && (chk D b S).e y) = true from hx)
  obtain ⟨h1, h2⟩ := b2 h1
  obtain rfl := bd h1
  refine ⟨?_, fun _ => rfl⟩
  have := pe_op (pos := pos) (bin_ok (X := X) op) ((ha X W S G).e x h2).1 ((hb X W S G).e y h3).1
  rw [G.fc.hK] at this
  exact this
theorem snd_uop {a : I} (op : UnaryOp) (ha : Snd D C n a) : Snd D C n (.uop op a) := fun X W S G => snd_ofE (f := fun
      | .UnaryOp op' x _ => decide (op = op') && decide (op ≠ .Not) && (chk D a S).e x
      | _ => false) rfl rfl G.fc.hK fun x hx => by
  cases x <;> first | (cases hx; done) | skip
  rename_i op' x pos
  obtain ⟨h1, h3⟩ := b2 (show (decide (op = op') && decide (op ≠ .Not) && (chk D a S).e x) = true from hx)
  obtain ⟨h1, h2⟩ := b2 h1
  obtain rfl := bd h1
  refine ⟨pe_un (pos := pos) (un_ok (X := X) op) ((ha X W S G).e x h3).1, fun _ => ?_⟩
  have h2 := bd h2
  cases op <;> first | rfl | exact absurd rfl h2
theorem snd_not {a : I} (ha : Snd D C n a) : Snd D C n (.not a) := fun X W S G => snd_ofET (f := fun
      | .UnaryOp op x _ => decide (op = .Not) && (chk D a S).e x
      | _ => false) rfl rfl fun x hx => by
  cases x <;> first | (cases hx; done) | skip
  rename_i op' x pos
  obtain ⟨h1, h3⟩ := b2 (show (decide (op' = .Not) && (chk D a S).e x) = true from hx)
  obtain rfl := bd h1
  obtain ⟨p1, p2⟩ := (ha X W S G).e x h3
  refine ⟨⟨fun pins s σ H Q I h => ?_⟩, pt_not p2⟩
  refine UnaryOp_ (thn (p1.run pins s σ H _ I h) fun v s1 ⟨x, H1, I1, r1, q1⟩ => ?_)
  have q : ∃ k, TruV X.K x H1 k ∧ Q (.bl (!k)) H1 := by
    rw [G.fc.hK]
    cases x <;> first | exact ⟨_, rfl, q1⟩ | exact q1
  obtain ⟨k, e, q1⟩ := q
  exact not_of (thn (tru_ok pins s1 σ H1 x v (fun c H2 => Q (.bl (!c)) H2) I1 r1 ⟨k, e, q1⟩) fun c s2 ⟨H2, I2, q2⟩ => ⟨.bl (!c), H2, I2, rfl, q2⟩)
theorem snd_and {a b : I} (ha : Snd D C n a) (hb : Snd D C n b) : Snd D C n (.and a b) := fun X W S G => snd_ofET (f := fun
      | .BoolOp op (x :: rest) pos => decide (op = .And) && !rest.isEmpty && (chk D a S).e x && (match rest with
        | [y] => (chk D b S).e y
        | ys => (chk D b S).e (.BoolOp .And ys pos))
      | _ => false) rfl rfl fun x hx => by
  cases x <;> first | (cases hx; done) | skip
  rename_i op vs pos
  cases vs with
  | nil => cases hx
  | cons x rest =>
    obtain ⟨h1, h4⟩ := b2 hx
    obtain ⟨h1, h3⟩ := b2 h1
    obtain ⟨h1, h2⟩ := b2 h1
    obtain rfl := bd h1
    obtain ⟨p1, p2⟩ := (ha X W S G).e x h3
    cases rest with
    | nil => cases h2
    | cons y ys =>
      have hy : PE X (.BoolOp .And (y :: ys) pos) (rd C b W).e ∧ PW X (.BoolOp .And (y :: ys) pos) (rd C b W).t := by
        cases ys with
        | nil =>
          obtain ⟨q1, q2⟩ := (hb X W S G).e y h4
          exact ⟨pe_one q1, pw_and1 q2⟩
        | cons z zs =>
          obtain ⟨q1, q2⟩ := (hb X W S G).e _ h4
          exact ⟨q1, ⟨fun whole => q2.run⟩⟩
      refine ⟨⟨fun pins s σ H Q I h => ?_⟩, (pw_and p2 hy.2).pt⟩
      refine BoolOp_and (thn (p1.run pins s σ H _ I h) fun v s1 ⟨x, H1, I1, r1, q1⟩ => ?_)
      cases x with
      | bl c =>
        cases r1
        refine wpAny_truthy_bool ?_
        cases c with
        | true => exact hy.1.run pins s1 σ H1 Q I1 q1
        | false => exact ⟨.bl false, H1, I1, rfl, q1⟩
      | _ => exact q1.elim
theorem snd_or {a b : I} (ha : Snd D C n a) (hb : Snd D C n b) : Snd D C n (.or a b) := fun X W S G => snd_ofET (f := fun
      | .BoolOp op (x :: rest) pos => decide (op = .Or) && !rest.isEmpty && (chk D a S).e x && (match rest with
        | [y] => (chk D b S).e y
        | ys => (chk D b S).e (.BoolOp .Or ys pos))
      | _ => false) rfl rfl fun x hx => by
  cases x <;> first | (cases hx; done) | skip
  rename_i op vs pos
  cases vs with
  | nil => cases hx
  | cons x rest =>
    obtain ⟨h1, h4⟩ := b2 hx
    obtain ⟨h1, h3⟩ := b2 h1
    obtain ⟨h1, h2⟩ := b2 h1
    obtain rfl := bd h1
    obtain ⟨p1, p2⟩ := (ha X W S G).e x h3
    cases rest with
    | nil => cases h2
    | cons y ys =>
      have hy : PE X (.BoolOp .Or (y :: ys) pos) (rd C b W).e ∧ PW X (.BoolOp .Or (y :: ys) pos) (rd C b W).t := by
        cases ys with
        | nil =>
          obtain ⟨q1, q2⟩ := (hb X W S G).e y h4
          exact ⟨pe_one q1, pw_or1 q2⟩
        | cons z zs =>
          obtain ⟨q1, q2⟩ := (hb X W S G).e _ h4
          exact ⟨q1, ⟨fun whole => q2.run⟩⟩
      refine ⟨⟨fun pins s σ H Q I h => ?_⟩, (pw_or p2 hy.2).pt⟩
      refine BoolOp_or (thn (p1.run pins s σ H _ I h) fun v s1 ⟨x, H1, I1, r1, q1⟩ => ?_)
      cases x with
      | bl c =>
        cases r1
        refine wpAny_truthy_bool ?_
        cases c with
        | true => exact ⟨.bl true, H1, I1, rfl, q1⟩
        | false => exact hy.1.run pins s1 σ H1 Q I1 q1
      | _ => exact q1.elim
theorem snd_ite {c a b : I} (hc : Snd D C n c) (ha : Snd D C n a) (hb : Snd D C n b) : Snd D C n (.ite c a b) := fun X W S G => snd_ofET (f := fun
      | .IfExp x y z _ => (chk D c S).e x && (chk D a S).e y && (chk D b S).e z
      | _ => false) rfl rfl fun x hx => by
  cases x <;> first | (cases hx; done) | skip
  rename_i x y z pos
  obtain ⟨h1, h3⟩ := b2 (show ((chk D c S).e x && (chk D a S).e y && (chk D b S).e z) = true from hx)
  obtain ⟨h1, h2⟩ := b2 h1
  exact ⟨pe_ifExp ((hc X W S G).e x h1).2 ((ha X W S G).e y h2).1 ((hb X W S G).e z h3).1, ⟨fun _ _ _ _ _ _ h => h.elim⟩⟩
theorem cmpG {X : Cx} {W : WX} {S : SC} (G : Gd D C n X W S) (op : CmpOp) : OpR X (compareOp op) (rCmp C.K C.w C.tabs op) := by
  have := cmp_ok (X := X) (by have := G.un; omega) G.fc.kg op
  rw [G.fc.hK, G.fc.hw] at this
  exact this
theorem pt_bl {X : Cx} {a b : Expr} {op : CmpOp} {r : R2} {ta tb : TE} {pos : Pos} (ho : OpR X (compareOp op) r) (ha : PE X a ta) (hb : PE X b tb) (hm : behindInMarks op b = false) : PT X (.Compare a [op] [b] pos) (fun σ H Q => ta σ H fun x H1 => tb σ H1 fun y H2 => r x y H2 fun z H3 => match z with
        | .bl k => Q k H3
        | _ => False) := by
  refine ⟨fun pins s σ H Q I h => ?_⟩
  refine wpAny_isTrue_Compare1 (thn (ha.run pins s σ H _ I h) fun v s1 ⟨x, H1, I1, r1, q1⟩ => thn (hb.run pins s1 σ H1 _ I1 q1) fun u s2 ⟨y, H2, I2, r2, q2⟩ =>
    thn (ho pins s2 σ H2 x y v u _ I2 r1 r2 q2) fun c s3 ⟨z, H3, I3, r3, q3⟩ => ?_) hm
  cases z with
  | bl k =>
    cases r3
    exact wpAny_truthy_bool ⟨H3, I3, q3⟩
  | _ => exact q3.elim
theorem snd_cmp {a b : I} (op : CmpOp) (ha : Snd D C n a) (hb : Snd D C n b) : Snd D C n (.cmp op a b) := fun X W S G => snd_ofET (f := fun
      | .Compare x ops ys _ => (match ops, ys with
        | [op'], [y] => decide (op = op') && !behindInMarks op y && (chk D a S).e x && (chk D b S).e y
        | _, _ => false)
      | _ => false) rfl rfl fun x hx => by
  cases x <;> first | (cases hx; done) | skip
  rename_i x ops ys pos
  cases ops with
  | nil => cases hx
  | cons op' ops =>
    cases ops with
    | cons => cases hx
    | nil =>
      cases ys with
      | nil => cases hx
      | cons y ys =>
        cases ys with
        | cons => cases hx
        | nil =>
          obtain ⟨h1, h4⟩ := b2 (show (decide (op = op') && !behindInMarks op y && (chk D a S).e x && (chk D b S).e y) = true from hx)
          obtain ⟨h1, h3⟩ := b2 h1
          obtain ⟨h1, h2⟩ := b2 h1
          obtain rfl := bd h1
          exact ⟨pe_cmpR (cmpG G op) ((ha X W S G).e x h3).1 ((hb X W S G).e y h4).1 (bn h2), pt_bl (cmpG G op) ((ha X W S G).e x h3).1 ((hb X W S G).e y h4).1 (bn h2)⟩
theorem xcmpG {X : Cx} {W : WX} {S : SC} (G : Gd D C n X W S) (op : CmpOp) : OpR X (compareOp op) (rXc C op) := by
  have h1 := cmpG G op
  have h2 := op_X (X := X) (by have := G.un; omega) op
  rw [G.fc.hK] at h2
  exact opOr h1 h2
theorem snd_xcmp {a b : I} (op : CmpOp) (ha : Snd D C n a) (hb : Snd D C n b) : Snd D C n (.xcmp op a b) := fun X W S G => snd_ofET (f := fun
      | .Compare x ops ys _ => (match ops, ys with
        | [op'], [y] => decide (op = op') && !behindInMarks op y && (chk D a S).e x && (chk D b S).e y
        | _, _ => false)
      | _ => false) rfl rfl fun x hx => by
  cases x <;> first | (cases hx; done) | skip
  rename_i x ops ys pos
  cases ops with
  | nil => cases hx
  | cons op' ops =>
    cases ops with
    | cons => cases hx
    | nil =>
      cases ys with
      | nil => cases hx
      | cons y ys =>
        cases ys with
        | cons => cases hx
        | nil =>
          obtain ⟨h1, h4⟩ := b2 (show (decide (op = op') && !behindInMarks op y && (chk D a S).e x && (chk D b S).e y) = true from hx)
          obtain ⟨h1, h3⟩ := b2 h1
          obtain ⟨h1, h2⟩ := b2 h1
          obtain rfl := bd h1
          exact ⟨pe_cmpR (xcmpG G op) ((ha X W S G).e x h3).1 ((hb X W S G).e y h4).1 (bn h2), pt_bl (xcmpG G op) ((ha X W S G).e x h3).1 ((hb X W S G).e y h4).1 (bn h2)⟩
theorem snd_cmp2 {a b c : I} (op1 op2 : CmpOp) (ha : Snd D C n a) (hb : Snd D C n b) (hc : Snd D C n c) : Snd D C n (.cmp2 op1 op2 a b c) := fun X W S G => snd_ofET (f := fun
      | .Compare x ops ys _ => (match ops, ys with
        | [o1, o2], [y, z] => decide (op1 = o1) && decide (op2 = o2) && !lastMarks [o1, o2] [y, z] && (chk D a S).e x && (chk D b S).e y && (chk D c S).e z
        | _, _ => false)
      | _ => false) rfl rfl fun x hx => by
  cases x <;> first | (cases hx; done) | skip
  rename_i x ops ys pos
  rcases ops with _ | ⟨o1, _ | ⟨o2, _ | ⟨o3, ops⟩⟩⟩ <;> first | (cases hx; done) | skip
  rcases ys with _ | ⟨y, _ | ⟨z, _ | ⟨u, ys⟩⟩⟩ <;> first | (cases hx; done) | skip
  obtain ⟨h1, h6⟩ := b2 (show (decide (op1 = o1) && decide (op2 = o2) && !lastMarks [o1, o2] [y, z] && (chk D a S).e x && (chk D b S).e y && (chk D c S).e z) = true from hx)
  obtain ⟨h1, h5⟩ := b2 h1
  obtain ⟨h1, h4⟩ := b2 h1
  obtain ⟨h1, h3⟩ := b2 h1
  obtain ⟨h1, h2⟩ := b2 h1
  obtain rfl := bd h1
  obtain rfl := bd h2
  have pa := ((ha X W S G).e x h4).1
  have pb := ((hb X W S G).e y h5).1
  have pc := ((hc X W S G).e z h6).1
  have ho := cmpG G op1
  have ho' := cmpG G op2
  refine ⟨⟨fun pins s σ H Q I h => ?_⟩, ⟨fun pins s σ H Q I h => ?_⟩⟩
  · refine Compare_chain (thn (pa.run pins s σ H _ I h) fun v s1 ⟨x, H1, I1, r1, q1⟩ => chain_link (thn (pb.run pins s1 σ H1 _ I1 q1) fun u s2 ⟨y, H2, I2, r2, q2⟩ =>
      thn (ho pins s2 σ H2 x y v u _ I2 r1 r2 q2) fun d s3 ⟨z, H3, I3, r3, q3⟩ => ?_)) (bn h3)
    cases z with
    | bl k =>
      cases r3
      refine wpAny_truthy_bool ?_
      cases k with
      | false => exact ite_ff ⟨.bl false, H3, I3, rfl, q3⟩
      | true => exact ite_tt (chain_last (thn (pc.run pins s3 σ H3 _ I3 q3) fun w' s4 ⟨z', H4, I4, r4, q4⟩ => ho' pins s4 σ H4 y z' u w' Q I4 r2 r4 q4))
    | _ => exact q3.elim
  · refine isTrue_chain (thn (pa.run pins s σ H _ I h) fun v s1 ⟨x, H1, I1, r1, q1⟩ => test_link (thn (pb.run pins s1 σ H1 _ I1 q1) fun u s2 ⟨y, H2, I2, r2, q2⟩ =>
      thn (ho pins s2 σ H2 x y v u _ I2 r1 r2 q2) fun d s3 ⟨z, H3, I3, r3, q3⟩ => ?_)) (bn h3)
    cases z with
    | bl k =>
      cases r3
      refine wpAny_truthy_bool ?_
      cases k with
      | false => exact ite_ff ⟨H3, I3, q3⟩
      | true =>
        refine ite_tt (test_last (thn (pc.run pins s3 σ H3 _ I3 q3) fun w' s4 ⟨z', H4, I4, r4, q4⟩ => thn (ho' pins s4 σ H4 y z' u w' _ I4 r2 r4 q4) fun d' s5 ⟨z2, H5, I5, r5, q5⟩ => ?_))
        cases z2 with
        | bl k2 =>
          cases r5
          exact wpAny_truthy_bool ⟨H5, I5, q5⟩
        | _ => exact q5.elim
    | _ => exact q3.elim
theorem snd_lst {as : I} (ha : Snd D C n as) : Snd D C n (.lst as) := fun X W S G => snd_ofE (f := fun
      | .List es _ => (chk D as S).a es
      | _ => false) rfl rfl G.fc.hK fun x hx => by
  cases x <;> first | (cases hx; done) | skip
  exact ⟨pe_lst ((ha X W S G).a _ hx).1, fun _ => rfl⟩
theorem snd_tup {as : I} (ha : Snd D C n as) : Snd D C n (.tup as) := fun X W S G => snd_ofE (f := fun
      | .Tuple es _ _ => (chk D as S).a es
      | _ => false) rfl rfl G.fc.hK fun x hx => by
  cases x <;> first | (cases hx; done) | skip
  exact ⟨pe_tup ((ha X W S G).a _ hx).1, fun _ => rfl⟩
theorem snd_dic {ps : I} (ha : Snd D C n ps) : Snd D C n (.dic ps) := fun X W S G => snd_ofE (f := fun
      | .Dict ks vs _ => decide (ks.length ≤ 15) && decide (ks.length = vs.length) && (chk D ps S).p ks vs
      | _ => false) rfl rfl G.fc.hK fun x hx => by
  cases x <;> first | (cases hx; done) | skip
  rename_i ks vs pos
  obtain ⟨h1, h3⟩ := b2 (show (decide (ks.length ≤ 15) && decide (ks.length = vs.length) && (chk D ps S).p ks vs) = true from hx)
  obtain ⟨h1, h2⟩ := b2 h1
  obtain ⟨p1, p2, p3⟩ := (ha X W S G).p pos ks vs h3
  have h2 := bd h2
  refine ⟨⟨fun pins s σ H Q I h => ?_⟩, fun _ => rfl⟩
  have h : (match (rd C ps W).p with
      | [] => ∀ p, H p = none → Q (.ref p) (upd H p (.dK []))
      | trs => tDisp trs σ H Q) := h
  cases ks with
  | nil =>
    cases vs with
    | cons => cases h2
    | nil =>
      refine pe_dnewK.run pins s σ H Q I ?_
      cases e : (rd C ps W).p with
      | nil => rw [e] at h; exact h
      | cons a r => rw [e] at p3; cases p3
  | cons k ks =>
    refine (pe_disp p1 p2 h2 (by simp) (bd h1)).run pins s σ H Q I ?_
    cases e : (rd C ps W).p with
    | nil => rw [e] at p3; cases p3
    | cons a r => rw [e] at h; exact h
end
end U

namespace U
open PySem PySem.Spec PyProof.Rows L2
section
variable {D : SD} {C : Ctx} {n : Nat}
theorem room1 {X : Cx} {W : WX} {S : SC} (G : Gd D C n X W S) (hS : S.calm = true) : RoomG (5 * n + 1) X.A := (G.calm hS).2.mono (by omega)
theorem a_nil {as : I} {S : SC} (h : (chk D as S).a [] = true) : as = .nil := by
  cases as <;> first | rfl | (cases h; done) | (obtain ⟨sN, ssc, stp, sc, slm⟩ := S; cases sc <;> cases stp <;> cases slm <;> cases h)
theorem snd_call {as : I} (f : Str) (ha : Snd D C n as) : Snd D C n (.call f as) := fun X W S G => calmly rfl fun hS hck => snd_ofE (f := fun
      | .Call (.Name x _) es [] _ => decide (x = f) && S.gl x && decide (x ∈ D.fns) && (chk D as S).a es
      | _ => false) rfl hck G.fc.hK fun x hx => by
  cases x <;> first | (cases hx; done) | skip
  rename_i fe es kws pos
  cases fe <;> first | (cases hx; done) | skip
  rename_i y p
  cases kws with
  | cons => cases hx
  | nil =>
    obtain ⟨h1, h4⟩ := b2 (show (decide (y = f) && S.gl y && decide (y ∈ D.fns) && (chk D as S).a es) = true from hx)
    obtain ⟨h1, h3⟩ := b2 h1
    obtain ⟨h1, h2⟩ := b2 h1
    obtain rfl := bd h1
    obtain ⟨g1, g2, g3⟩ := gl_ok G.sc h2
    obtain ⟨pa, pn⟩ := (ha X W S G).a es h4
    obtain ⟨m1, m2, F, _⟩ := G.fc.fn y (bd h3)
    refine ⟨⟨fun pins s σ H Q I h => ?_⟩, fun _ => rfl⟩
    refine wpAny_Call_Name_kw (ld_glob I g1 m1 ?_ g2)
    cases es with
    | nil =>
      obtain rfl := a_nil h4
      have q : C.fn y [] H Q fun cls d H' => W cls d σ H' := h
      exact PySem.W.callWith_K0 I.kIn m2 (runA (us := []) (ws := []) (vs := []) (zs := []) F (room1 G hS) G.tk I .nil .nil rfl q)
    | cons e es =>
      rw [List.all_cons, Bool.and_eq_true] at pn
      refine PySem.W.callWith_K (h₀ := X.base) I.ok.mod.kin m2 (thn (pa.run pos pins s σ H _ I h) fun us s1 ⟨vs, H1, I1, r, q⟩ => ⟨I1.kIn, ?_⟩) (star_cons pn.1) (star_none pn.2)
      exact runA (ws := []) (zs := []) F (room1 G hS) G.tk I1 r .nil rfl q
theorem snd_mk {as : I} (c : Str) (ha : Snd D C n as) : Snd D C n (.mk c as) := fun X W S G => calmly rfl fun hS hck => snd_ofE (f := fun
      | .Call (.Name x _) es [] _ => decide (x = c) && S.gl x && decide (x ∈ D.mks) && (chk D as S).a es
      | _ => false) rfl hck G.fc.hK fun x hx => by
  cases x <;> first | (cases hx; done) | skip
  rename_i fe es kws pos
  cases fe <;> first | (cases hx; done) | skip
  rename_i y p
  cases kws with
  | cons => cases hx
  | nil =>
    obtain ⟨h1, h4⟩ := b2 (show (decide (y = c) && S.gl y && decide (y ∈ D.mks) && (chk D as S).a es) = true from hx)
    obtain ⟨h1, h3⟩ := b2 h1
    obtain ⟨h1, h2⟩ := b2 h1
    obtain rfl := bd h1
    obtain ⟨g1, g2, g3⟩ := gl_ok G.sc h2
    obtain ⟨pa, pn⟩ := (ha X W S G).a es h4
    obtain ⟨m1, m2, m3⟩ := G.fc.mks y (bd h3)
    have core : ∀ {H1 : Hp} {s1 : Shared} {us : List Value} {vs : List V} {pins : List (Addr × Obj)} {σ : St} {Q : VK}, Inv X pins σ H1 s1 → Vals vs us → (∀ x dx, H1 x = none → H1 dx = none → dx ≠ x →
      ∃ key, C.mth y "__init__" = some key ∧ C.fn key (.ref x :: vs) (upd (upd H1 dx (.own x)) x (.ins (He.ga C.K y) dx [])) (fun v H2 => v = .non ∧ Q (.ref x) H2) fun cls d H' => W cls d σ H') →
        wpAny (model X.prog X.w) X.A (call (.ref (He.ga X.K y)) us) (EP X pins σ Q) X.xe s1 := fun {H1 s1 us vs pins σ Q} I1 r q => by
      obtain ⟨key, e1, q⟩ := q (s1.heap.objs.size + 1) s1.heap.objs.size (I1.hok.fresh (Nat.le_succ _)) (I1.hok.fresh (Nat.le_refl _)) (Nat.ne_of_lt (Nat.lt_succ_self _))
      obtain ⟨f, c1, c2, c3, F, _⟩ := G.fc.mth y _ key e1
      have I2 := Inv.made (C := He.ga X.K y) I1
      rw [← G.fc.hK] at q
      refine wpAny_call (make_map (f := f) I1.kIn m2 c2.at_ (beq_iff_eq.mp c2.fn) (codeAny_mono (F _ X.stack _ _ (Value.ref (s1.heap.objs.size + 1) :: us) [] (V.ref (s1.heap.objs.size + 1) :: vs) [] _ _ (((G.calm hS).2.mono (by omega : 5 * n + 1 + 1 ≤ 5 * n + 3)).make (He.ga X.K y) us []) (I2.env0.make (He.ga X.K y) us []) (.cons rfl r) .nil rfl q) fun r s' hq' => ?_))
      cases r with
      | error e => exact G.tk _ _ (XE.of_call I2 (fun _ _ _ h => h) hq')
      | ok fl =>
        cases fl with
        | ret u =>
          obtain ⟨v, H', I3, rv, ev, q3⟩ := I2.after hq'
          subst ev
          exact ⟨rv, ⟨V.ref (s1.heap.objs.size + 1), H', I3, rfl, q3⟩⟩
        | next => exact False.elim hq'
        | brk => exact False.elim hq'
        | cont => exact False.elim hq'
    refine ⟨⟨fun pins s σ H Q I h => ?_⟩, fun _ => rfl⟩
    refine wpAny_Call_Name_kw (ld_glob I g1 m1 ?_ g2)
    cases es with
    | nil =>
      obtain rfl := a_nil h4
      exact PySem.W.callWith_K0 I.kIn m3 (core I .nil h)
    | cons e es =>
      rw [List.all_cons, Bool.and_eq_true] at pn
      exact PySem.W.callWith_K (h₀ := X.base) I.ok.mod.kin m3 (thn (pa.run pos pins s σ H _ I h) fun us s1 ⟨vs, H1, I1, r, q⟩ => ⟨I1.kIn, core I1 r q⟩) (star_cons pn.1) (star_none pn.2)
theorem vals_by : ∀ {xs : List V} {us : List Value}, xs.length = us.length → (∀ (j : Nat) (x : V) (u : Value), xs[j]? = some x → us[j]? = some u → RelV x u) → Vals xs us
  | [], [], _, _ => .nil
  | [], _ :: _, h, _ => by cases h
  | _ :: _, [], h, _ => by cases h
  | x :: xs, u :: us, h, p => .cons (p 0 x u rfl rfl) (vals_by (Nat.succ.inj h) fun j y v e1 e2 => p (j + 1) y v e1 e2)
theorem signs_vals {x : Str} {acc : Array Value} (h : ItemsOf (SignAt x) acc x.cps.size) : Vals (x.cps.toList.map fun c => .str (S [c])) acc.toList := by
  obtain ⟨h1, h2⟩ := h
  refine vals_by (by simp [h1]) fun j y u e1 e2 => ?_
  obtain ⟨c, t, e3, e4⟩ := h2 j u (by simpa using e2)
  rw [List.getElem?_map] at e1
  have e5 : x.cps.toList[j]? = some c := by simpa using e3
  rw [e5] at e1
  cases e1
  exact ⟨t, e4⟩
/-- the value of a built-in's name -/
def B.val : B → Value
  | .len => .builtin "len" | .abs => .builtin "abs" | .sum => .builtin "sum" | .all => .builtin "all" | .any => .builtin "any" | .sorted => .builtin "sorted"
  | .int => .type "int" | .bool => .type "bool" | .str => .type "str" | .list => .type "list" | .tuple => .type "tuple" | .dict => .type "dict"
theorem boot_B (f : B) : bootBuiltins f.nm = some f.val := by cases f <;> decide +kernel
theorem call_B {X : Cx} (hc : X.calm = true) (hh : X.A.handled = none) (f : B) : CallR X f.val (rB X.K f) := by
  cases f with
  | len =>
    refine callImp (callOr call_len_str (callOr call_len_seq call_lenD)) fun xs H Q h => ?_
    have h : rB X.K .len xs H Q := h
    simp only [rB] at h
    split at h
    · exact .inl ⟨_, rfl, h.1, h.2⟩
    · rcases h with ⟨ys, h1, h2⟩ | ⟨ys, h1, h2⟩ | ⟨kvs, h1, h2⟩
      · exact .inr (.inl ⟨_, ys, rfl, .inl h1, h2⟩)
      · exact .inr (.inl ⟨_, ys, rfl, .inr h1, h2⟩)
      · exact .inr (.inr ⟨_, kvs, rfl, h1, h2⟩)
    · exact h.elim
  | abs =>
    refine callImp call_abs fun xs H Q h => ?_
    have h : rB X.K .abs xs H Q := h
    simp only [rB] at h
    split at h
    · exact ⟨_, rfl, h⟩
    · exact h.elim
  | int =>
    refine callImp (callOr call_int1 call_int_str) fun xs H Q h => ?_
    have h : rB X.K .int xs H Q := h
    simp only [rB] at h
    split at h
    · exact .inl (.inl ⟨_, rfl, h⟩)
    · exact .inl (.inr ⟨_, rfl, h⟩)
    · obtain ⟨n, h1, h2, h3⟩ := h
      exact .inr ⟨_, n, rfl, h1, h2, h3⟩
    · exact h.elim
  | bool =>
    refine callImp call_bool1 fun xs H Q h => ?_
    have h : rB X.K .bool xs H Q := h
    simp only [rB] at h
    split at h
    · exact .inl ⟨_, rfl, h⟩
    · exact .inr ⟨_, rfl, h⟩
    · exact h.elim
  | str =>
    refine callImp (callOr call_str_int SkE.call_str_str) fun xs H Q h => ?_
    have h : rB X.K .str xs H Q := h
    simp only [rB] at h
    split at h
    · exact .inl ⟨_, rfl, h.1, h.2⟩
    · exact .inr ⟨_, rfl, h⟩
    · exact h.elim
  | list =>
    intro pins s σ H xs us Q I r h
    have h : rB X.K .list xs H Q := h
    simp only [rB] at h
    split at h
    · obtain ⟨ys, h1, h2⟩ := h
      exact call_list_of pins s σ H _ us Q I r ⟨_, ys, rfl, h1, h2⟩
    · rename_i z h0
      obtain ⟨h1, h2⟩ := h
      obtain ⟨u, rfl, t, rfl⟩ := vals1 r
      have hs : z.cps.size ≤ sizeLine := h1
      refine PySem.call_list_str hh z t (fun h' tk acc' c' kp hl hi => ?_) hs
      refine ⟨.ref s.heap.objs.size, _, I.laid (t' := tk) (o := .lst (z.cps.toList.map fun c => .str (S [c]))) kp (Nat.le_refl _) ⟨by simpa using hs, acc'.toList, c', signs_vals hi, by simpa using hl⟩, rfl, h2 _ (I.hok.fresh (Nat.le_refl _))⟩
    · exact h.elim
  | tuple =>
    intro pins s σ H xs us Q I r h
    have h : rB X.K .tuple xs H Q := h
    simp only [rB] at h
    split at h
    · obtain ⟨ys, h1⟩ := h
      exact call_tuple_of pins s σ H _ us Q I r ⟨_, ys, rfl, h1⟩
    · rename_i z h0
      obtain ⟨h1, h2⟩ := h
      obtain ⟨u, rfl, t, rfl⟩ := vals1 r
      have hs : z.cps.size ≤ sizeLine := h1
      refine PySem.call_tuple_str hh z t (fun h' tk acc kp hi => ?_) hs
      have I1 : Inv X pins σ H { s with heap := h', toks := tk } := I.kept kp
      refine ⟨.ref h'.objs.size, _, I1.laid (t' := tk) (o := .tup (z.cps.toList.map fun c => .str (S [c]))) (fun b ob q => Heap.get?_push_of_some _ q) (Nat.le_refl _) ⟨by simpa using hs, acc.toList, signs_vals hi, ?_⟩, rfl, h2 _ (I1.hok.fresh (Nat.le_refl _))⟩
      exact ⟨_, Heap.get?_push_size _ rfl, rfl, 0, by simp⟩
    · exact h.elim
  | sum =>
    refine callImp (cr_sum hc) fun xs H Q h => ?_
    have h : rB X.K .sum xs H Q := h
    simp only [rB] at h
    split at h
    · obtain ⟨ns, h1, h2⟩ := h
      exact ⟨_, ns, rfl, h1, h2⟩
    · exact h.elim
  | all =>
    refine callImp (cr_all hc) fun xs H Q h => ?_
    have h : rB X.K .all xs H Q := h
    simp only [rB] at h
    split at h
    · obtain ⟨ns, h1, h2⟩ := h
      exact ⟨_, ns, rfl, h1, h2⟩
    · exact h.elim
  | any =>
    refine callImp (cr_any hc) fun xs H Q h => ?_
    have h : rB X.K .any xs H Q := h
    simp only [rB] at h
    split at h
    · obtain ⟨ns, h1, h2⟩ := h
      exact ⟨_, ns, rfl, h1, h2⟩
    · exact h.elim
  | sorted => exact callOr cr_sorted (callOr cr_sortedS cr_sortedST)
  | dict =>
    refine callImp call_dictD fun xs H Q h => ?_
    have h : rB X.K .dict xs H Q := h
    simp only [rB] at h
    split at h
    · obtain ⟨kvs, h1, h2⟩ := h
      exact ⟨_, kvs, rfl, h1, h2⟩
    · exact h.elim
theorem snd_bi {as : I} (f : B) (ha : Snd D C n as) : Snd D C n (.bi f as) := fun X W S G => calmly rfl fun hS hck => snd_ofE (f := fun
      | .Call (.Name x _) es [] _ => decide (x = f.nm) && S.gl x && decide (x ∈ D.frees) && !es.isEmpty && (chk D as S).a es
      | _ => false) rfl hck G.fc.hK fun x hx => by
  cases x <;> first | (cases hx; done) | skip
  rename_i fe es kws pos
  cases fe <;> first | (cases hx; done) | skip
  rename_i y p
  cases kws with
  | cons => cases hx
  | nil =>
    obtain ⟨h1, h5⟩ := b2 (show (decide (y = f.nm) && S.gl y && decide (y ∈ D.frees) && !es.isEmpty && (chk D as S).a es) = true from hx)
    obtain ⟨h1, h4⟩ := b2 h1
    obtain ⟨h1, h3⟩ := b2 h1
    obtain ⟨h1, h2⟩ := b2 h1
    obtain rfl := bd h1
    obtain ⟨g1, g2, g3⟩ := gl_ok G.sc h2
    obtain ⟨pa, pn⟩ := (ha X W S G).a es h5
    cases es with
    | nil => cases h4
    | cons e es =>
      rw [List.all_cons, Bool.and_eq_true] at pn
      refine ⟨?_, fun _ => rfl⟩
      have hb := boot_B f
      have hcall := call_B (X := X) (G.calm hS).1 (G.calm hS).2.r.hd f
      rw [G.fc.hK] at hcall
      have m := G.fc.fr _ (bd h3)
      cases f <;> first
        | exact pe_callB hcall g1 m hb pa g3 g2 (star_cons pn.1) (star_none pn.2)
        | exact pe_callTy hcall g1 m hb pa g3 g2 (star_cons pn.1) (star_none pn.2)
end
end U

namespace U
open PySem PySem.Spec PyProof.Rows L2
section
variable {D : SD} {C : Ctx} {n : Nat}
/-- a method call, one line, few arguments -/
theorem mcall {X : Cx} {o : Expr} {m : Str} {ap pos : Pos} {es : List Expr} {kws : List Keyword} {Q : Value → Shared → Prop} {s : Shared} (h1 : abase o = true) (h2 : (ap.endLine == pos.line) = true) (h3 : es.length + kws.length + 1 < 30) (h4 : es.all nst = true) (h5 : (backToKw pos (keywordEach kws X.env)).all (fun x => x.1.isSome) = true)
    (h : wpAny (model X.prog X.w) X.A (eval o X.env) (fun ov s₁ => wpAny (model X.prog X.w) X.A (getMethod ov m (plainOf o X.env)) (fun fx s₂ => wpAny (model X.prog X.w) X.A (callWith pos fx.1 fx.2 (backTo pos (starEach es X.env)) (backToKw pos (keywordEach kws X.env))) Q X.xe s₂) X.xe s₁) X.xe s) :
    wpAny (model X.prog X.w) X.A (eval (.Call (.Attribute o m ap) es kws pos) X.env) Q X.xe s := by
  refine PySem.W.methodCall_KW h ?_
  rw [arm_eval_Call, abase_ok h1]
  have hf : methodCallForm (es.length + kws.length) (backTo pos (starEach es X.env)) (backToKw pos (keywordEach kws X.env)) = true := by
    unfold methodCallForm
    rw [star_none' h4, h5]
    simp
    split <;> omega
  simp only [mcall_line hf h2]
theorem snd_meth {o as : I} (m : Str) (ho : Snd D C n o) (ha : Snd D C n as) : Snd D C n (.meth o m as) := fun X W S G => calmly rfl fun hS hck => snd_ofE (f := fun
      | .Call (.Attribute x f ap) es [] pos => decide (f = m) && abase x && (ap.endLine == pos.line) && decide (es.length < 29) && (chk D o S).e x && (chk D as S).a es
      | _ => false) rfl hck G.fc.hK fun x hx => by
  cases x <;> first | (cases hx; done) | skip
  rename_i fe es kws pos
  cases fe <;> first | (cases hx; done) | skip
  rename_i x f ap
  cases kws with
  | cons => cases hx
  | nil =>
    obtain ⟨h1, h6⟩ := b2 (show (decide (f = m) && abase x && (ap.endLine == pos.line) && decide (es.length < 29) && (chk D o S).e x && (chk D as S).a es) = true from hx)
    obtain ⟨h1, h5⟩ := b2 h1
    obtain ⟨h1, h4⟩ := b2 h1
    obtain ⟨h1, h3⟩ := b2 h1
    obtain ⟨h1, h2⟩ := b2 h1
    obtain rfl := bd h1
    obtain ⟨pa, pn⟩ := (ha X W S G).a es h6
    have po := ((ho X W S G).e x h5).1
    refine ⟨⟨fun pins s σ H Q I h => ?_⟩, fun _ => rfl⟩
    refine mcall h2 h3 (by have := bd h4; simp only [List.length_nil]; omega) pn rfl (thn (po.run pins s σ H _ I h) fun u s1 ⟨y, H1, I1, ry, q⟩ => ?_)
    cases y with
    | ref a =>
      obtain rfl : u = Value.ref a := ry
      obtain ⟨cn, dx, fs, key, ea, em, el, q⟩ := q
      obtain ⟨g, c1, c2, c3, F, _⟩ := G.fc.mth cn _ key em
      rw [← G.fc.hK] at ea
      refine getmeth_ok I1 ea c1 c2 el ?_
      cases es with
      | nil =>
        obtain rfl := a_nil h6
        exact PySem.W.callWith_K0 (first := [.ref a]) I1.kIn c2.kp (runA (us := [.ref a]) (vs := [.ref a]) (ws := []) (zs := []) F (room1 G hS) G.tk I1 (.cons rfl .nil) .nil rfl q)
      | cons e es =>
        rw [List.all_cons, Bool.and_eq_true] at pn
        refine PySem.W.callWith_K (first := [.ref a]) (h₀ := X.base) I.ok.mod.kin c2.kp (thn (pa.run pos pins s1 σ H1 _ I1 q) fun us s2 ⟨vs, H2, I2, r, q2⟩ => ⟨I2.kIn, ?_⟩) (star_cons pn.1) (star_none pn.2)
        exact runA (us := .ref a :: us) (vs := .ref a :: vs) (ws := []) (zs := []) F (room1 G hS) G.tk I2 (.cons rfl r) .nil rfl q2
    | _ => exact q.elim
theorem mt_get2 {X : Cx} (hu : X.A.units + 1 < cLine) : MtR X "dict.get" (rM X.K .get) := by
  intro pins s σ H x xs v us Q I rx rs h
  obtain ⟨p, y, z, o, rfl, rfl, g, q⟩ := h
  obtain ⟨u1, u2, rfl, r1, r2⟩ := vals2 rs
  obtain rfl : v = Value.ref p := rx
  exact d_get2 hu I g r1 r2 fun w' s' I' rw' => ⟨_, H, I', rw', q⟩
def M.id : M → String
  | .append => "list.append" | .join => "str.join" | .find => "str.find" | .split => "str.split" | .count => "str.count" | .get => "dict.get" | .extend => "list.extend" | .pop => "list.pop"
theorem M.all (m : M) : PlainAttrs m.T ∧ Slot m.T m.nm m.id ∧ typeOf (.builtin m.id) = pure (.type "method_descriptor") := by
  cases m with
  | append => exact ⟨PySem.F.plainAttrs_list, PySem.F.slot_list_append, PySem.F.type_list_append⟩
  | extend => exact ⟨PySem.F.plainAttrs_list, PySem.F.slot_list_extend, PySem.F.type_list_extend⟩
  | pop => exact ⟨PySem.F.plainAttrs_list, PySem.F.slot_list_pop, PySem.F.type_list_pop⟩
  | join => exact ⟨PySem.F.plainAttrs_str, PySem.F.slot_str_join, PySem.F.type_str_join⟩
  | find => exact ⟨PySem.F.plainAttrs_str, PySem.F.slot_str_find, PySem.F.type_str_find⟩
  | split => exact ⟨PySem.F.plainAttrs_str, PySem.F.slot_str_split, PySem.F.type_str_split⟩
  | count => exact ⟨PySem.F.plainAttrs_str, PySem.F.slot_str_count, PySem.F.type_str_count⟩
  | get => exact ⟨PySem.F.plainAttrs_dict, PySem.F.slot_dict_get, PySem.F.type_dict_get⟩
theorem mt_M {X : Cx} (hu : X.A.units + 1 < cLine) (m : M) : MtR X m.id (rM X.K m) := by
  cases m with
  | append => exact mt_append
  | extend => exact mt_extend
  | pop => exact mt_popAt
  | join => exact mt_join
  | find => exact mt_find
  | split => exact mt_split
  | count => exact mt_count
  | get => exact mt_get2 hu
theorem snd_bm {o as : I} (m : M) (ho : Snd D C n o) (ha : Snd D C n as) : Snd D C n (.bm m o as) := fun X W S G => snd_ofE (f := fun
      | .Call (.Attribute x f ap) es [] pos => decide (f = m.nm) && abase x && (ap.endLine == pos.line) && decide (es.length < 29) && !es.isEmpty && (chk D o S).e x && (chk D as S).a es
      | _ => false) rfl rfl G.fc.hK fun x hx => by
  cases x <;> first | (cases hx; done) | skip
  rename_i fe es kws pos
  cases fe <;> first | (cases hx; done) | skip
  rename_i x f ap
  cases kws with
  | cons => cases hx
  | nil =>
    obtain ⟨h1, h7⟩ := b2 (show (decide (f = m.nm) && abase x && (ap.endLine == pos.line) && decide (es.length < 29) && !es.isEmpty && (chk D o S).e x && (chk D as S).a es) = true from hx)
    obtain ⟨h1, h6⟩ := b2 h1
    obtain ⟨h1, h5⟩ := b2 h1
    obtain ⟨h1, h4⟩ := b2 h1
    obtain ⟨h1, h3⟩ := b2 h1
    obtain ⟨h1, h2⟩ := b2 h1
    obtain rfl := bd h1
    obtain ⟨pa, pn⟩ := (ha X W S G).a es h7
    have po := ((ho X W S G).e x h6).1
    cases es with
    | nil => cases h5
    | cons e es =>
      have pn' := pn
      rw [List.all_cons, Bool.and_eq_true] at pn'
      obtain ⟨m1, m2, m3⟩ := M.all m
      refine ⟨?_, fun _ => rfl⟩
      have := pe_bm (cpos := pos) (apos := ap) m1 m2 m3 (mt_M (X := X) (by have := G.un; omega) m) po pa (abase_ok h2) (by
        rw [star_none' pn]
        have := bd h4
        simp only [List.length_cons] at this
        simp [keywordEach, backToKw]
        omega) h3 (star_cons pn'.1) (star_none pn'.2)
      rw [G.fc.hK] at this
      exact this
theorem snd_att {o : I} (f : Str) (ho : Snd D C n o) : Snd D C n (.att o f) := fun X W S G => calmly rfl fun hS hck => snd_ofE (f := fun
      | .Attribute x f' _ => decide (f = f') && abase x && (chk D o S).e x
      | _ => false) rfl hck G.fc.hK fun x hx => by
  cases x <;> first | (cases hx; done) | skip
  rename_i x f' pos
  obtain ⟨h1, h3⟩ := b2 (show (decide (f = f') && abase x && (chk D o S).e x) = true from hx)
  obtain ⟨h1, h2⟩ := b2 h1
  obtain rfl := bd h1
  have po := ((ho X W S G).e x h3).1
  refine ⟨⟨fun pins s σ H Q I h => ?_⟩, fun _ => rfl⟩
  refine attr_of (abase_ok h2) (thn (po.run pins s σ H _ I h) fun u s1 ⟨y, H1, I1, ry, q⟩ => ?_)
  cases y with
  | ref a =>
    obtain rfl : u = Value.ref a := ry
    obtain ⟨cn, dx, fs, ea, q⟩ := q
    rw [← G.fc.hK] at ea
    rcases q with ⟨e1, v, l, q⟩ | ⟨key, e1, q⟩
    · obtain ⟨c1, c2⟩ := G.fc.fld cn f e1
      exact getattr_ok I1 ea c1 c2 l fun u' s2 I2 ru => ⟨v, H1, I2, ru, q⟩
    · obtain ⟨c1, p, g, hp, F⟩ := G.fc.prp cn f key e1
      obtain ⟨mA, O, _, _, _, _⟩ := ins_get I1.hok ea
      obtain ⟨od, J, _⟩ := O.look
      obtain ⟨rest, hrec⟩ := hp.rec_
      have I1' := I1.tok (s1.toks + 1)
      have hc : (PySem.W.clsIn X.K (He.ga X.K cn)).isSome = true := by
        obtain ⟨cd, hc, _⟩ := PySem.W.any_some c1.hd
        rw [hc]
        rfl
      refine PySem.W.get_bind I1.kIn J (PySem.W.plainGet_of (c1.get f)).1 (PySem.W.findObj_data hc hp.at_ hp.get hp.tak) (PySem.W.plainGet_of (c1.get f)).2 (wpAny_call (PySem.W.prop_get (s := { s1 with toks := s1.toks + 1 }) I1.kIn hrec ?_))
      refine codeAny_mono (F X.A.in1 X.stack { s1 with toks := s1.toks + 1 } H1 [.ref a] [] [.ref a] [] Q (fun _ _ _ => False) ((G.calm hS).2.mono (by omega : 5 * n + 1 + 1 ≤ 5 * n + 3)).in1 I1'.env0.in1 (.cons rfl .nil) .nil rfl q) fun r s' hq => ?_
      cases r with
      | error er =>
        obtain ⟨_, _, _, _, _, _, _, _, _, _, _, _, z⟩ := hq
        exact z.elim
      | ok fl =>
        cases fl with
        | ret u =>
          obtain ⟨v, H', I3, rv, q3⟩ := I1'.after hq
          show wpAny _ _ (handedOut u) _ _ _
          rw [PySem.W.handedOut_of (handed_of rv)]
          exact wpAny_pure ⟨v, H', I3, rv, q3⟩
        | next => exact False.elim hq
        | brk => exact False.elim hq
        | cont => exact False.elim hq
  | _ => exact q.elim
theorem ix_ok {X : Cx} (hu : X.A.units + 1 < cLine) {T : List KTab} (kg : KGood X.K X.w T) : IxR X (rIxU X.K X.w T) := by
  intro value slice pins s σ H x y v u Q I rx ry h hs
  unfold rIxU at h
  split at h
  · obtain ⟨h1, c, h2, q⟩ := h
    exact ix_str value slice pins s σ H _ _ v u Q I rx ry ⟨_, _, c, rfl, rfl, h1, h2, q⟩ hs
  · rcases h with ⟨xs, h1, z, h2, q⟩ | ⟨xs, h1, z, h2, q⟩ | ⟨z, g, q⟩
    · exact ix_list value slice pins s σ H _ _ v u Q I rx ry ⟨_, xs, _, z, rfl, rfl, h1, h2, q⟩ hs
    · exact ix_tup value slice pins s σ H _ _ v u Q I rx ry ⟨_, xs, _, z, rfl, rfl, h1, h2, q⟩ hs
    · cases rx
      exact tail_any (dict_typeIs I g) PySem.F.slot_dict_getitem.lookup (d_getItem hu I g ry fun w' s3 I3 rw' => ⟨z, H, I3, rw', q⟩) hs
  · rcases h with ⟨kvs, e, z, h2, q⟩ | ⟨z, ⟨t, ht, rfl, e⟩, q⟩
    · have g : DGet H _ (.str _) (some z) := .inl ⟨kvs, .inr _, e, rfl, h2.symm⟩
      cases rx
      exact tail_any (dict_typeIs I g) PySem.F.slot_dict_getitem.lookup (d_getItem hu I g ry fun w' s3 I3 rw' => ⟨z, H, I3, rw', q⟩) hs
    · obtain ⟨es, n, D, g⟩ := kg t ht
      obtain ⟨r, er, rr⟩ := g _
      rw [← e] at rr
      obtain ⟨u0, e0, r0⟩ := RelO.some_of rr
      subst e0
      exact ix_kdict value slice pins s σ H _ _ v u Q I rx ry ⟨_, _, z, rfl, rfl, ⟨es, n, u0, D.at_, D.lit, er, r0⟩, q⟩ hs
  · exact h.elim
theorem snd_ix {o i : I} (ho : Snd D C n o) (hi : Snd D C n i) : Snd D C n (.ix o i) := fun X W S G => snd_ofE (f := fun
      | .Subscript x y _ => noSlice y && (chk D o S).e x && (chk D i S).e y
      | _ => false) rfl rfl G.fc.hK fun x hx => by
  cases x <;> first | (cases hx; done) | skip
  rename_i x y pos
  obtain ⟨h1, h3⟩ := b2 (show (noSlice y && (chk D o S).e x && (chk D i S).e y) = true from hx)
  obtain ⟨h1, h2⟩ := b2 h1
  refine ⟨?_, fun _ => rfl⟩
  have := pe_ix (pos := pos) (ix_ok (X := X) (by have := G.un; omega) G.fc.kg) ((ho X W S G).e x h2).1 ((hi X W S G).e y h3).1 (plainIx_ok h1)
  rw [G.fc.hK, G.fc.hw] at this
  exact this
theorem sl_ok {X : Cx} : SlR X (rSlU X.K) := by
  intro pins s σ H x v vl vu lo hi sl Q I rx hs pl pu h
  unfold rSlU at h
  split at h
  · exact sl_str pins s σ H _ v vl vu lo hi sl Q I rx hs pl pu ⟨_, rfl, h⟩
  · rcases h with h | h
    · exact sl_list pins s σ H _ v vl vu lo hi sl Q I rx hs pl pu h
    · exact sl_tupA pins s σ H _ v vl vu lo hi sl Q I rx hs pl pu h
  · exact h.elim
theorem snd_sl {o lo hi : I} (ho : Snd D C n o) (hl : Snd D C n lo) (hh : Snd D C n hi) : Snd D C n (.sl o lo hi) := fun X W S G => snd_ofE (f := fun
      | .Subscript x (.Slice l h none _) _ => (chk D o S).e x && (chk D lo S).o l && (chk D hi S).o h
      | _ => false) rfl rfl G.fc.hK fun x hx => by
  cases x <;> first | (cases hx; done) | skip
  rename_i x y pos
  cases y <;> first | (cases hx; done) | skip
  rename_i l h st p2
  cases st with
  | some => cases hx
  | none =>
    obtain ⟨h1, h3⟩ := b2 (show ((chk D o S).e x && (chk D lo S).o l && (chk D hi S).o h) = true from hx)
    obtain ⟨h1, h2⟩ := b2 h1
    refine ⟨?_, fun _ => rfl⟩
    have := pe_slice (pos := pos) (p2 := p2) (sl_ok (X := X)) ((ho X W S G).e x h1).1 ((hl X W S G).o l h2) ((hh X W S G).o h h3)
    rw [G.fc.hK] at this
    exact this
theorem snd_ostr {a : I} (ha : Snd D C n a) : Snd D C n (.ostr a) := fun X W S G => calmly rfl fun hS hck => snd_ofE (f := fun
      | .Call (.Name x _) [y] [] _ => decide (x = ("str" : Str)) && S.gl x && decide (x ∈ D.frees) && nst y && (chk D a S).e y
      | _ => false) rfl hck G.fc.hK fun x hx => by
  cases x <;> first | (cases hx; done) | skip
  rename_i fe es kws pos
  cases fe <;> first | (cases hx; done) | skip
  rename_i x p
  rcases es with _ | ⟨y, _ | ⟨y2, es⟩⟩ <;> first | (cases hx; done) | skip
  cases kws with
  | cons => cases hx
  | nil =>
    obtain ⟨h1, h5⟩ := b2 (show (decide (x = ("str" : Str)) && S.gl x && decide (x ∈ D.frees) && nst y && (chk D a S).e y) = true from hx)
    obtain ⟨h1, h4⟩ := b2 h1
    obtain ⟨h1, h3⟩ := b2 h1
    obtain ⟨h1, h2⟩ := b2 h1
    obtain rfl := bd h1
    obtain ⟨g1, g2, g3⟩ := gl_ok G.sc h2
    have pa := ((ha X W S G).e y h5).1
    have hcall : CallR X (.type "str") (fun xs H1 Q => ∃ a cn dx fs key, xs = [.ref a] ∧ H1 a = some (.ins (He.ga C.K cn) dx fs) ∧ C.mth cn "__str__" = some key ∧ C.fn key [.ref a] H1 (fun v H2 => match v with | .str z => Q (.str z) H2 | _ => False) fun _ _ _ => False) := by
      intro pins s σ H xs us Q I r h
      obtain ⟨a, cn, dx, fs, key, rfl, ea, em, q⟩ := h
      obtain ⟨u, rfl, ru⟩ := vals1 r
      obtain rfl : u = Value.ref a := ru
      obtain ⟨g, c1, c2, c3, F, _⟩ := G.fc.mth cn _ key em
      rw [← G.fc.hK] at ea
      obtain ⟨mA, O, _, _, _, _⟩ := ins_get I.hok ea
      obtain ⟨od, J, _⟩ := O.look
      have hu := G.un
      refine PySem.W.kso_call (by show X.A.units + 1 + 1 < cLine; omega) I.kIn J c2.at_ c2.fn ?_
      refine wpAny_call (codeAny_mono (F X.A.in1.in1 X.stack s H [.ref a] [] [.ref a] [] _ (fun _ _ _ => False) ((G.calm hS).2.mono (by omega : 5 * n + 1 + 1 + 1 ≤ 5 * n + 3)).in1.in1 I.env0.in1.in1 (.cons rfl .nil) .nil rfl q) fun r s' hq => ?_)
      cases r with
      | error er =>
        obtain ⟨_, _, _, _, _, _, _, _, _, _, _, _, z⟩ := hq
        exact z.elim
      | ok fl =>
        cases fl with
        | ret u =>
          obtain ⟨v, H', I3, rv, q3⟩ := I.after hq
          cases v with
          | str z =>
            obtain ⟨t, rfl⟩ := rv
            exact ⟨.str z, H', I3, ⟨t, rfl⟩, q3⟩
          | _ => exact q3.elim
        | next => exact False.elim hq
        | brk => exact False.elim hq
        | cont => exact False.elim hq
    refine ⟨⟨fun pins s σ H Q I h => ?_⟩, fun _ => rfl⟩
    refine wpAny_Call_Name_kw (ld_blt I g1 (G.fc.fr _ (bd h3)) (by decide +kernel : bootBuiltins "str" = some (.type "str")) ?_ g3 g2)
    refine PyProof.Rows.callWith_type1 ?_ (star_cons h4) rfl
    rw [star_cons h4]
    show wpAny _ _ (spliced ((false, eval y X.env) :: backTo pos (starEach [] X.env))) _ _ s
    refine Calls.spliced_cons (thn (pa.run pins s σ H _ I h) fun u s1 ⟨x, H1, I1, r1, q1⟩ => Calls.spliced_nil ?_)
    cases x with
    | ref a =>
      obtain ⟨cn, dx, fs, key, q⟩ := q1
      exact hcall pins s1 σ H1 _ _ Q I1 (.cons r1 .nil) ⟨a, cn, dx, fs, key, rfl, q⟩
    | _ => exact q1.elim
end
end U

namespace U
open PySem PySem.Spec PyProof.Rows L2
section
variable {D : SD} {C : Ctx} {n : Nat}
/-! ### isinstance -/
abbrev tyNames : List String := ["NoneType", "bool", "int", "str", "list", "tuple", "dict"]
abbrev clNames : List String := ["int", "bool", "str", "list", "tuple", "dict"]
theorem kitB_all : ∀ t ∈ tyNames, ∀ c ∈ clNames, kitB t c = some (subTy t c) := by decide +kernel
def crV (K : PySem.W.Frag) : CR → V
  | .ty n => .ty n
  | .own x => .ref (He.ga K x)
def crU (K : PySem.W.Frag) : CR → Value
  | .ty n => .type n
  | .own x => .ref (He.ga K x)
/-- a class reference of the text -/
def crG (D : SD) : CR → Prop
  | .ty n => n ∈ clNames
  | .own x => x ∈ D.clss
theorem isiT_kit {P : Program} {w : World} {K : PySem.W.Frag} {mg : Str → Option Value} {base : Heap} (F : Fc D C n P w K mg base) {t : String} (ht : t ∈ tyNames) {c : CR} (hc : crG D c) : PySem.W.kitOne K (.type t) (crU K c) = some (isiT t c) := by
  cases c with
  | ty m => exact kit_ty (kitB_all t ht m hc)
  | own x => exact (F.cls x hc).2 t ht
theorem kitAny_of {K : PySem.W.Frag} {t : Value} : ∀ {cs : List CR} {bs : List Bool}, cs.map (fun c => PySem.W.kitOne K t (crU K c)) = bs.map some → PySem.W.kitAny K t (cs.map (crU K)) = some (bs.any id)
  | [], [], _ => rfl
  | [], _ :: _, h => by cases h
  | _ :: _, [], h => by cases h
  | c :: cs, b :: bs, h => by
    obtain ⟨h1, h2⟩ := List.cons.inj h
    refine kitAny_cons h1 (fun e => ?_) (fun e => ?_)
    · subst e
      rw [List.any_cons]
      exact kitAny_of h2
    · subst e
      rfl
theorem crs_len : ∀ {cs : List CR} {es : List Expr} {S : SC}, crsOk D S cs es = true → cs.length = es.length
  | [], [], _, _ => rfl
  | [], _ :: _, _, h => by cases h
  | _ :: _, [], _, h => by cases h
  | c :: cs, e :: es, S, h => by rw [List.length_cons, List.length_cons, crs_len (b2 h).2]
theorem cr_ok {X : Cx} {W : WX} {S : SC} (G : Gd D C n X W S) {c : CR} {e : Expr} (h : crOk D S c e = true) : PE X e (tC (crV X.K c)) ∧ crG D c ∧ nst e = true := by
  cases e <;> first | (cases h; done) | skip
  rename_i x pos
  obtain ⟨h1, h2⟩ := b2 h
  obtain ⟨g1, g2, g3⟩ := gl_ok G.sc h1
  cases c with
  | ty m =>
    obtain ⟨h3, h4⟩ := b2 h2
    obtain ⟨h4, h5⟩ := b2 h4
    exact ⟨pe_bltn g1 (G.fc.fr _ (bd h3)) (bd h4) rfl g3 g2, (show m ∈ clNames from bd h5), rfl⟩
  | own y =>
    obtain ⟨h3, h4⟩ := b2 h2
    obtain rfl := bd h3
    exact ⟨pe_glob g1 (G.fc.cls _ (bd h4)).1 rfl g2, (show x ∈ D.clss from bd h4), rfl⟩
/-- the classes of a display, from the left -/
theorem crs_ok {X : Cx} {W : WX} {S : SC} (G : Gd D C n X W S) : ∀ {cs : List CR} {es : List Expr}, crsOk D S cs es = true → PA X es (fun _ H Q => Q (cs.map (crV X.K)) H) ∧ (∀ c ∈ cs, crG D c) ∧ es.all nst = true
  | [], [], _ => ⟨pa_nil, (fun c hc => nomatch hc), rfl⟩
  | [], _ :: _, h => by cases h
  | _ :: _, [], h => by cases h
  | c :: cs, e :: es, h => by
    obtain ⟨h1, h2⟩ := b2 h
    obtain ⟨p1, p2, p3⟩ := cr_ok G h1
    obtain ⟨q1, q2, q3⟩ := crs_ok G h2
    refine ⟨pa_cons p1 q1 (star_cons p3), fun z hz => ?_, by rw [List.all_cons, p3, q3]; rfl⟩
    rcases List.mem_cons.mp hz with e | hz
    · rw [e]; exact p2
    · exact q2 z hz
theorem clsV_all {K : PySem.W.Frag} : ∀ cs : List CR, Paired ClsV (cs.map (crV K)) (cs.map (crU K))
  | [] => .nil
  | .ty n :: cs => .cons (.ty n) (clsV_all cs)
  | .own x :: cs => .cons (.own _) (clsV_all cs)
/-- what Isi says, for the library's rule -/
theorem isi_look {P : Program} {w : World} {K : PySem.W.Frag} {mg : Str → Option Value} {base : Heap} (F : Fc D C n P w K mg base) {H : Hp} {x : V} {cs : List CR} {Q : VK} (hg : ∀ c ∈ cs, crG D c) (hne : cs ≠ []) (h : Isi C H x cs Q) :
    ∃ (t : Value) (bs : List Bool), TyX K H x t ∧ cs.map (fun c => PySem.W.kitOne K t (crU K c)) = bs.map some ∧ Q (.bl (bs.any id)) H := by
  have byT : ∀ {t : String}, t ∈ tyNames → cs.map (fun c => PySem.W.kitOne K (.type t) (crU K c)) = (cs.map (isiT t)).map some := fun {t} ht => by
    rw [List.map_map]
    exact List.map_congr_left fun c hc => isiT_kit F ht (hg c hc)
  have fin : ∀ {t : String}, Q (.bl (cs.any (isiT t))) H → Q (.bl ((cs.map (isiT t)).any id)) H := fun {t} q => by
    rw [List.any_map]
    exact q
  unfold Isi at h
  cases x with
  | non => exact ⟨_, _, .base .non, byT (by decide), fin h⟩
  | bl b => exact ⟨_, _, .base (.bl b), byT (by decide), fin h⟩
  | int i => exact ⟨_, _, .base (.int i), byT (by decide), fin h⟩
  | str z => exact ⟨_, _, .base (.str z), byT (by decide), fin h⟩
  | byt _ => exact h.elim
  | flt _ => exact h.elim
  | ty _ => exact h.elim
  | ref p =>
    rcases h with ⟨cn, dx, fs, ho, bs, e, q⟩ | ⟨o, ho, t, e, q⟩
    · rw [← F.hK] at ho
      have all : ∀ {cs : List CR} {bs : List Bool}, cs.map (C.isi cn) = bs.map some → cs.map (fun c => PySem.W.kitOne K (.ref (He.ga K cn)) (crU K c)) = bs.map some := by
        intro cs
        induction cs with
        | nil => intro bs e; exact e
        | cons c cs ih =>
          intro bs e
          cases bs with
          | nil => cases e
          | cons b bs =>
            obtain ⟨e1, e2⟩ := List.cons.inj e
            rw [List.map_cons, List.map_cons, ih e2]
            congr 1
            have := (F.isi cn c b e1).2
            cases c <;> exact this
      cases cs with
      | nil => exact absurd rfl hne
      | cons c cs =>
        cases bs with
        | nil => cases e
        | cons b bs =>
          obtain ⟨e1, e2⟩ := List.cons.inj e
          obtain ⟨⟨c1, a1, a2, a3, a4⟩, _⟩ := F.isi cn c b e1
          exact ⟨_, b :: bs, .base (.ins ho c1 a1 a2 a3 a4), all e, q⟩
    · cases o with
      | lst xs =>
        cases e
        rcases ho with ho | ⟨ob, ho⟩
        · exact ⟨_, _, .base (.lst ho), byT (by decide), fin q⟩
        · exact ⟨_, _, .base (.frz ho), byT (by decide), fin q⟩
      | tup xs =>
        cases e
        rcases ho with ho | ⟨ob, ho⟩
        · exact ⟨_, _, .base (.tup ho), byT (by decide), fin q⟩
        · exact ⟨_, _, .fTuple ho, byT (by decide), fin q⟩
      | dK kvs =>
        cases e
        rcases ho with ho | ⟨ob, ho⟩
        · exact ⟨_, _, .base (.dK ho), byT (by decide), fin q⟩
        · exact ⟨_, _, .fDict ho, byT (by decide), fin q⟩
      | _ => cases e
theorem snd_isi {a : I} (cs : List CR) (many : Bool) (ha : Snd D C n a) : Snd D C n (.isi a cs many) := fun X W S G => snd_ofE (f := fun
      | .Call (.Name x _) [y, c] [] _ => decide (x = ("isinstance" : Str)) && S.gl x && decide (x ∈ D.frees) && nst y && !cs.isEmpty && (chk D a S).e y && (match many with
        | false => nst c && crsOk D S cs [c]
        | true => (match c with
          | .Tuple es _ _ => es.all nst && crsOk D S cs es && decide (es.length ≤ 15)
          | _ => false))
      | _ => false) rfl rfl G.fc.hK fun x hx => by
  cases x <;> first | (cases hx; done) | skip
  rename_i fe es kws pos
  cases fe <;> first | (cases hx; done) | skip
  rename_i x p
  rcases es with _ | ⟨y, _ | ⟨c, _ | ⟨y2, es⟩⟩⟩ <;> first | (cases hx; done) | skip
  cases kws with
  | cons => cases hx
  | nil =>
    obtain ⟨h1, h7⟩ := b2 hx
    obtain ⟨h1, h6⟩ := b2 h1
    obtain ⟨h1, h5⟩ := b2 h1
    obtain ⟨h1, h4⟩ := b2 h1
    obtain ⟨h1, h3⟩ := b2 h1
    obtain ⟨h1, h2⟩ := b2 h1
    obtain rfl := bd h1
    obtain ⟨g1, g2, g3⟩ := gl_ok G.sc h2
    have pa := ((ha X W S G).e y h6).1
    have hne : cs ≠ [] := by
      intro z
      rw [z] at h5
      cases h5
    have hnc : nst c = true := by
      cases many with
      | false => exact (b2 h7).1
      | true => cases c <;> first | rfl | (cases h7; done)
    refine ⟨⟨fun pins s σ H Q I h => ?_⟩, fun _ => rfl⟩
    refine wpAny_Call_Name_kw (ld_blt I g1 (G.fc.fr _ (bd h3)) (by decide +kernel : bootBuiltins "isinstance" = some (.builtin "isinstance")) ?_ g3 g2)
    refine PyProof.Rows.callWith_builtin1 ?_ (star_cons h4) (star_none (by rw [List.all_cons, hnc]; rfl))
    rw [star_cons h4]
    show wpAny _ _ (spliced ((false, eval y X.env) :: backTo pos (starEach [c] X.env))) _ _ s
    refine Calls.spliced_cons (thn (pa.run pins s σ H _ I h) fun u s1 ⟨x, H1, I1, r1, q1⟩ => ?_)
    rw [star_cons hnc]
    show wpAny _ _ (spliced ((false, eval c X.env) :: backTo pos (starEach [] X.env))) _ _ s1
    cases many with
    | false =>
      obtain ⟨_, h8⟩ := b2 h7
      rcases cs with _ | ⟨c0, _ | ⟨c1, cs⟩⟩
      · exact absurd rfl hne
      · obtain ⟨h9, _⟩ := b2 h8
        obtain ⟨p1, p2, _⟩ := cr_ok G h9
        have q1 : Isi C H1 x [c0] Q := q1
        obtain ⟨t, bs, ty, e, q⟩ := isi_look G.fc (fun z hz => by rw [List.mem_singleton.mp hz]; exact p2) hne q1
        cases bs with
        | nil => cases e
        | cons b bs =>
        obtain ⟨e1, e2⟩ := List.cons.inj e
        have e3 : bs = [] := by
          cases bs with
          | nil => rfl
          | cons => cases e2
        subst e3
        refine Calls.spliced_cons (thn (p1.run pins s1 σ H1 (fun v H2 => v = crV X.K c0 ∧ H2 = H1) I1 ⟨rfl, rfl⟩) fun u2 s2 ⟨x2, H2, I2, r2, q2⟩ => Calls.spliced_nil ?_)
        obtain ⟨rfl, rfl⟩ := q2
        refine call_isi pins s2 σ H2 [x, crV X.K c0] _ Q I2 (.cons r1 (.cons r2 .nil)) ⟨x, crV X.K c0, t, crU X.K c0, b, rfl, ?_, ty, e1, by simpa using q⟩
        cases c0 with
        | ty m => exact .ty m
        | own z => exact .own _
      · obtain ⟨_, h9⟩ := b2 h8
        cases h9
    | true =>
      cases c <;> first | (cases h7; done) | skip
      rename_i es kk tp
      obtain ⟨h7, h9⟩ := b2 h7
      obtain ⟨_, h8⟩ := b2 h7
      obtain ⟨p1, p2, _⟩ := crs_ok G h8
      have hlen := crs_len h8
      refine Calls.spliced_cons (thn ((pe_tup (x1 := kk) (pos := tp) p1).run pins s1 σ H1 (fun v H2 => ∃ p, H1 p = none ∧ v = .ref p ∧ H2 = upd H1 p (.tup (cs.map (crV X.K)))) I1 ⟨by rw [List.length_map, hlen, sizeLine_eq]; have := bd h9; omega, fun p hp => ⟨p, hp, rfl, rfl⟩⟩) fun u2 s2 ⟨x2, H2, I2, r2, q2⟩ => Calls.spliced_nil ?_)
      obtain ⟨p, hp, rfl, rfl⟩ := q2
      have q1 : Isi C (upd H1 p (.tup (cs.map (crV X.K)))) x cs Q := by
        rw [G.fc.hK]
        exact q1 p hp
      obtain ⟨t, bs, ty, e, q⟩ := isi_look G.fc p2 hne q1
      exact call_isiT pins s2 σ _ [x, .ref p] _ Q I2 (.cons r1 (.cons r2 .nil)) ⟨x, p, _, t, _, _, rfl, upd_same, clsV_all cs, ty, kitAny_of e, q⟩
end
end U

namespace U
open PySem PySem.Spec PyProof.Rows L2
section
variable {D : SD} {C : Ctx} {n : Nat}
theorem callO_kw {M : Model} {A : Around} {E : Value → Shared → Prop} {s : Shared} {a : Addr} {pos : Pos} {Q : Value → Shared → Prop} {args : List (Bool × Sem Value)} {kws : List (Option Str × Sem Value)} (hplain : (args.any (·.1) || kws.any (·.1.isNone)) = false)
    (h : wpAny M A (evalArgs (.ref a) true args kws) (fun z s₁ => (∃ C ox od, PySem.W.InstAt s₁.heap a ox C od ∧ ox.data = .plain) ∧ wpAny M A (call (.ref a) ([] ++ z.pos) z.kw) Q E s₁) E s) : wpAny M A (callWith pos (.ref a) [] args kws) Q E s := by
  unfold callWith
  refine wpAny_bind (wpAny_holding (wpAny_mono h (fun z s₁ h₁ => wpAny_bind (wpAny_standAt ?_)) fun _ _ y => y))
  obtain ⟨⟨C, ox, od, J, hd⟩, h₁⟩ := h₁
  have L := PySem.W.kco_keeper (M := M) J hd
  simp only [hplain]
  refine wpAny_bind (L.here ?_)
  have tail : ∀ {t : Sem Value}, wpAny M A t Q E s₁ → wpAny M A (t >>= fun r => holding [r] point >>= fun _ => pure r) Q E s₁ :=
    fun ht => wpAny_bind (wpAny_mono ht (fun r s₂ hr => wpAny_bind (wpAny_holding (wpAny_point (wpAny_pure hr)))) fun _ _ y => y)
  exact tail (wpAny_operateT h₁)
theorem kw_names {env : Env} {pos : Pos} : ∀ {kws : List Keyword} {ks : List Str}, kws.map (·.arg) = ks.map some →
    (backToKw pos (keywordEach kws env)).all (·.1.isSome) = true ∧ (backToKw pos (keywordEach kws env)).filterMap (·.1) = ks ∧ (backToKw pos (keywordEach kws env)).any (·.1.isNone) = false ∧ kws.length = ks.length
  | [], [], _ => ⟨rfl, rfl, rfl, rfl⟩
  | [], _ :: _, h => by cases h
  | _ :: _, [], h => by cases h
  | ⟨nm, v, p⟩ :: kws, k :: ks, h => by
    obtain ⟨h1, h2⟩ := List.cons.inj h
    obtain ⟨i1, i2, i3, i4⟩ := kw_names (env := env) (pos := pos) h2
    have h1 : nm = some k := h1
    subst h1
    refine ⟨?_, ?_, ?_, by simp [i4]⟩
    · show (true && (backToKw pos (keywordEach kws env)).all (·.1.isSome)) = true
      rw [i1]; rfl
    · show k :: (backToKw pos (keywordEach kws env)).filterMap (·.1) = k :: ks
      rw [i2]
    · show (false || (backToKw pos (keywordEach kws env)).any (·.1.isNone)) = false
      rw [i3]; rfl
theorem call_fe {M : Model} {A : Around} {env : Env} {fe : Expr} {es : List Expr} {kws : List Keyword} {pos : Pos} {Q : Value → Shared → Prop} {E : Value → Shared → Prop} {s : Shared} (hc : calE fe = true)
    (h : wpAny M A (eval fe env) (fun f s' => wpAny M A (callWith pos f [] (backTo pos (starEach es env)) (backToKw pos (keywordEach kws env))) Q E s') E s) : wpAny M A (eval (.Call fe es kws pos) env) Q E s := by
  cases fe <;> first | (cases hc; done) | skip
  · exact wpAny_bind h
  · exact wpAny_bind h
theorem snd_icall {o as zs : I} (ks : List Str) (ho : Snd D C n o) (ha : Snd D C n as) (hz : Snd D C n zs) : Snd D C n (.icall o as ks zs) := fun X W S G => calmly rfl fun hS hck => snd_ofE (f := fun
      | .Call fe es kws pos => calE fe && (chk D o S).e fe && (chk D as S).a es && decide (kws.map (·.arg) = ks.map some) && (chk D zs S).a (kws.map (·.value)) && decide (es.length + kws.length < 12)
      | _ => false) rfl hck G.fc.hK fun x hx => by
  cases x <;> first | (cases hx; done) | skip
  rename_i fe es kws pos
  obtain ⟨h1, h6⟩ := b2 (show (calE fe && (chk D o S).e fe && (chk D as S).a es && decide (kws.map (·.arg) = ks.map some) && (chk D zs S).a (kws.map (·.value)) && decide (es.length + kws.length < 12)) = true from hx)
  obtain ⟨h1, h5⟩ := b2 h1
  obtain ⟨h1, h4⟩ := b2 h1
  obtain ⟨h1, h3⟩ := b2 h1
  obtain ⟨h1, h2⟩ := b2 h1
  have h4 := bd h4
  obtain ⟨k1, k2, k3, k4⟩ := kw_names (env := X.env) (pos := pos) h4
  have po := ((ho X W S G).e _ h2).1
  obtain ⟨pa, pn⟩ := (ha X W S G).a es h3
  have pk := (hz X W S G).k kws h5
  refine ⟨⟨fun pins s σ H Q I h => ?_⟩, fun _ => rfl⟩
  refine call_fe h1 (thn (po.run pins s σ H _ I h) fun u s1 ⟨y, H1, I1, ry, q⟩ => ?_)
  cases y with
  | ref a =>
    obtain rfl : u = Value.ref a := ry
    obtain ⟨cn, _, q⟩ := q
    have fin : ∀ {s3 : Shared} {H3 : Hp} {us ws : List Value} {vs ts : List V}, Inv X pins σ H3 s3 → Vals vs us → Vals ts ws → (∃ dx fs key, H3 a = some (.ins (He.ga C.K cn) dx fs) ∧ C.mth cn "__call__" = some key ∧
          kwRun C key ks (.ref a :: vs) ts H3 Q (fun cls d H' => W cls d σ H')) →
        (∃ C ox od, PySem.W.InstAt s3.heap a ox C od ∧ ox.data = .plain) ∧ wpAny (model X.prog X.w) X.A (call (.ref a) ([] ++ us) (ks.zip ws)) (EP X pins σ Q) X.xe s3 := fun {s3 H3 us ws vs ts} I3 r rt q => by
      obtain ⟨dx, fs, key, ea, em, q⟩ := q
      obtain ⟨g, c1, c2, c3, F, FK⟩ := G.fc.mth cn _ key em
      rw [← G.fc.hK] at ea
      obtain ⟨mA, O, _, _, _, _⟩ := ins_get I3.hok ea
      obtain ⟨od, J, _⟩ := O.look
      refine ⟨⟨_, _, _, J, rfl⟩, ?_⟩
      refine wpAny_call (PySem.W.kco_code I3.kIn J rfl c2.at_ c2.fn c3 ?_)
      cases ks with
      | nil =>
        refine codeAny_mono (F X.A X.stack s3 H3 (.ref a :: us) [] (.ref a :: vs) [] Q _ (room1 G hS) I3.env0 (.cons rfl r) .nil rfl q) fun r s' hq => ?_
        have := ends_of G.tk I3 hq
        cases r with
        | error e => exact this
        | ok fl => cases fl <;> first | exact this | exact this.elim
      | cons k ks =>
        obtain ⟨hl, ord, zs, e1, e2, q⟩ := q
        refine codeAny_mono (FK _ _ ord e1 X.A X.stack s3 H3 (.ref a :: us) ws (.ref a :: vs) ts Q _ (room1 G hS) I3.env0 (.cons rfl r) rt hl ⟨rfl, zs, e2, q⟩) fun r s' hq => ?_
        have := ends_of G.tk I3 hq
        cases r with
        | error e => exact this
        | ok fl => cases fl <;> first | exact this | exact this.elim
    cases es with
    | nil =>
      obtain rfl := a_nil h3
      refine callO_kw (by rw [k3]; rfl) (PyProof.Rows.evalArgs_kw2_nil k1 ?_)
      refine thn (pk.run pos pins s1 σ H1 _ I1 q) fun ws s3 ⟨ts, H3, I3, rt, q3⟩ => ?_
      rw [k2]
      exact fin I3 .nil rt q3
    | cons e es =>
      have pn' := pn
      rw [List.all_cons, Bool.and_eq_true] at pn'
      refine callO_kw (by rw [k3, star_none pn]; rfl) (PyProof.Rows.evalArgs_kw2 k1 ?_ (star_cons pn'.1))
      refine thn (pa.run pos pins s1 σ H1 _ I1 q) fun us s2 ⟨vs, H2, I2, r, q2⟩ => ?_
      refine thn (pk.run pos pins s2 σ H2 _ I2 q2) fun ws s3 ⟨ts, H3, I3, rt, q3⟩ => ?_
      rw [k2]
      exact fin I3 r rt q3
  | _ => exact q.elim
/-! ### lists of parts -/
theorem snd_nil : Snd D C n .nil := fun X W S G => by
  refine ⟨fun x hx => ?_, fun xs hx => ?_, fun xs hx => ?_, fun x hx => ?_, fun x hx => ?_, fun x hx => ?_, fun x hx => ?_, fun tg x hx => ?_, fun ps ks vs hx => ?_, fun x hx => ?_⟩
  · cases hx
  · cases xs with
    | nil => exact ⟨pa_nil, rfl⟩
    | cons => cases hx
  · cases xs with
    | nil => exact pk_nil
    | cons => cases hx
  · cases hx
  · cases x with
    | nil => exact pss_nil
    | cons => cases hx
  · cases hx
  · cases x with
    | nil => exact pgs_nil
    | cons => cases hx
  · cases hx
  · obtain ⟨h1, h2⟩ := b2 (show (ks.isEmpty && vs.isEmpty) = true from hx)
    cases ks with
    | cons => cases h1
    | nil =>
      cases vs with
      | cons => cases h2
      | nil => exact ⟨pps_nil, rfl, rfl⟩
  · cases x with
    | none => exact po_none
    | some => cases hx
theorem asg_cons {env : Env} {e : Expr} {es : List Expr} (h : nst e = true) : assignEach (e :: es) env = (false, assign e env) :: assignEach es env := by
  cases e <;> first | rfl | (cases h; done)
theorem asg_len {env : Env} : ∀ {es : List Expr}, es.all nst = true → (assignEach es env).length = es.length ∧ (assignEach es env).findIdx? (·.1) = none
  | [], _ => ⟨rfl, rfl⟩
  | e :: es, h => by
    rw [List.all_cons, Bool.and_eq_true] at h
    obtain ⟨i1, i2⟩ := asg_len (env := env) h.2
    rw [asg_cons h.1]
    refine ⟨by simp [i1], ?_⟩
    rw [List.findIdx?_cons]
    simp [i2]
theorem snd_cons {a b : I} (ha : Snd D C n a) (hb : Snd D C n b) : Snd D C n (.cons a b) := fun X W S G => by
  refine ⟨fun x hx => ?_, fun xs hx => ?_, fun xs hx => ?_, fun x hx => ?_, fun x hx => ?_, fun x hx => ?_, fun x hx => ?_, fun tg x hx => ?_, fun ps ks vs hx => ?_, fun x hx => ?_⟩
  · cases hx
  · cases xs with
    | nil => cases hx
    | cons e es =>
      obtain ⟨h1, h3⟩ := b2 (show (nst e && (chk D a S).e e && (chk D b S).a es) = true from hx)
      obtain ⟨h1, h2⟩ := b2 h1
      obtain ⟨p1, p2⟩ := (hb X W S G).a es h3
      exact ⟨pa_cons ((ha X W S G).e e h2).1 p1 (star_cons h1), by rw [List.all_cons, h1, p2]; rfl⟩
  · cases xs with
    | nil => cases hx
    | cons e es =>
      obtain ⟨nm, e, kp⟩ := e
      obtain ⟨h1, h3⟩ := b2 (show (nst e && (chk D a S).e e && (chk D b S).a (es.map (·.value))) = true from hx)
      obtain ⟨h1, h2⟩ := b2 h1
      exact pk_cons ((ha X W S G).e e h2).1 ((hb X W S G).k es h3)
  · cases hx
  · cases x with
    | nil => cases hx
    | cons e es =>
      obtain ⟨h1, h2⟩ := b2 (show ((chk D a S).s e && (chk D b S).ss es) = true from hx)
      show PSs X (e :: es) (tSeq (rd C a W).s (rd C b W).s)
      exact pss_cons ((ha X W S G).s e h1) ((hb X W S G).ss es h2)
  · cases hx
  · cases x with
    | nil => cases hx
    | cons e es =>
      obtain ⟨h1, h3⟩ := b2 (show (nst e && (chk D a S).g e && (chk D b S).gs es) = true from hx)
      obtain ⟨h1, h2⟩ := b2 h1
      refine ⟨fun pins s σ H vs us Q I r h => ?_⟩
      refine (pgs_cons ((ha X W S G).g e h2) ((hb X W S G).gs es h3) (by rw [asg_cons h1]; rfl)).run pins s σ H vs us Q I r ?_
      cases vs with
      | nil => exact h.elim
      | cons v vs => exact ⟨v, vs, rfl, h⟩
  · cases hx
  · cases hx
  · cases hx
theorem snd_pair {k v r : I} (hk : Snd D C n k) (hv : Snd D C n v) (hr : Snd D C n r) : Snd D C n (.pair k v r) := fun X W S G => by
  refine ⟨fun x hx => ?_, fun xs hx => ?_, fun xs hx => ?_, fun x hx => ?_, fun x hx => ?_, fun x hx => ?_, fun x hx => ?_, fun tg x hx => ?_, fun ps ks vs hx => ?_, fun x hx => ?_⟩
  case refine_9 =>
    cases ks with
    | nil => cases hx
    | cons x ks =>
      cases x with
      | none => cases hx
      | some x =>
        cases vs with
        | nil => cases hx
        | cons y vs =>
          obtain ⟨h1, h3⟩ := b2 (show ((chk D k S).e x && (chk D v S).e y && (chk D r S).p ks vs) = true from hx)
          obtain ⟨h1, h2⟩ := b2 h1
          obtain ⟨p1, p2, p3⟩ := (hr X W S G).p ps ks vs h3
          exact ⟨pps_cons ((hk X W S G).e x h1).1 ((hv X W S G).e y h2).1 p1, by rw [List.all_cons, p2]; rfl, by show (_ :: _).length = _; rw [List.length_cons, List.length_cons, p3]⟩
  all_goals cases hx
theorem gs_nst {gs : I} {S : SC} : ∀ {es : List Expr}, (chk D gs S).gs es = true → es.all nst = true := by
  induction gs with
  | nil =>
    intro es h
    cases es with
    | nil => rfl
    | cons => cases h
  | cons a b _ ih =>
    intro es h
    cases es with
    | nil => cases h
    | cons e es =>
      obtain ⟨h1, h3⟩ := b2 (show (nst e && (chk D a S).g e && (chk D b S).gs es) = true from h)
      rw [List.all_cons, (b2 h1).1, ih h3]
      rfl
  | _ => intro es h; first | (cases h; done) | (obtain ⟨sN, ssc, stp, sc, slm⟩ := S; cases sc <;> cases stp <;> cases slm <;> cases h)
theorem gs_len {gs : I} {S : SC} : ∀ {es : List Expr} {xs : List V} {σ : St} {H : Hp} {Q : St → Hp → Prop} {W : WX}, (chk D gs S).gs es = true → (rd C gs W).gs xs σ H Q → True := fun _ _ => trivial
end
end U

namespace U
open PySem PySem.Spec PyProof.Rows L2
section
variable {D : SD} {C : Ctx} {n : Nat}
theorem gs_count {gs : I} {S : SC} : ∀ {es : List Expr}, (chk D gs S).gs es = true → es.length = gs.len := by
  induction gs with
  | nil =>
    intro es h
    cases es with
    | nil => rfl
    | cons => cases h
  | cons a b _ ih =>
    intro es h
    cases es with
    | nil => cases h
    | cons e es =>
      obtain ⟨h1, h3⟩ := b2 (show (nst e && (chk D a S).g e && (chk D b S).gs es) = true from h)
      show es.length + 1 = b.len + 1
      rw [ih h3]
  | _ => intro es h; first | (cases h; done) | (obtain ⟨sN, ssc, stp, sc, slm⟩ := S; cases sc <;> cases stp <;> cases slm <;> cases h)
theorem snd_g1 {i : I} {X : Cx} {W : WX} {S : SC} {t : TG} {f : Expr → Bool} (hr : (rd C i W).g = t) (hc : chk D i S = { g := f }) (h : ∀ x, f x = true → PG X x t) : Snd1 D C n i X W S := by
  refine ⟨fun x hx => ?_, fun xs hx => ?_, fun xs hx => ?_, fun x hx => ?_, fun x hx => ?_, fun x hx => ?_, fun x hx => ?_, fun tg x hx => ?_, fun ps ks vs hx => ?_, fun x hx => ?_⟩
  all_goals rw [hc] at hx
  case refine_6 =>
    rw [hr]
    exact h x hx
  all_goals cases hx
theorem snd_tupG {gs : I} (hg : Snd D C n gs) : Snd D C n (.tupG gs) := fun X W S G => calmly rfl fun hS hck => snd_g1 (f := fun
      | .Tuple es _ _ => (chk D gs S).gs es
      | _ => false) rfl hck fun x hx => by
  cases x <;> first | (cases hx; done) | skip
  rename_i es k pos
  have hn := gs_nst (D := D) (S := S) hx
  obtain ⟨a1, a2⟩ := asg_len (env := X.env) hn
  refine ⟨fun pins s σ H v u Q I r h => ?_⟩
  refine (pg_tup (k := k) (pos := pos) (G.calm hS).1 ((hg X W S G).gs es hx) a1 a2).run pins s σ H v u Q I r ?_
  cases v with
  | ref a =>
    obtain ⟨xs, h1, h2, h3⟩ := h
    rw [← G.fc.hK] at h1
    exact ⟨a, xs, rfl, h1, by rw [h2, gs_count hx], h3⟩
  | _ => exact h.elim
theorem set_ok {X : Cx} (hu : X.A.units + 1 < cLine) : PSet X rSetU := by
  intro pins s σ H o i v ov iv u Q I ro ri rv h
  unfold rSetU at h
  split at h
  · rcases h with ⟨xs, h1, m, h2, q⟩ | ⟨kvs, h1, h2, q⟩
    · exact set_list pins s σ H _ _ v ov iv u Q I ro ri rv ⟨_, xs, _, m, rfl, rfl, h1, h2, q⟩
    · cases ro
      exact d_setItem hu I (.inl ⟨kvs, .inl _, h1, rfl, h2, rfl⟩) ri rv fun s' I' => ⟨_, I', q⟩
  · obtain ⟨kvs, h1, h2, q⟩ := h
    cases ro
    exact d_setItem hu I (.inl ⟨kvs, .inr _, h1, rfl, h2, rfl⟩) ri rv fun s' I' => ⟨_, I', q⟩
  · exact h.elim
theorem snd_subG {o i : I} (ho : Snd D C n o) (hi : Snd D C n i) : Snd D C n (.subG o i) := fun X W S G => snd_g1 (f := fun
      | .Subscript x y _ => noSlice y && (chk D o S).e x && (chk D i S).e y
      | _ => false) rfl rfl fun x hx => by
  cases x <;> first | (cases hx; done) | skip
  rename_i x y pos
  obtain ⟨h1, h3⟩ := b2 (show (noSlice y && (chk D o S).e x && (chk D i S).e y) = true from hx)
  obtain ⟨h1, h2⟩ := b2 h1
  exact pg_sub ((ho X W S G).e x h2).1 ((hi X W S G).e y h3).1 (set_ok (by have := G.un; omega)) (fun v => by cases y <;> first | rfl | (cases h1; done))
theorem snd_attG {o : I} (f : Str) (ho : Snd D C n o) : Snd D C n (.attG o f) := fun X W S G => snd_g1 (f := fun
      | .Attribute x f' _ => decide (f = f') && abase x && (chk D o S).e x
      | _ => false) rfl rfl fun x hx => by
  cases x <;> first | (cases hx; done) | skip
  rename_i x f' pos
  obtain ⟨h1, h3⟩ := b2 (show (decide (f = f') && abase x && (chk D o S).e x) = true from hx)
  obtain ⟨h1, h2⟩ := b2 h1
  obtain rfl := bd h1
  have po := ((ho X W S G).e x h3).1
  refine ⟨fun pins s σ H v u Q I r h => ?_⟩
  rw [arm_assign_Attribute]
  refine wpAny_bind (wpAny_holding (thn (po.run pins s σ H _ I h) fun ov s1 ⟨y, H1, I1, r1, q1⟩ => ?_))
  cases y with
  | ref a =>
    obtain rfl : ov = Value.ref a := r1
    obtain ⟨cn, dx, fs, ea, ef, el, q⟩ := q1
    obtain ⟨c1, c2⟩ := G.fc.fld cn f ef
    rw [← G.fc.hK] at ea q
    refine wpAny_bind (wpAny_standAt (wpAny_bind (wpAny_holding (setattr_ok I1 ea c1 c2 el r fun s2 I2 => ?_))))
    exact wpAny_release ⟨σ, _, I2, q⟩
  | _ => exact q1.elim
/-! ### statements -/
theorem snd_set {g e : I} (hg : Snd D C n g) (he : Snd D C n e) : Snd D C n (.set g e) := fun X W S G => snd_ofS (f := fun
      | .Assign [t] x _ => (noComp x || cellT S.sc t) && (noTup t || noTup x || notSwap S.sc t x) && nst t && (chk D g S).g t && (chk D e S).e x
      | _ => false) rfl rfl fun x hx => by
  cases x <;> first | (cases hx; done) | skip
  rename_i ts x pos
  rcases ts with _ | ⟨t, _ | ⟨t2, ts⟩⟩ <;> first | (cases hx; done) | skip
  obtain ⟨h1, h5⟩ := b2 (show ((noComp x || cellT S.sc t) && (noTup t || noTup x || notSwap S.sc t x) && nst t && (chk D g S).g t && (chk D e S).e x) = true from hx)
  obtain ⟨h1, h4⟩ := b2 h1
  obtain ⟨h1, h3⟩ := b2 h1
  obtain ⟨h1, h2⟩ := b2 h1
  exact ps_asg ((he X W S G).e x h5).1 ((hg X W S G).g t h4) (by
    rcases Bool.or_eq_true_iff.mp h1 with h1 | h1
    · exact noComp_ok h1
    · exact cellT_ok (by rw [G.sc]; exact h1)) (by
    rcases Bool.or_eq_true_iff.mp h2 with h2 | h2
    · exact noTup_ok h2
    · exact notSwap_ok (by rw [G.sc]; exact h2)) (by rw [asg_cons h3]; rfl)
theorem snd_expr {e : I} (he : Snd D C n e) : Snd D C n (.expr e) := fun X W S G => snd_ofS (f := fun
      | .Expr x _ => noComp x && (chk D e S).e x
      | _ => false) rfl rfl fun x hx => by
  cases x <;> first | (cases hx; done) | skip
  rename_i x pos
  obtain ⟨h1, h2⟩ := b2 (show (noComp x && (chk D e S).e x) = true from hx)
  exact ps_expr ((he X W S G).e x h2).1 (noComp_ok h1)
theorem snd_ret {e : I} (he : Snd D C n e) : Snd D C n (.ret e) := fun X W S G => snd_ofS (f := fun
      | .Return (some x) _ => (chk D e S).e x
      | _ => false) rfl rfl fun x hx => by
  cases x <;> first | (cases hx; done) | skip
  rename_i x pos
  cases x with
  | none => cases hx
  | some x => exact ps_ret ((he X W S G).e x hx).1
theorem snd_retN : Snd D C n .retN := fun X W S G => snd_ofS (f := fun
      | .Return none _ => true
      | _ => false) rfl rfl fun x hx => by
  cases x <;> first | (cases hx; done) | skip
  rename_i x pos
  cases x with
  | none => exact ps_retN
  | some x => cases hx
theorem snd_if {c a b : I} (hc : Snd D C n c) (ha : Snd D C n a) (hb : Snd D C n b) : Snd D C n (.if_ c a b) := fun X W S G => snd_ofS (f := fun
      | .If x as bs _ => (chk D c S).e x && (chk D a S).ss as && (chk D b S).ss bs
      | _ => false) rfl rfl fun x hx => by
  cases x <;> first | (cases hx; done) | skip
  rename_i x as bs pos
  obtain ⟨h1, h3⟩ := b2 (show ((chk D c S).e x && (chk D a S).ss as && (chk D b S).ss bs) = true from hx)
  obtain ⟨h1, h2⟩ := b2 h1
  exact ps_if ((hc X W S G).e x h1).2 ((ha X W S G).ss as h2) ((hb X W S G).ss bs h3)
theorem snd_while {c b : I} (hc : Snd D C n c) (hb : Snd D C n b) : Snd D C n (.while_ c b) := fun X W S G => snd_ofS (f := fun
      | .While x bs [] _ => (chk D c S).e x && (chk D b S).ss bs
      | _ => false) rfl rfl fun x hx => by
  cases x <;> first | (cases hx; done) | skip
  rename_i x bs os pos
  cases os with
  | cons => cases hx
  | nil =>
    obtain ⟨h1, h3⟩ := b2 (show ((chk D c S).e x && (chk D b S).ss bs) = true from hx)
    exact ps_while G.own ((hc X W S G).e x h1).2 ((hb X W S G).ss bs h3)
theorem snd_never : Snd D C n .never := fun X W S G => snd_ofS (f := fun _ => true) rfl rfl fun x hx => ps_never
theorem snd_pass : Snd D C n .pass := fun X W S G => snd_ofS (f := fun
      | .Pass _ => true
      | _ => false) rfl rfl fun x hx => by
  cases x <;> first | (cases hx; done) | skip
  exact ps_pass
theorem snd_brk : Snd D C n .brk := fun X W S G => snd_ofS (f := fun
      | .Break _ => true
      | _ => false) rfl rfl fun x hx => by
  cases x <;> first | (cases hx; done) | skip
  exact ps_break
theorem snd_cont : Snd D C n .cont := fun X W S G => snd_ofS (f := fun
      | .Continue _ => true
      | _ => false) rfl rfl fun x hx => by
  cases x <;> first | (cases hx; done) | skip
  exact ps_continue
theorem noStar2 {a b : Expr} (p1 : nst a = true) (p2 : nst b = true) : ([a, b].any fun | .Starred .. => true | _ => false) = false := by
  cases a <;> first | (cases p1; done) | (cases b <;> first | rfl | (cases p2; done))
theorem nd_ne {N : List Str} (nd : N.Nodup) {i j : Nat} {x y : Str} (m1 : N[i]? = some x) (m2 : N[j]? = some y) (h : i ≠ j) : x ≠ y := fun e => by
  subst e
  exact h ((List.getElem?_inj (List.getElem?_eq_some_iff.mp m1).1 nd).mp (m1.trans m2.symm))
theorem snd_par {as : I} (i j : Nat) (ha : Snd D C n as) : Snd D C n (.par i j as) := fun X W S G => calmly rfl fun hS hck => snd_ofS (f := fun
      | .Assign [.Tuple [.Name x px, .Name y py] _ _] (.Tuple [a, b] _ _) _ => decide (S.N[i]? = some x) && decide (S.N[j]? = some y) && decide (i ≠ j) && decide (S.sc.names.lookup x = some .local) && decide (S.sc.names.lookup y = some .local) &&
          (px.line == py.line) && !([a, b].all (foldedForSure 8)) && !([a, b].all (constantsAlone 8)) && (chk D as S).a [a, b]
      | _ => false) rfl hck fun x hx => by
  split at hx
  rotate_left
  · cases hx
  rename_i x px y py kt pt a b k2 pt2 pos
  obtain ⟨h1, h9⟩ := b2 hx
  obtain ⟨h1, h8⟩ := b2 h1
  obtain ⟨h1, h7⟩ := b2 h1
  obtain ⟨h1, h6⟩ := b2 h1
  obtain ⟨h1, h5⟩ := b2 h1
  obtain ⟨h1, h4⟩ := b2 h1
  obtain ⟨h1, h3⟩ := b2 h1
  obtain ⟨h1, h2⟩ := b2 h1
  have h1 := bd h1
  have h2 := bd h2
  have h3 := bd h3
  have h4 := bd h4
  have h5 := bd h5
  obtain ⟨pa, pn⟩ := (ha X W S G).a _ h9
  have lx : X.env.scope.names.lookup x = some .local := by rw [G.sc]; exact h4
  have ly : X.env.scope.names.lookup y = some .local := by rw [G.sc]; exact h5
  have hxy : x ≠ y := nd_ne G.nd h1 h2 h3
  refine ps_par (G.calm hS).1 (by rw [G.hN]; exact G.nd) (by rw [G.hN]; exact h1) (by rw [G.hN]; exact h2) h3 lx ly pa ?_ rfl
  have kx : X.env.kindOf x = some .local := lx
  have ky : X.env.kindOf y = some .local := ly
  have hb : X.env.blockKind = .function := by unfold Env.blockKind; rw [G.kd]; rfl
  rw [List.all_cons, List.all_cons, Bool.and_eq_true, Bool.and_eq_true] at pn
  have hst := noStar2 pn.1 pn.2.1
  have hp : py.line = px.line := (beq_iff_eq.mp h6).symm
  have he : ([x, y] : List Str).eraseDups.length = 2 := by
    have hyx : (y == x) = false := by simpa using Ne.symm hxy
    have hxy' : (x == y) = false := by simpa using hxy
    simp [List.eraseDups, List.eraseDupsBy, List.eraseDupsBy.loop, hyx, hxy']
  unfold swappedStores
  simp only [hb, kx, ky, bn h7, bn h8, Expr.pos, hp, he, List.filterMap_cons, List.filterMap_nil, List.length_cons, List.length_nil, List.head?_cons, Option.map_some, Option.getD_some, beq_self_eq_true, Bool.and_self, if_true, Bool.true_or, Bool.not_true, Bool.false_or, bne_self_eq_false, Bool.or_false, Bool.false_eq_true, if_false]
  exact if_neg (fun z => Bool.false_ne_true (hst.symm.trans z))
theorem snd_raise {as : I} (c : Str) (ha : Snd D C n as) : Snd D C n (.raise c as) := fun X W S G => calmly rfl fun hS hck => snd_ofS (f := fun
      | .Raise (some (.Call (.Name x _) es [] _)) none _ => decide (x = c) && S.gl x && decide (x ∈ D.errs) && !es.isEmpty && (chk D as S).a es
      | _ => false) rfl hck fun x hx => by
  split at hx
  rotate_left
  · cases hx
  rename_i x p es pos p'
  obtain ⟨h1, h5⟩ := b2 hx
  obtain ⟨h1, h4⟩ := b2 h1
  obtain ⟨h1, h3⟩ := b2 h1
  obtain ⟨h1, h2⟩ := b2 h1
  obtain rfl := bd h1
  obtain ⟨fs, fI, e1, e2, T⟩ := G.fc.err x (bd h3)
  obtain ⟨gl, db, _⟩ := gl_ok G.sc h2
  obtain ⟨pa, pn⟩ := (ha X W S G).a es h5
  cases es with
  | nil => cases h4
  | cons e es =>
    have pn' := pn
    rw [List.all_cons, Bool.and_eq_true] at pn'
    refine ps_raise (G.calm hS).1 G.tk (pmk_err (R := fun vs H1 Q => ∃ fs, C.xf x = some fs ∧ vs.length = fs.length ∧ ∀ d, H1 d = none → Q (.ref (He.ga C.K x)) (some d) (upd H1 d (.xd (fs.zip vs).reverse))) (fun vs H1 Q q => ?_) T ((G.calm hS).2.r.mono (by omega)) gl e2 pa db (star_cons pn'.1) (star_none pn'.2))
    obtain ⟨fs', e3, e4, e5⟩ := q
    rw [e1] at e3
    cases e3
    rw [← G.fc.hK] at e5
    exact ⟨e4, e5⟩
end
end U

namespace U
open PySem PySem.Spec PyProof.Rows L2
section
variable {D : SD} {C : Ctx} {n : Nat} {X : Cx}
/-- a reading closed upwards -/
def up (t : TE) : TE := fun σ H Q => ∃ Q' : VK, t σ H Q' ∧ ∀ v H', Q' v H' → Q v H'
theorem pe_up {e : Expr} {t : TE} (h : PE X e t) : PE X e (up t) := ⟨fun pins s σ H Q I ⟨Q', h1, h2⟩ => thn (h.run pins s σ H Q' I h1) fun _ _ ⟨v, H', I', r, q⟩ => ⟨v, H', I', r, h2 v H' q⟩⟩
theorem pi_imp {tg e : Expr} {w1 w2 : TI} (h : PI X tg e w1) (k : ∀ σ H R, w2 σ H R → w1 σ H R) : PI X tg e w2 := ⟨fun pins s σ H R I q => h.run pins s σ H R I (k σ H R q)⟩
theorem fits_list {K : PySem.W.Frag} {a : Addr} {xs : List V} : Fits (Itl K a) (fun H' => SqL K H' a xs) (xs.map .v) := by
  intro j H' hj ok
  rw [List.getElem?_map]
  cases e : xs[j]? with
  | none => exact ⟨xs, ok, List.getElem?_eq_none_iff.mp e⟩
  | some y =>
    refine ⟨⟨xs, y, ok, e⟩, fun z H2 ⟨h1, h2⟩ => ?_⟩
    have := h2 xs ok
    rw [e] at this
    exact ⟨(Option.some.inj this).symm, h1⟩
theorem fits_tup {K : PySem.W.Frag} {a : Addr} {xs : List V} : Fits (Itt K a) (fun H' => SqT K H' a xs) (xs.map .v) := by
  intro j H' hj ok
  rw [List.getElem?_map]
  cases e : xs[j]? with
  | none => exact ⟨xs, ok, List.getElem?_eq_none_iff.mp e⟩
  | some y =>
    refine ⟨⟨xs, y, ok, e⟩, fun z H2 ⟨h1, h2⟩ => ?_⟩
    have := h2 xs ok
    rw [e] at this
    exact ⟨(Option.some.inj this).symm, h1⟩
theorem fits_range {lo : Int} {m : Nat} : Fits (Itr lo m) (fun _ => True) ((List.range m).map fun k => .v (.int (lo + (k : Nat)))) := by
  intro j H' hj ok
  rw [List.getElem?_map]
  by_cases h : j < m
  · rw [List.getElem?_range h]
    exact ⟨h, fun z H2 ⟨h1, h2⟩ => ⟨h2, h1⟩⟩
  · rw [List.getElem?_eq_none (by simpa using h)]
    exact Nat.le_of_not_lt h
theorem fits_str {x : Str} : Fits (Its x) (fun _ => True) (x.cps.toList.map fun c => .v (.str (S [c]))) := by
  intro j H' hj ok
  rw [List.getElem?_map]
  cases e : x.cps.toList[j]? with
  | none =>
    show x.cps.size ≤ j
    have := List.getElem?_eq_none_iff.mp e
    simpa using this
  | some y =>
    have e' : x.cps[j]? = some y := by simpa using e
    refine ⟨?_, fun z H2 ⟨h1, c, h2, h3⟩ => ?_⟩
    · have := (List.getElem?_eq_some_iff.mp e).1
      show j < x.cps.size
      simpa using this
    · rw [e'] at h2
      cases h2
      exact ⟨h3, h1⟩
theorem fits_enum {K : PySem.W.Frag} {a : Addr} {xs : List V} : Fits (Ite K a) (fun H' => SqL K H' a xs) (xs.zipIdx.map fun p => .t [.int (p.2 : Nat), p.1]) := by
  intro j H' hj ok
  rw [List.getElem?_map, List.getElem?_zipIdx]
  cases e : xs[j]? with
  | none => exact ⟨xs, ok, List.getElem?_eq_none_iff.mp e⟩
  | some y =>
    refine ⟨⟨xs, y, ok, e⟩, fun z H2 ⟨T, x, h1, h2, h3, h4⟩ => ?_⟩
    have := h4 xs ok
    rw [e] at this
    obtain rfl := Option.some.inj this
    exact ⟨T, h1, h2, by simpa using h3⟩
theorem fits_zip {K : PySem.W.Frag} {a b : Addr} {xs ys : List V} : Fits (Itz K a b) (fun H' => SqL K H' a xs ∧ SqL K H' b ys) ((xs.zip ys).map fun z => .t [z.1, z.2]) := by
  intro j H' hj ok
  rw [List.getElem?_map]
  cases e : (xs.zip ys)[j]? with
  | none =>
    have := List.getElem?_eq_none_iff.mp e
    rw [List.length_zip] at this
    exact ⟨xs, ys, ok.1, ok.2, by omega⟩
  | some p =>
    obtain ⟨e1, e2⟩ := List.getElem?_zip_eq_some.mp e
    refine ⟨⟨xs, ys, p.1, p.2, ok.1, ok.2, e1, e2⟩, fun z H2 ⟨T, x, y, h1, h2, h3, h4, h5⟩ => ?_⟩
    have q1 := h4 xs ok.1
    have q2 := h5 ys ok.2
    rw [e1] at q1
    rw [e2] at q2
    obtain rfl := Option.some.inj q1
    obtain rfl := Option.some.inj q2
    exact ⟨T, h1, h2, h3⟩
theorem snd_itL {e : I} (he : Snd D C n e) : Snd D C n (.itL e) := fun X W S G => snd_ofI (f := fun _ x => (chk D e S).e x) rfl rfl fun tg x hx =>
  pi_imp (pi_list (pe_up ((he X W S G).e x hx).1)) fun σ H R ⟨R', h, kk⟩ => ⟨_, h, fun v H' q => by
    cases v with
    | ref a =>
      obtain ⟨xs, h1, q⟩ := q
      rw [G.fc.hK]
      exact ⟨a, rfl, ⟨xs, h1⟩, kk _ _ _ q _ fits_list⟩
    | _ => exact q.elim⟩
theorem snd_itT {e : I} (he : Snd D C n e) : Snd D C n (.itT e) := fun X W S G => snd_ofI (f := fun _ x => (chk D e S).e x) rfl rfl fun tg x hx =>
  pi_imp (pi_tup (pe_up ((he X W S G).e x hx).1)) fun σ H R ⟨R', h, kk⟩ => ⟨_, h, fun v H' q => by
    cases v with
    | ref a =>
      obtain ⟨xs, h1, q⟩ := q
      rw [G.fc.hK]
      exact ⟨a, rfl, ⟨xs, h1⟩, kk _ _ _ q _ fits_tup⟩
    | _ => exact q.elim⟩
theorem snd_itS {e : I} (he : Snd D C n e) : Snd D C n (.itS e) := fun X W S G => snd_ofI (f := fun _ x => (chk D e S).e x) rfl rfl fun tg x hx =>
  pi_imp (pi_str (pe_up ((he X W S G).e x hx).1)) fun σ H R ⟨R', h, kk⟩ => ⟨_, h, fun v H' q => by
    cases v with
    | str z => exact ⟨z, rfl, kk _ _ _ q _ fits_str⟩
    | _ => exact q.elim⟩
theorem snd_itR1 {a : I} (ha : Snd D C n a) : Snd D C n (.itR1 a) := fun X W S G => snd_ofI (f := fun _ x => match x with
      | .Call (.Name f _) [y] [] _ => decide (f = ("range" : Str)) && S.gl f && decide (f ∈ D.frees) && nst y && (chk D a S).e y
      | _ => false) rfl rfl fun tg x hx => by
  split at hx
  rotate_left
  · cases hx
  rename_i f p y pos
  obtain ⟨h1, h5⟩ := b2 hx
  obtain ⟨h1, h4⟩ := b2 h1
  obtain ⟨h1, h3⟩ := b2 h1
  obtain ⟨h1, h2⟩ := b2 h1
  obtain rfl := bd h1
  obtain ⟨g1, g2, g3⟩ := gl_ok G.sc h2
  refine pi_imp (pi_range1 g1 (G.fc.fr _ (bd h3)) (pa_cons (pe_up ((ha X W S G).e y h5).1) pa_nil (star_cons h4)) (star_cons h4)) fun σ H R ⟨R', h, kk⟩ => ⟨_, h, fun v H' q => ?_⟩
  cases v with
  | int j =>
    obtain ⟨q1, q2, q⟩ := q
    refine ⟨j, rfl, q1, q2, kk _ _ _ q _ ?_⟩
    have := fits_range (lo := 0) (m := j.toNat)
    simpa using this
  | _ => exact q.elim
theorem snd_itR2 {a b : I} (ha : Snd D C n a) (hb : Snd D C n b) : Snd D C n (.itR2 a b) := fun X W S G => snd_ofI (f := fun _ x => match x with
      | .Call (.Name f _) [y, z] [] _ => decide (f = ("range" : Str)) && S.gl f && decide (f ∈ D.frees) && nst y && nst z && (chk D a S).e y && (chk D b S).e z
      | _ => false) rfl rfl fun tg x hx => by
  split at hx
  rotate_left
  · cases hx
  rename_i f p y z pos
  obtain ⟨h1, h7⟩ := b2 hx
  obtain ⟨h1, h6⟩ := b2 h1
  obtain ⟨h1, h5⟩ := b2 h1
  obtain ⟨h1, h4⟩ := b2 h1
  obtain ⟨h1, h3⟩ := b2 h1
  obtain ⟨h1, h2⟩ := b2 h1
  obtain rfl := bd h1
  obtain ⟨g1, g2, g3⟩ := gl_ok G.sc h2
  refine pi_imp (pi_range2 g1 (G.fc.fr _ (bd h3)) (pa_cons (pe_up ((ha X W S G).e y h6).1) (pa_cons (pe_up ((hb X W S G).e z h7).1) pa_nil (star_cons h5)) (star_cons h4)) (by rw [star_cons h4, star_cons h5]; rfl) (star_cons h5)) fun σ H R ⟨R', h, kk⟩ => ⟨_, h, fun v H' q => ⟨_, q, fun u H2 q2 => ?_⟩⟩
  cases v with
  | int i =>
    cases u with
    | int j =>
      obtain ⟨q1, q⟩ := q2
      exact ⟨i, j, rfl, q1, kk _ _ _ q _ fits_range⟩
    | _ => exact q2.elim
  | _ => exact q2.elim
theorem snd_itE {e : I} (he : Snd D C n e) : Snd D C n (.itE e) := fun X W S G => snd_ofI (f := fun t x => match t, x with
      | .Tuple _ _ _, .Call (.Name f _) [y] [] _ => decide (f = ("enumerate" : Str)) && S.gl f && decide (f ∈ D.frees) && nst y && (chk D e S).e y
      | _, _ => false) rfl rfl fun tg x hx => by
  split at hx
  rotate_left
  · cases hx
  rename_i es kk tp f p y pos
  obtain ⟨h1, h5⟩ := b2 hx
  obtain ⟨h1, h4⟩ := b2 h1
  obtain ⟨h1, h3⟩ := b2 h1
  obtain ⟨h1, h2⟩ := b2 h1
  obtain rfl := bd h1
  obtain ⟨g1, g2, g3⟩ := gl_ok G.sc h2
  refine pi_imp (pi_enum g1 (G.fc.fr _ (bd h3)) (pa_cons (pe_up ((he X W S G).e y h5).1) pa_nil (star_cons h4)) (star_cons h4)) fun σ H R ⟨R', h, kk⟩ => ⟨_, h, fun v H' q => ?_⟩
  cases v with
  | ref a =>
    obtain ⟨xs, h1, q⟩ := q
    rw [G.fc.hK]
    exact ⟨a, xs, rfl, h1, kk _ _ _ q _ fits_enum⟩
  | _ => exact q.elim
theorem snd_itZ {a b : I} (ha : Snd D C n a) (hb : Snd D C n b) : Snd D C n (.itZ a b) := fun X W S G => snd_ofI (f := fun t x => match t, x with
      | .Tuple _ _ _, .Call (.Name f _) [y, z] [] _ => decide (f = ("zip" : Str)) && S.gl f && decide (f ∈ D.frees) && nst y && nst z && (chk D a S).e y && (chk D b S).e z
      | _, _ => false) rfl rfl fun tg x hx => by
  split at hx
  rotate_left
  · cases hx
  rename_i es kk tp f p y z pos
  obtain ⟨h1, h7⟩ := b2 hx
  obtain ⟨h1, h6⟩ := b2 h1
  obtain ⟨h1, h5⟩ := b2 h1
  obtain ⟨h1, h4⟩ := b2 h1
  obtain ⟨h1, h3⟩ := b2 h1
  obtain ⟨h1, h2⟩ := b2 h1
  obtain rfl := bd h1
  obtain ⟨g1, g2, g3⟩ := gl_ok G.sc h2
  refine pi_imp (pi_zip g1 (G.fc.fr _ (bd h3)) (pa_cons (pe_up ((ha X W S G).e y h6).1) (pa_cons (pe_up ((hb X W S G).e z h7).1) pa_nil (star_cons h5)) (star_cons h4)) (star_cons h4) (star_none (by rw [List.all_cons, h5]; rfl))) fun σ H R ⟨R', h, kk⟩ => ⟨_, h, fun v H' q => ⟨_, q, fun u H2 q2 => ?_⟩⟩
  cases v with
  | ref i =>
    cases u with
    | ref j =>
      obtain ⟨xs, ys, h1, h2, q⟩ := q2
      rw [G.fc.hK]
      exact ⟨i, j, xs, ys, rfl, h1, h2, kk _ _ _ q _ fits_zip⟩
    | _ => exact q2.elim
  | _ => exact q2.elim
/-! ### enumerate(text) -/
def Itn (x : Str) : It := ⟨fun i _ => i < x.cps.size, fun i H v H' => ∃ T c, v = .ref T ∧ H T = none ∧ H' = upd H T (.tup [.int (i : Nat), .str ⟨#[c]⟩]) ∧ x.cps[i]? = some c, fun i _ => x.cps.size = i⟩
theorem turn_enumS {P : Program} {w : World} {K : PySem.W.Frag} {elts : List Expr} {kk : Nat} {tpos : Pos} (x : Str) (t : Tok) (e it : Addr) :
    Turn P w K (.Tuple elts kk tpos) (Itn x) [e, it] e (fun i h => (∃ old, IsEnum h e it ((i : Nat) : Int) old) ∧ h.IsStrIter it (strIterType x) x t i ∧ e ≠ it) where
  mem := by simp
  obj := fun i h st b hb => by
    obtain ⟨⟨old, he⟩, ⟨o, ho, hc, hd⟩, _⟩ := st
    have e' : b = e ∨ b = it := by simpa using hb
    rcases e' with z | z
    · rw [z]; exact ⟨_, he, fun v q => nomatch q⟩
    · rw [z]; exact ⟨o, ho, fun v q => by rw [hd] at q; cases q⟩
  keep := fun i h h' st k => let ⟨⟨old, he⟩, ⟨o, ho, r⟩, hne⟩ := st; ⟨⟨old, k e (by simp) _ he⟩, ⟨o, k it (by simp) o ho, r⟩, hne⟩
  item := by
    intro X hP hw hK hc i pins s σ H E I hf st hg
    subst hP hw hK
    obtain ⟨⟨old, he⟩, hit, hne⟩ := st
    have hel : e < s.heap.objs.size := Heap.lt_size he
    have hil : it < s.heap.objs.size := by obtain ⟨_, q, _⟩ := hit; exact Heap.lt_size q
    have Dr : Draws X.prog X.w X.A.in1 it [it] x.cps.size (fun i v => ∃ c u, x.cps[i]? = some c ∧ v = .str ⟨#[c]⟩ u) (fun i h => h.IsStrIter it (strIterType x) x t i) := by
      unfold strIterType
      cases x.cps.all (· < 128)
      · exact Draws.strWide (A := X.A.in1) (show X.A.in1.handled = none from I.ok.hd hc) it x t
      · exact Draws.strAscii (A := X.A.in1) (show X.A.in1.handled = none from I.ok.hd hc) it x t
    refine wpAny_pyNext_enum_itemD Dr he hit hg hne (by simpa using hne) fun u h' tk hP ho hit' hT hsz hk => ?_
    obtain ⟨c, tu, hcx, rfl⟩ := hP
    refine ⟨_, rfl, wpAny_letOwnedTupleGo_enum (s := { s with heap := h', toks := tk + 1 }) ho fun h'' he' sb => ?_⟩
    have hT2 : h''.get? s.heap.objs.size = some { cls := .type "tuple", data := .seq #[.int i tk, .str ⟨#[c]⟩ tu] } := (sb.2 _ (Nat.ne_of_gt hel)).trans hT
    have new : ObjOk X.prog X.w (upd H s.heap.objs.size (.tup [.int (i : Nat), .str ⟨#[c]⟩])) h'' s.heap.objs.size (.tup [.int (i : Nat), .str ⟨#[c]⟩]) :=
      ⟨by show 2 ≤ sizeLine; decide, [.int i tk, .str ⟨#[c]⟩ tu], .cons ⟨_, rfl⟩ (.cons ⟨_, rfl⟩ .nil), ⟨_, hT2, rfl, _, rfl⟩⟩
    have I1 : Inv X pins σ (upd H s.heap.objs.size (.tup [.int (i : Nat), .str ⟨#[c]⟩])) { s with heap := h'', toks := tk + 1 } :=
      I.turnedNew (ch := [e, it]) (fun b ob hb q => (sb.2 b (fun z => hb (by simp [z]))).trans (hk b ob (fun z => hb (by simp [z])) (fun z => hb (by simp [z])) q)) hf (Nat.le_refl _) new
    refine ⟨.ref s.heap.objs.size, _, I1, rfl, ⟨_, c, rfl, I.hok.fresh (Nat.le_refl _), rfl, hcx⟩, ⟨⟨.str ⟨#[c]⟩ tu, ?_⟩, ?_, hne⟩, fun b hb => ?_⟩
    · have e1 : ((i + 1 : Nat) : Int) = (i : Int) + 1 := by omega
      rw [e1]; exact he'
    · obtain ⟨o, ho', r⟩ := hit'
      exact ⟨o, (sb.2 it (Ne.symm hne)).trans ho', r⟩
    · have hb' : b < s.heap.objs.size := by
        have e' : b = e ∨ b = it := by simpa using hb
        rcases e' with z | z
        · rw [z]; exact hel
        · rw [z]; exact hil
      rw [upd_ne (Nat.ne_of_lt hb')]
      exact (hf b hb).1
  done := by
    intro X hP hw hK hc i pins s σ H E I hf st hg
    subst hP hw hK
    obtain ⟨⟨old, he⟩, hit, hne⟩ := st
    obtain ⟨f0, f1, f2, f3, f4, f5⟩ := hf it (by simp)
    have Dr : Draws X.prog X.w X.A.in1 it [it] x.cps.size (fun i v => ∃ c u, x.cps[i]? = some c ∧ v = .str ⟨#[c]⟩ u) (fun i h => h.IsStrIter it (strIterType x) x t i) := by
      unfold strIterType
      cases x.cps.all (· < 128)
      · exact Draws.strWide (A := X.A.in1) (show X.A.in1.handled = none from I.ok.hd hc) it x t
      · exact Draws.strAscii (A := X.A.in1) (show X.A.in1.handled = none from I.ok.hd hc) it x t
    have hg : x.cps.size = i := hg
    exact wpAny_pyNext_enum_endD Dr he (by rw [hg]; exact hit) fun h' eb => ⟨rfl, I.turned (t' := s.toks) (fun b o hb q => eb b o hb q) f0 f1 f3 f4 f5⟩
  self := fun A i s Q E st h => let ⟨⟨_, he⟩, _⟩ := st; wpAny_pyIter_enum he h
theorem fits_enumS {x : Str} : Fits (Itn x) (fun _ => True) (x.cps.toList.zipIdx.map fun p => .t [.int (p.2 : Nat), .str (S [p.1])]) := by
  intro j H' hj ok
  simp only [List.length_map, List.length_zipIdx, Array.length_toList] at hj
  rw [List.getElem?_map, List.getElem?_zipIdx]
  cases e : x.cps.toList[j]? with
  | none =>
    show x.cps.size = j
    have := List.getElem?_eq_none_iff.mp e
    simp only [Array.length_toList] at this
    omega
  | some y =>
    have e' : x.cps[j]? = some y := by simpa using e
    refine ⟨?_, fun z H2 ⟨T, c, h1, h2, h3, h4⟩ => ?_⟩
    · have := (List.getElem?_eq_some_iff.mp e).1
      show j < x.cps.size
      simpa using this
    · rw [e'] at h4
      cases h4
      exact ⟨T, h1, h2, by simpa using h3⟩
theorem snd_itES {e : I} (he : Snd D C n e) : Snd D C n (.itES e) := fun X W S G => snd_ofI (f := fun t x => match t, x with
      | .Tuple _ _ _, .Call (.Name f _) [y] [] _ => decide (f = ("enumerate" : Str)) && S.gl f && decide (f ∈ D.frees) && nst y && (chk D e S).e y
      | _, _ => false) rfl rfl fun tg x hx => by
  split at hx
  rotate_left
  · cases hx
  rename_i es kk tp f p y pos
  obtain ⟨h1, h5⟩ := b2 hx
  obtain ⟨h1, h4⟩ := b2 h1
  obtain ⟨h1, h3⟩ := b2 h1
  obtain ⟨h1, h2⟩ := b2 h1
  obtain rfl := bd h1
  obtain ⟨g1, g2, g3⟩ := gl_ok G.sc h2
  have po := ((he X W S G).e y h5).1
  refine ⟨fun pins s σ H R I ⟨R', h, k⟩ => ?_⟩
  refine Call_ (ld_blt I g1 (G.fc.fr _ (bd h3)) boot_enumerate (PyProof.Rows.callWith_type1 ?_ (star_cons h4) rfl))
  rw [star_cons h4]
  show wpAny _ _ (spliced ((false, eval y X.env) :: backTo pos (starEach [] X.env))) _ _ s
  refine Calls.spliced_cons (thn (po.run pins s σ H _ I h) fun u s1 ⟨v, H1, I1, r1, q1⟩ => Calls.spliced_nil ?_)
  cases v with
  | str z =>
    obtain ⟨t, rfl⟩ := r1
    refine call_enumerate_str fun h' he hit hsz hk => wpAny_pyIter_enum he ?_
    have I2 : Inv X pins σ H1 { s1 with heap := h' } := I1.kept (t' := s1.toks) hk
    refine ⟨s1.heap.objs.size + 1, [s1.heap.objs.size + 1, s1.heap.objs.size], _, _, H1, rfl, I2, turn_enumS z t (s1.heap.objs.size + 1) s1.heap.objs.size, ⟨⟨.none, he⟩, hit, Nat.succ_ne_self _⟩, fun b hb => ?_, k _ _ _ q1 _ fits_enumS⟩
    have e' : b = s1.heap.objs.size + 1 ∨ b = s1.heap.objs.size := by simpa using hb
    have hle : s1.heap.objs.size ≤ b := by
      rcases e' with z | z
      · rw [z]; exact Nat.le_add_right _ _
      · rw [z]; exact Nat.le_refl _
    exact I1.fpOk hle (I1.hok.fresh hle)
  | _ => exact q1.elim
/-! ### for -/
theorem gs_g {tg : I} {W : WX} {S : SC} {x : Expr} {xs : List V} {σ : St} {H : Hp} {T : Addr} {Q : St → Hp → Prop} (hc : (chk D tg S).g x = true) (h : (rd C tg W).gs xs σ (upd H T (.tup xs)) Q) : (rd C tg W).g (.ref T) σ (upd H T (.tup xs)) Q := by
  cases tg <;> first | (cases hc; done) | exact h.elim | skip
  obtain ⟨h1, h2⟩ := h
  exact ⟨xs, SqT.of upd_same, h1, h2⟩
theorem snd_for {tg it b : I} (hg : Snd D C n tg) (hi : Snd D C n it) (hb : Snd D C n b) : Snd D C n (.for_ tg it b) := fun X W S G => calmly rfl fun hS hck => snd_ofS (f := fun
      | .For t x bs [] _ => noSet x && (chk D tg S).g t && (chk D it S).i t x && (chk D b S).ss bs
      | _ => false) rfl hck fun x hx => by
  split at hx
  rotate_left
  · cases hx
  rename_i t x bs pos
  obtain ⟨h1, h4⟩ := b2 hx
  obtain ⟨h1, h3⟩ := b2 h1
  obtain ⟨h1, h2⟩ := b2 h1
  refine ⟨fun pins s σ H D' I h => ?_⟩
  refine (ps_for (pos := pos) G.own (G.calm hS).1 ((hi X W S G).it t x h3) ((hg X W S G).g t h2) ((hb X W S G).ss bs h4) (fun _ => noSet_ok h1)).run pins s σ H D' I ?_
  refine ⟨_, h, fun ok items H1 q J fit => ?_⟩
  refine ⟨fun i m σ' H' => i + m = items.length ∧ forGo ok (rd C tg W).g (rd C tg W).gs (rd C b W).s D' (items.drop i) σ' H', ⟨items.length, by simp, by simpa using q⟩, ?_⟩
  rintro i m σ' H' ⟨e, q⟩
  cases er : items[i]? with
  | none =>
    have hle := List.getElem?_eq_none_iff.mp er
    rw [List.drop_eq_nil_of_le hle] at q
    obtain ⟨q1, q2⟩ := q
    have f := fit i H' (by omega) q1
    rw [er] at f
    exact .inl ⟨f, q2⟩
  | some y =>
    obtain ⟨hlt, ey⟩ := List.getElem?_eq_some_iff.mp er
    rw [List.drop_eq_getElem_cons hlt, ey] at q
    cases y with
    | v y =>
      obtain ⟨q1, q2⟩ := q
      have f := fit i H' (by omega) q1
      rw [er] at f
      refine .inr ⟨f.1, forGo ok (rd C tg W).g (rd C tg W).gs (rd C b W).s D' (items.drop (i + 1)), fun σ2 H2 z => ⟨m - 1, by omega, by omega, z⟩, fun z H2 yl => ?_⟩
      obtain ⟨rfl, rfl⟩ := f.2 z H2 yl
      exact q2
    | t ys =>
      obtain ⟨q1, q2⟩ := q
      have f := fit i H' (by omega) q1
      rw [er] at f
      refine .inr ⟨f.1, forGo ok (rd C tg W).g (rd C tg W).gs (rd C b W).s D' (items.drop (i + 1)), fun σ2 H2 z => ⟨m - 1, by omega, by omega, z⟩, fun z H2 yl => ?_⟩
      obtain ⟨T, rfl, hT, rfl⟩ := f.2 z H2 yl
      exact gs_g h2 (q2 T hT)
/-! ### comprehensions -/
theorem pe_lcG {own : List (Str × Nat)} {elt tg it cond : I} {hasIf : Bool} (he : Snd D C n elt) (hg : Snd D C n tg) (hi : Snd D C n it) (hc : Snd D C n cond) {X : Cx} {W : WX} {S : SC} (G : Gd D C n X W S) (hS : S.calm = true) {x t it' : Expr} {ifs : List Expr} {sc : Scope} {pos : Pos}
    (h1 : blkC S.N S.sc sc own = true) (h2 : noSet it' = true) (h3 : (chk D it S).i t it' = true) (h4 : (chk D tg ⟨S.N, relS sc S.sc, false, true, false⟩).g t = true)
    (h5 : ifOk hasIf (chk D cond ⟨S.N, relS sc S.sc, false, true, false⟩).e ifs = true) (h6 : (chk D elt ⟨S.N, relS sc S.sc, false, true, false⟩).e x = true) :
    ∃ (wi : TI) (g : TG) (tt : TT) (te : TE), PI X t it' wi ∧ BlkOk X.N X.env.scope sc own ∧ (∀ (s : Shared) (H : Hp) (c : Addr) (cl : List (Str × Addr)) (fp : List Addr), PG (X.blk s H sc (compEnvC sc cl c X.env) fp) t g) ∧
      (∀ (s : Shared) (H : Hp) (c : Addr) (cl : List (Str × Addr)) (fp : List Addr), PTs (X.blk s H sc (compEnvC sc cl c X.env) fp) ifs tt) ∧ (∀ (s : Shared) (H : Hp) (c : Addr) (cl : List (Str × Addr)) (fp : List Addr), PE (X.blk s H sc (compEnvC sc cl c X.env) fp) x te) ∧
      ∀ σ H Q, (rd C (.lc own elt tg it hasIf cond) W).e σ H Q → tLc wi g tt te (own.map (·.2)) σ H Q := by
  have ok : BlkOk X.N X.env.scope sc own := by
    rw [G.hN, G.sc]
    exact blkOk_by h1
  have GB := fun (s : Shared) (H : Hp) (c : Addr) (cl : List (Str × Addr)) (fp : List Addr) => Gd.blk (s := s) (H := H) (cl := cl) (c := c) (fp := fp) G hS ok
  refine ⟨wiOf (rd C it W).i, (rd C tg noW).g, lcIf hasIf (rd C cond noW).t, (rd C elt noW).e, (hi X W S G).it t it' h3, ok, fun s H c cl fp => (hg _ _ _ (GB s H c cl fp)).g t h4, fun s H c cl fp => ?_, fun s H c cl fp => ((he _ _ _ (GB s H c cl fp)).e x h6).1, fun σ H Q h => ?_⟩
  · cases hasIf with
    | false =>
      cases ifs with
      | nil => exact pts_nil
      | cons => cases h5
    | true =>
      rcases ifs with _ | ⟨c0, _ | ⟨c1, ifs⟩⟩ <;> first | (cases h5; done) | skip
      exact pts_one ((hc _ _ _ (GB s H c cl fp)).e c0 h5).2
  · refine ⟨_, h, fun okk items H1 q J fit Dl hDl => ?_⟩
    refine ⟨fun i m H' => i + m = items.length ∧ lcGo okk (rd C tg noW).g (rd C tg noW).gs (lcIf hasIf (rd C cond noW).t) (rd C elt noW).e Dl (own.map (·.2)) σ Q (items.drop i) H', ⟨items.length, by simp, by simpa using q Dl hDl⟩, ?_⟩
    rintro i m H' ⟨e, q⟩
    cases er : items[i]? with
    | none =>
      have hle := List.getElem?_eq_none_iff.mp er
      rw [List.drop_eq_nil_of_le hle] at q
      obtain ⟨q1, q2⟩ := q
      have f := fit i H' (by omega) q1
      rw [er] at f
      exact .inl ⟨f, q2⟩
    | some y =>
      obtain ⟨hlt, ey⟩ := List.getElem?_eq_some_iff.mp er
      rw [List.drop_eq_getElem_cons hlt, ey] at q
      cases y with
      | v y =>
        obtain ⟨q1, q2⟩ := q
        have f := fit i H' (by omega) q1
        rw [er] at f
        refine .inr ⟨f.1, _, fun H2 z => ⟨m - 1, by omega, by omega, z⟩, fun z H2 yl => ?_⟩
        obtain ⟨rfl, rfl⟩ := f.2 z H2 yl
        exact q2
      | t ys =>
        obtain ⟨q1, q2⟩ := q
        have f := fit i H' (by omega) q1
        rw [er] at f
        refine .inr ⟨f.1, _, fun H2 z => ⟨m - 1, by omega, by omega, z⟩, fun z H2 yl => ?_⟩
        obtain ⟨T, rfl, hT, rfl⟩ := f.2 z H2 yl
        exact gs_g h4 (q2 T hT)
theorem snd_lc {elt tg it cond : I} (own : List (Str × Nat)) (hasIf : Bool) (he : Snd D C n elt) (hg : Snd D C n tg) (hi : Snd D C n it) (hc : Snd D C n cond) : Snd D C n (.lc own elt tg it hasIf cond) := fun X W S G => calmly rfl fun hS hck => snd_ofE (f := fun
      | .ListComp x [⟨t, it', ifs, 0⟩] sc _ => blkC S.N S.sc sc own && noSet it' && (chk D it S).i t it' && (chk D tg ⟨S.N, relS sc S.sc, false, true, false⟩).g t && ifOk hasIf (chk D cond ⟨S.N, relS sc S.sc, false, true, false⟩).e ifs && (chk D elt ⟨S.N, relS sc S.sc, false, true, false⟩).e x
      | _ => false) rfl hck G.fc.hK fun x hx => by
  split at hx
  rotate_left
  · cases hx
  rename_i x t it' ifs sc pos
  obtain ⟨h1, h6⟩ := b2 hx
  obtain ⟨h1, h5⟩ := b2 h1
  obtain ⟨h1, h4⟩ := b2 h1
  obtain ⟨h1, h3⟩ := b2 h1
  obtain ⟨h1, h2⟩ := b2 h1
  obtain ⟨wi, g, tt, te, p1, p2, p3, p4, p5, p6⟩ := pe_lcG (own := own) (hasIf := hasIf) he hg hi hc G hS h1 h2 h3 h4 h5 h6 (pos := pos)
  refine ⟨⟨fun pins s σ H Q I h => ?_⟩, fun _ => rfl⟩
  exact (pe_lc (G.calm hS).1 (by rw [G.hN]; exact G.nd) p1 p2 p3 p4 p5 (fun _ => noSet_ok h2)).run pins s σ H Q I (p6 σ H Q h)
theorem lc_inv {elt tg it cond : I} {own : List (Str × Nat)} {hasIf : Bool} {S : SC} (hS : S.calm = true) : ∀ {x : Expr}, (chk D (.lc own elt tg it hasIf cond) S).e x = true → ∃ y t it' ifs sc pos, x = .ListComp y [⟨t, it', ifs, 0⟩] sc pos ∧
    (blkC S.N S.sc sc own && noSet it' && (chk D it S).i t it' && (chk D tg ⟨S.N, relS sc S.sc, false, true, false⟩).g t && ifOk hasIf (chk D cond ⟨S.N, relS sc S.sc, false, true, false⟩).e ifs && (chk D elt ⟨S.N, relS sc S.sc, false, true, false⟩).e y) = true := by
  intro x hx
  simp only [chk, hS, Ck.when, Ck.ofE] at hx
  split at hx
  · exact ⟨_, _, _, _, _, _, rfl, hx⟩
  · cases hx
/-- name = [..], on one line -/
theorem snd_setLc {elt tg it cond : I} (i : Nat) (own : List (Str × Nat)) (hasIf : Bool) (he : Snd D C n elt) (hg : Snd D C n tg) (hi : Snd D C n it) (hc : Snd D C n cond) : Snd D C n (.setLc i (.lc own elt tg it hasIf cond)) := fun X W S G => calmly rfl fun hS hck => snd_ofS (f := fun
      | .Assign [.Name y py] x _ => (match x with
        | .ListComp _ [_] sc pos => decide (S.N[i]? = some y) && decide (S.sc.names.lookup y = some .local) && (py.line == pos.line) && !(sc.names.any fun (n, k) => n == y && (k == .local || k == .cell))
        | _ => false) && (chk D (.lc own elt tg it hasIf cond) S).e x
      | _ => false) rfl hck fun x hx => by
  split at hx
  rotate_left
  · cases hx
  rename_i y py x pos
  obtain ⟨k1, hx⟩ := b2 hx
  obtain ⟨x, t, it', ifs, sc, lpos, rfl, hx2⟩ := lc_inv hS hx
  obtain ⟨k1, k4⟩ := b2 k1
  obtain ⟨k1, k3⟩ := b2 k1
  obtain ⟨k1, k2⟩ := b2 k1
  obtain ⟨h1, h6⟩ := b2 hx2
  obtain ⟨h1, h5⟩ := b2 h1
  obtain ⟨h1, h4⟩ := b2 h1
  obtain ⟨h1, h3⟩ := b2 h1
  obtain ⟨h1, h2⟩ := b2 h1
  obtain ⟨wi, g, tt, te, p1, p2, p3, p4, p5, p6⟩ := pe_lcG (own := own) (hasIf := hasIf) he hg hi hc G hS h1 h2 h3 h4 h5 h6 (pos := lpos)
  have ly : X.env.scope.names.lookup y = some .local := by rw [G.sc]; exact bd k2
  refine ⟨fun pins s σ H D' I h => ?_⟩
  refine (ps_setLc (i := i) (G.calm hS).1 (by rw [G.hN]; exact G.nd) (by rw [G.hN]; exact bd k1) ly (sw_true G.kd ly k3 (bn k4)) p1 p2 p3 p4 p5 (fun _ => noSet_ok h2)).run pins s σ H D' I ?_
  exact p6 σ H _ h
end
end U

namespace U
open PySem PySem.Spec PyProof.Rows L2
section
variable {D : SD} {C : Ctx} {n : Nat}
theorem snd_eatt {o : I} (f : Str) (ho : Snd D C n o) : Snd D C n (.eatt o f) := fun X W S G => snd_ofE (f := fun
      | .Attribute x f' _ => decide (f = f') && abase x && (chk D o S).e x
      | _ => false) rfl rfl G.fc.hK fun x hx => by
  cases x <;> first | (cases hx; done) | skip
  rename_i x f' pos
  obtain ⟨h1, h3⟩ := b2 (show (decide (f = f') && abase x && (chk D o S).e x) = true from hx)
  obtain ⟨h1, h2⟩ := b2 h1
  obtain rfl := bd h1
  have po := ((ho X W S G).e x h3).1
  refine ⟨⟨fun pins s σ H Q I h => ?_⟩, fun _ => rfl⟩
  refine attr_of (abase_ok h2) (thn (po.run pins s σ H _ I h) fun u s1 ⟨y, H1, I1, ry, q⟩ => ?_)
  cases y with
  | ref a =>
    obtain rfl : u = Value.ref a := ry
    obtain ⟨cn, d, fs, ea, ed, ⟨es, e1, e2⟩, v, l, q⟩ := q
    rw [← G.fc.hK] at ea
    obtain ⟨c1, c2⟩ := G.fc.xfc cn es e1
    exact err_get c1 (c2 f e2) I1 ea ed l q
  | _ => exact q.elim
def ecW (K : PySem.W.Frag) : CR → Value
  | .ty n => .type n
  | .own x => .ref (He.ga K x)
theorem ecr_ok {X : Cx} {W : WX} {S : SC} (G : Gd D C n X W S) {c : CR} {e : Expr} (h : ecrOk D S c e = true) {pins : List (Addr × Obj)} {s : Shared} {σ : St} {H : Hp} {Q : Value → Shared → Prop} {E : Value → Shared → Prop} (I : Inv X pins σ H s)
    (q : ∀ s', Inv X pins σ H s' → Q (ecW X.K c) s') : wpAny (model X.prog X.w) X.A (eval e X.env) Q E s := by
  cases e <;> first | (cases h; done) | skip
  rename_i x p
  obtain ⟨h1, h2⟩ := b2 (show (S.gl x && _) = true from h)
  obtain ⟨g1, g2, g3⟩ := gl_ok G.sc h1
  cases c with
  | ty m =>
    obtain ⟨h3, h4⟩ := b2 h2
    exact ld_blt I g1 (G.fc.fr _ (bd h3)) (bd h4) (q _ I) g3 g2
  | own y =>
    obtain ⟨h3, h4⟩ := b2 h2
    obtain rfl := bd h3
    exact ld_glob I g1 (G.fc.ecl _ (bd h4)) (q _ I) g2
theorem snd_eisi {o : I} (c : CR) (ho : Snd D C n o) : Snd D C n (.eisi o c) := fun X W S G => snd_ofE (f := fun
      | .Call (.Name x _) [y, z] [] _ => decide (x = ("isinstance" : Str)) && S.gl x && decide (x ∈ D.frees) && nst y && nst z && (chk D o S).e y && ecrOk D S c z
      | _ => false) rfl rfl G.fc.hK fun x hx => by
  cases x <;> first | (cases hx; done) | skip
  rename_i fe es kws pos
  cases fe <;> first | (cases hx; done) | skip
  rename_i x p
  rcases es with _ | ⟨y, _ | ⟨z, _ | ⟨y2, es⟩⟩⟩ <;> first | (cases hx; done) | skip
  cases kws with
  | cons => cases hx
  | nil =>
    obtain ⟨h1, h7⟩ := b2 hx
    obtain ⟨h1, h6⟩ := b2 h1
    obtain ⟨h1, h5⟩ := b2 h1
    obtain ⟨h1, h4⟩ := b2 h1
    obtain ⟨h1, h3⟩ := b2 h1
    obtain ⟨h1, h2⟩ := b2 h1
    obtain rfl := bd h1
    obtain ⟨g1, g2, g3⟩ := gl_ok G.sc h2
    have pa := ((ho X W S G).e y h6).1
    refine ⟨⟨fun pins s σ H Q I h => ?_⟩, fun _ => rfl⟩
    refine wpAny_Call_Name_kw (ld_blt I g1 (G.fc.fr _ (bd h3)) (by decide +kernel : bootBuiltins "isinstance" = some (.builtin "isinstance")) ?_ g3 g2)
    refine PyProof.Rows.callWith_builtin1 ?_ (star_cons h4) (star_none (by rw [List.all_cons, h5]; rfl))
    rw [star_cons h4]
    show wpAny _ _ (spliced ((false, eval y X.env) :: backTo pos (starEach [z] X.env))) _ _ s
    refine Calls.spliced_cons (thn (pa.run pins s σ H _ I h) fun u s1 ⟨x, H1, I1, r1, q1⟩ => ?_)
    rw [star_cons h5]
    show wpAny _ _ (spliced ((false, eval z X.env) :: backTo pos (starEach [] X.env))) _ _ s1
    cases x with
    | ref a =>
      obtain rfl : u = Value.ref a := r1
      obtain ⟨cn, d, fs, k, ea, ed, e1, q⟩ := q1
      rw [← G.fc.hK] at ea
      obtain ⟨c1, c2⟩ := G.fc.eis cn c k e1
      exact Calls.spliced_cons (ecr_ok G h7 I1 fun s2 I2 => Calls.spliced_nil (err_isi c1 I2 ea ed (cv := ecW X.K c) (b := k) (by cases c <;> exact c2) q))
    | _ => exact q1.elim
theorem snd_try {b su : I} (c : Str) (i : Nat) (hb : Snd D C n b) (hs : Snd D C n su) : Snd D C n (.try_ c i b su) := fun X W S G => calmly rfl fun hS hck => snd_ofS (f := fun
      | .Try body [.ExceptHandler (some (.Name x _)) (some nm) (s0 :: suite) _] [] [] _ => decide (x = c) && S.gl x && decide (x ∈ D.ecls) && S.top && decide (S.N[i]? = some nm) && decide (S.sc.names.lookup nm = some .local) && (chk D b S).ss body && (chk D su ⟨S.N, S.sc, S.top, false, false⟩).ss (s0 :: suite)
      | _ => false) rfl hck fun x hx => by
  split at hx
  rotate_left
  · cases hx
  rename_i body x np nm s0 suite pos' pos
  obtain ⟨h1, h8⟩ := b2 hx
  obtain ⟨h1, h7⟩ := b2 h1
  obtain ⟨h1, h6⟩ := b2 h1
  obtain ⟨h1, h5⟩ := b2 h1
  obtain ⟨h1, h4⟩ := b2 h1
  obtain ⟨h1, h3⟩ := b2 h1
  obtain ⟨h1, h2⟩ := b2 h1
  obtain rfl := bd h1
  obtain ⟨gl, db, _⟩ := gl_ok G.sc h2
  obtain ⟨st1, st2⟩ := G.stk h4
  have em : X.mg x = some (.ref (He.ga X.K x)) := G.fc.ecl _ (bd h3)
  refine ps_try_val (X := X) (n := nm) (i := i) (c := .ref (He.ga X.K x)) (ts := (rd C su noW).s) (Wout := W) (tb := fun W' => (rd C b W').s) (Wf := fun D => _) ?_ st1 st2 (by rw [G.hN]; exact G.nd) (by rw [G.hN]; exact bd h5) ?_ ⟨gl, db, .inl em⟩ G.tk ?_ ?_
  · intro D' cls d σ H ⟨cn, k, e1, e2, e3, e4⟩
    refine ⟨k, ?_, e3, e4⟩
    rw [e1, ← G.fc.hK]
    have := G.fc.exm cn x k e2
    exact this
  · show X.env.scope.names.lookup nm = _
    rw [G.sc]
    exact bd h6
  · intro W' pn xe tk po
    refine (hb (X.tr pn xe) W' S ?_).ss body h7
    exact { fc := G.fc, hN := G.hN, nd := G.nd, sc := G.sc, kd := G.kd, fnt := G.fnt, stk := G.stk, un := G.un, calm := G.calm, big := G.big, tab := G.tab, act := G.act, tk := tk, own := po }
  · intro a pn
    refine (hs (X.suite a pn) noW ⟨S.N, S.sc, S.top, false, false⟩ ?_).ss (s0 :: suite) h8
    exact { fc := G.fc, hN := G.hN, nd := G.nd, sc := G.sc, kd := G.kd, fnt := G.fnt, stk := G.stk, un := G.un, calm := fun z => (by cases z), big := fun z => (by cases z), tab := fun z => (by cases z), act := fun _ z => (by cases z), tk := fun u s' ⟨_, _, _, _, _, _, _, _, _, _, _, _, _, _, _, _, w⟩ => w.elim, own := PassesOwn.never }
end
end U

namespace U
open PySem PySem.Spec PyProof.Rows L2
section
variable {X : Cx} {pins : List (Addr × Obj)} {σ : St} {H : Hp} {s : Shared}
/-- the lambda that a def got is called: what it may raise is wished for at that def's slots -/
theorem act_pe {CXg : CXT} {Eg : XK} {Ng : List Str} {qg a : Str} {sg scope : Scope} {g f c : Addr} {cdg pm ctv : Value} {params : Arguments} {body : Expr} {k i : Nat} {tb : XK → TE}
    (J : Inv X pins σ H s) (L : LamX.LamS X.env.scope scope)
    (fo : s.heap.get? f = some (PySem.W.kla_obj "<lambda>" (X.env.qual ++ "<lambda>") params body scope (cloFrom X.env.cells scope.names []) pm c ctv)) (fH : H f = none) (fS : f ∉ frs X.stack)
    (bnd : bindArgs (PySem.W.kla_fn "<lambda>" (X.env.qual ++ "<lambda>") params body scope (cloFrom X.env.cells scope.names []) pm (.ref c) ctv) ⟨[], []⟩ = pure [])
    (room : RoomG (k + 1) (X.A.deeper (envOfC qg sg s.heap.objs.size g cdg)))
    (pb : ∀ (E : XK) (B : Around) (o : List Env) (s2 : Shared) (G : Hp), RoomG k (B.deeper (LamX.lamEnv X scope s2.heap.objs.size f c)) → PE (LamX.lamCx X B o s2 G E scope f c) body (tb E))
    (eN : Ng[i]? = some a) (vis : Vis sg a) (nd : (a == ("__debug__" : Str)) = false) (nc : (a == ("__classdict__" : Str)) = false) :
    ActR (cxOf CXg X.prog X.w X.K X.mg X.base Ng qg sg g cdg X.A X.stack s H Eg) a i f c (X.env.qual ++ "<lambda>") (fun E G R => tb E σ G R) := by
  intro pn xe V pa pb' tk
  refine ⟨fun pinsZ sZ τ G R IZ h => ?_⟩
  obtain ⟨e0, e1, e2⟩ := h
  refine wpAny_Call_Name_kw (thn ((pe_var (pos := pa) (i := i) eN vis nd nc).run pinsZ sZ τ G (fun v H1 => v = .ref f ∧ H1 = G) IZ ⟨.ref f, e0, rfl, rfl⟩) fun u s1 ⟨v, H1, I1, r1, q1⟩ => ?_)
  obtain ⟨rfl, rfl⟩ := q1
  obtain rfl : u = Value.ref f := r1
  have fo1 := I1.base.keep f _ fo fH fS (fun z => nomatch (show f ∈ ([] : List Addr) from z))
  refine PySem.W.callWith_F0 ⟨_, _, _, _, fo1⟩ ?_
  have un : Un (frs X.stack) [] H H1 s.heap s1.heap := I1.base
  obtain ⟨⟨oc, ws, tk', hoc, hdc, hvc⟩, _, _⟩ := I1.hok c _ e1
  refine wpAny_call (codeAny_mono (show codeAny (model X.prog X.w) (X.A.deeper (envOfC qg sg s.heap.objs.size g cdg)) (.call (.ref f) ⟨[], []⟩) (L2.CR (L2.CX X.prog X.w) (envOfC qg sg s.heap.objs.size g cdg :: X.stack) X.prog X.w H1 s1 R (fun cls d G' => V cls d τ G')) s1 from ?_) fun r s' hq => ?_)
  · refine PySem.W.kla_callFunE room.r.depth fo1 rfl L.co L.gen rfl ⟨c, oc, ws, tk', rfl, hoc, hdc, hvc⟩ ?_
    rw [bnd]
    refine wpAny_pure (wpAny_newFunctionEnv (fun y hy => (L.own y hy).2) (fun y hy => absurd hy (by simp)) (fun h₁ hns hsb => ⟨I1.nolimit.fresh _ hsb, ?_⟩) L.kind)
    have kp : ∀ b o, s1.heap.get? b = some o → h₁.get? b = some o := fun b o e => hsb.extBut b o (Nat.ne_of_lt (Heap.lt_size e)) (Heap.get?_push_of_some _ e)
    have J2 := LamX.lam_start2 (E := fun cls d G' => V cls d τ G') (f := f) (c' := c) (tk := s1.toks + ([] : List (Str × Value)).length) J L I1.env0 room.r.hd un hns kp
    refine PySem.W.kla_codeExpr (wpAny_mono ((pb _ _ _ s1 H1 (room.deeper _)).run [] _ _ H1 R J2 e2) (fun v s2 ⟨w', G2, J', rv, q⟩ => ?_) fun e s2 hq => hq)
    exact ⟨w', G2, J'.os, J'.bare, J'.base, J'.hok, rv, q⟩
  · cases r with
    | error e => exact tk _ _ (XE.of_call I1 (fun cls d G' z => z) hq)
    | ok fl =>
      cases fl with
      | ret u => exact I1.after hq
      | next | brk | cont => exact False.elim hq
/-- x(lambda: body) -/
theorem pe_lamc {T : List (Addr × Str)} {TT : (XK → Hp → VK → Prop) → Hp → VK → Prop} {x : Str} {c P : Addr} {n : Nat} {params : Arguments} {body : Expr} {scope : Scope} {t : XK → TE} {p lpos pos : Pos}
    (LD : LDef X.prog X.w X.K X.mg X.base n x TT) (hg : Gl X x) (hdb : (x == ("__debug__" : Str)) = false)
    (TB : LamX.TabB X.base X.mg c P) (hcode : X.env.code = .ref c) (hmT : (P, X.env.qual ++ "<lambda>") ∈ T) (hu : ∀ p ∈ T, p.1 = P → p.2 = X.env.qual ++ "<lambda>")
    (hr : RoomG (5 * n + 5) X.A) (L : LamX.LamS X.env.scope scope) (hdef : defaultsOf params X.env = ([], []))
    (bnd : ∀ (q : Str) (cl : List (Str × Addr)) (pm cv ctv : Value), bindArgs (PySem.W.kla_fn "<lambda>" q params body scope cl pm cv ctv) ⟨[], []⟩ = pure [])
    (pb : ∀ (f c : Addr) (E : XK) (B : Around) (o : List Env) (s2 : Shared) (G : Hp), RoomG (5 * n + 3) (B.deeper (LamX.lamEnv X scope s2.heap.objs.size f c)) → PE (LamX.lamCx X B o s2 G E scope f c) body (t E)) :
    PE X (.Call (.Name x p) [.Lambda params body scope lpos] [] pos) (fun σ H Q => LamX.Tabs T H ∧ ∀ H1, LamX.ExtN H H1 → LamX.Tabs T H1 → TT (fun E G R => t E σ G R) H1 Q) := by
  refine ⟨fun pins s σ H Q I h => ?_⟩
  obtain ⟨hT, h⟩ := h
  obtain ⟨pg, bg, sg, dV, kV, doc, pm, cdv, ct, oc, an, od, osl, Ng, a, lk, hcd, hb, Sg, hNg, va, ⟨n1, n2⟩, hG⟩ := LD.ex
  refine wpAny_Call_Name_kw (ld_glob I hg LD.at_ ?_ hdb)
  refine PySem.W.callWith_K (h₀ := X.base) I.ok.mod.kin LD.kp ?_ (by rfl) (by rfl)
  refine Calls.spliced_cons (LamX.lam_make2 I TB hcode hmT hu hT hdef (L.has I.ok) fun f c' pm' ctv H1 s' I1 eN T1 hf hfn hfr hco => ?_)
  refine Calls.spliced_nil ⟨I1.kIn, ?_⟩
  refine wpAny_call (codeAny_mono (LamX.run_ofS (CX := C8.CX0) (E := C8.E0) (Q := Q) (N := Ng) (ps := [a]) (us := [.ref f]) (vs := [.ref f]) lk hcd Sg hr.r I1.env0 (hb s' [.ref f] I1.kIn rfl) (.cons rfl .nil) rfl fun hr' => ?_) fun r s2 hq => ?_)
  · obtain ⟨t', ht', hq'⟩ := hG X (X.env.qual ++ "<lambda>") rfl rfl rfl rfl rfl hr f c' s' H1 Q (fun E G R => t E σ G R) (act_pe (k := 5 * n + 3) (i := 0) I1 L hf hfn hfr (bnd _ _ _ _ _) ⟨hr', hr.gd⟩ (fun E B o s2 G hr2 => pb f c' E B o s2 G hr2) hNg va n1 n2) hco (h H1 eN T1)
    exact ⟨t', ht'.nox, hq'⟩
  · cases r with
    | error e => exact (show False from hq).elim
    | ok fl =>
      cases fl with
      | ret u => exact I1.after hq
      | next | brk | cont => exact False.elim hq
end
section
variable {D : SD} {C : Ctx} {n : Nat} {X : Cx} {W : WX} {S : SC}
theorem calmly2 {i : I} {b : Bool} {k : Ck} (hk : chk D i S = Ck.when b k) (h : b = true → chk D i S = k → Snd1 D C n i X W S) : Snd1 D C n i X W S := by
  cases hb : b with
  | true => exact h hb (by rw [hk, hb]; rfl)
  | false =>
    rw [hb] at hk
    have hk : chk D i S = {} := hk
    refine ⟨fun x hx => ?_, fun xs hx => ?_, fun xs hx => ?_, fun x hx => ?_, fun x hx => ?_, fun x hx => ?_, fun x hx => ?_, fun tg x hx => ?_, fun ps ks vs hx => ?_, fun x hx => ?_⟩
    all_goals (rw [hk] at hx; cases hx)
end
section
variable {D : SD} {C : Ctx} {n : Nat}
theorem snd_act (i : Nat) : Snd D C n (.act i) := fun X W S G => calmly2 rfl fun hS hck => snd_ofE (f := fun
      | .Call (.Name x _) [] [] _ => decide (S.N[i]? = some x) && S.vis x && !(x == ("__debug__" : Str)) && !(x == ("__classdict__" : Str))
      | _ => false) rfl hck G.fc.hK fun x hx => by
  obtain ⟨hS1, hS2⟩ := b2 hS
  split at hx
  rotate_left
  · cases hx
  rename_i x p pos
  obtain ⟨h1, h4⟩ := b2 hx
  obtain ⟨h1, h3⟩ := b2 h1
  obtain ⟨h1, h2⟩ := b2 h1
  refine ⟨⟨fun pins s σ H Q I h => ?_⟩, fun _ => rfl⟩
  cases hL : C.lam with
  | none => rw [hL] at h; exact h.elim
  | some L =>
    rw [hL] at h
    obtain ⟨rfl, e1, e2, e3⟩ := h
    exact (G.act hS2 hS1 L hL x (by rw [G.hN]; exact bd h1) X.pn X.xe W p pos G.tk).run pins s σ H Q I ⟨e1, e2, e3⟩
theorem noPar_bind {params : Arguments} (h : noPar params = true) {q : Str} {body : Expr} {scope : Scope} {cl : List (Str × Addr)} {pm cv ctv : Value} : bindArgs (PySem.W.kla_fn "<lambda>" q params body scope cl pm cv ctv) ⟨[], []⟩ = pure [] := by
  obtain ⟨a1, a2, a3, a4, a5, a6, a7⟩ := params
  obtain ⟨h, h7⟩ := b2 h
  obtain ⟨h, h6⟩ := b2 h
  obtain ⟨h, h5⟩ := b2 h
  obtain ⟨h, h4⟩ := b2 h
  obtain ⟨h, h3⟩ := b2 h
  obtain ⟨h1, h2⟩ := b2 h
  obtain rfl := List.isEmpty_iff.mp h1
  obtain rfl := List.isEmpty_iff.mp h2
  obtain rfl := Option.isNone_iff_eq_none.mp h3
  obtain rfl := List.isEmpty_iff.mp h4
  obtain rfl := List.isEmpty_iff.mp h5
  obtain rfl := Option.isNone_iff_eq_none.mp h6
  obtain rfl := List.isEmpty_iff.mp h7
  rfl
theorem noPar_def {params : Arguments} (h : noPar params = true) {env : Env} : defaultsOf params env = ([], []) := by
  obtain ⟨a1, a2, a3, a4, a5, a6, a7⟩ := params
  obtain ⟨h, h7⟩ := b2 h
  obtain ⟨h, h6⟩ := b2 h
  obtain ⟨h, h5⟩ := b2 h
  obtain rfl := List.isEmpty_iff.mp h5
  obtain rfl := List.isEmpty_iff.mp h7
  rfl
theorem snd_lamc {b : I} (f : Str) (hb : Snd D C n b) : Snd D C n (.lamc f b) := fun X W S G => calmly2 rfl fun hS hck => snd_ofE (f := fun
      | .Call (.Name x _) [.Lambda params body scope _] [] _ => decide (x = f) && S.gl x && decide (x ∈ D.lfns) && noPar params && LamX.lamSB S.sc scope && (chk D b ⟨S.N, scope, false, true, false⟩).e body
      | _ => false) rfl hck G.fc.hK fun x hx => by
  obtain ⟨hS, hS3⟩ := b2 hS
  obtain ⟨hS1, hS2⟩ := b2 hS
  split at hx
  rotate_left
  · cases hx
  rename_i x p params body scope lpos pos
  obtain ⟨h1, h6⟩ := b2 hx
  obtain ⟨h1, h5⟩ := b2 h1
  obtain ⟨h1, h4⟩ := b2 h1
  obtain ⟨h1, h3⟩ := b2 h1
  obtain ⟨h1, h2⟩ := b2 h1
  obtain rfl := bd h1
  obtain ⟨gl, db, _⟩ := gl_ok G.sc h2
  obtain ⟨c, P, t1, t2, t3, t4⟩ := G.tab hS3
  have L : LamX.LamS X.env.scope scope := by rw [G.sc]; exact LamX.lamS_by h5
  refine ⟨pe_lamc (n := n) (t := fun E => (rd C b fun cls d _ H2 => E cls d H2).e) (G.fc.lfn x (bd h3)) gl db t1 t2 t3 t4 (G.big hS3) L (noPar_def h4) (fun q cl pm cv ctv => noPar_bind h4) fun f c' E B o s2 G2 hr => ?_, fun _ => rfl⟩
  refine ((hb (LamX.lamCx X B o s2 G2 E scope f c') (fun cls d _ H2 => E cls d H2) ⟨S.N, scope, false, true, false⟩ ?_).e body h6).1
  exact { fc := G.fc, hN := G.hN, nd := G.nd, sc := rfl, kd := L.kind, fnt := fun z => (by cases z), stk := fun z => (by cases z), un := by have := hr.r.un; show (B.deeper (LamX.lamEnv X scope s2.heap.objs.size f c')).units + 200 < cLine; omega, calm := fun _ => ⟨rfl, hr⟩, big := fun z => (by cases z), tab := fun z => (by cases z), act := fun z => (by cases z), tk := takes_of rfl rfl rfl rfl, own := passes_of rfl }
end
end U

namespace U
open PySem PySem.Spec PyProof.Rows L2
section
variable {X : Cx} {pins : List (Addr × Obj)} {σ : St} {H : Hp} {s : Shared}
/-- the type of what is tracked -/
theorem looks_ty (I : Inv X pins σ H s) {p : Addr} {o : HO} {t : String} (h : Rd H p o) (ht : tyHO o = some t) : PySem.W.Looks (model X.prog X.w) s.heap (typeOf (.ref p)) (.type t) := by
  have ok := Rd.ok h I.hok
  cases o with
  | lst xs =>
    cases ht
    obtain ⟨_, its, m, _, e⟩ := ok
    exact (PySem.W.Looks.ld (part := _) e).andThen .now
  | tup xs =>
    cases ht
    obtain ⟨_, its, _, oo, e, hc, _⟩ := ok
    rw [← hc]
    exact (PySem.W.Looks.ld (part := _) e).andThen .now
  | dK kvs =>
    cases ht
    have g : DGet H p (kV (.inl 0)) (valV kvs (.inl 0)) := .inl ⟨kvs, .inl 0, h, rfl, rfl⟩
    obtain ⟨oo, e, hc⟩ := dict_typeIs I g
    rw [← hc]
    exact (PySem.W.Looks.ld (part := _) e).andThen .now
  | _ => cases ht
end
section
variable {D : SD} {C : Ctx} {n : Nat}
/-- a def's call behind its arguments, by place and by name -/
theorem kw_end {X : Cx} {W : WX} {S : SC} (G : Gd D C n X W S) (hS : S.calm = true) {key : Str} {g : Addr} {ks : List Str} {pins : List (Addr × Obj)} {σ : St} {H : Hp} {s : Shared} {us ws : List Value} {vs ts : List V} {Q : VK}
    (F : FnA X.prog X.w X.K X.mg X.base (5 * n + 1) g [] (fun vs _ H Q E => C.fn key vs H Q E)) (FK : ∀ l ks ord, C.kwo key l ks = some ord → FnA X.prog X.w X.K X.mg X.base (5 * n + 1) g ks (fun vs zs H Q E => vs.length = l ∧ ∃ ts, byOrd (vs ++ (zs ++ C.dfl key)) ord = some ts ∧ C.fn key ts H Q E))
    (I : Inv X pins σ H s) (r : Vals vs us) (rt : Vals ts ws) (q : kwRun C key ks vs ts H Q fun cls d H' => W cls d σ H') : wpAny (model X.prog X.w) X.A (call (.ref g) us (ks.zip ws)) (EP X pins σ Q) X.xe s := by
  cases ks with
  | nil => exact runA (us := us) (ws := []) (vs := vs) (zs := []) F (room1 G hS) G.tk I r .nil rfl q
  | cons k ks =>
    obtain ⟨hl, ord, zs, e1, e2, q⟩ := q
    exact runA (FK _ _ ord e1) (room1 G hS) G.tk I r rt hl ⟨rfl, zs, e2, q⟩
/-- f(es, kws), f kept -/
theorem kw_call {X : Cx} {W : WX} {S : SC} (G : Gd D C n X W S) (hS : S.calm = true) {key : Str} {g : Addr} {ks : List Str} {pins : List (Addr × Obj)} {σ : St} {H : Hp} {s : Shared} {Q : VK} {first : List Value} {fv : List V} {as zs : I} {es : List Expr} {kws : List Keyword} {pos : Pos}
    (F : FnA X.prog X.w X.K X.mg X.base (5 * n + 1) g [] (fun vs _ H Q E => C.fn key vs H Q E)) (FK : ∀ l ks ord, C.kwo key l ks = some ord → FnA X.prog X.w X.K X.mg X.base (5 * n + 1) g ks (fun vs zs H Q E => vs.length = l ∧ ∃ ts, byOrd (vs ++ (zs ++ C.dfl key)) ord = some ts ∧ C.fn key ts H Q E))
    (kp : PySem.W.keepIn X.K (.ref g) = true) (rf : Vals fv first) (ha : Snd D C n as) (hz : Snd D C n zs) (h3 : (chk D as S).a es = true) (h4 : kws.map (·.arg) = ks.map some) (h5 : (chk D zs S).a (kws.map (·.value)) = true)
    (I : Inv X pins σ H s) (q : (rd C as W).a σ H fun vs H2 => (rd C zs W).a σ H2 fun us H3 => kwRun C key ks (fv ++ vs) us H3 Q fun cls d H' => W cls d σ H') :
    wpAny (model X.prog X.w) X.A (callWith pos (.ref g) first (backTo pos (starEach es X.env)) (backToKw pos (keywordEach kws X.env))) (EP X pins σ Q) X.xe s := by
  obtain ⟨k1, k2, k3, k4⟩ := kw_names (env := X.env) (pos := pos) h4
  obtain ⟨pa, pn⟩ := (ha X W S G).a es h3
  have pk := (hz X W S G).k kws h5
  cases es with
  | nil =>
    obtain rfl := a_nil h3
    refine PySem.W.callWith_KW0 (h₀ := X.base) I.ok.mod.kin kp k1 ?_ (by rw [k3]; rfl)
    refine thn (pk.run pos pins s σ H _ I q) fun ws s3 ⟨ts, H3, I3, rt, q3⟩ => ⟨I3.kIn, ?_⟩
    rw [k2, List.append_nil]
    rw [List.append_nil] at q3
    exact kw_end G hS F FK I3 rf rt q3
  | cons e es =>
    have pn' := pn
    rw [List.all_cons, Bool.and_eq_true] at pn'
    refine PySem.W.callWith_KW (h₀ := X.base) I.ok.mod.kin kp k1 ?_ (by rw [k3, star_none pn]; rfl) (star_cons pn'.1)
    refine thn (pa.run pos pins s σ H _ I q) fun us s2 ⟨vs, H2, I2, r, q2⟩ => ?_
    refine thn (pk.run pos pins s2 σ H2 _ I2 q2) fun ws s3 ⟨ts, H3, I3, rt, q3⟩ => ⟨I3.kIn, ?_⟩
    rw [k2]
    exact kw_end G hS F FK I3 (rf.append r) rt q3
theorem snd_methk {o as zs : I} (m : Str) (ks : List Str) (ho : Snd D C n o) (ha : Snd D C n as) (hz : Snd D C n zs) : Snd D C n (.methk o m as ks zs) := fun X W S G => calmly rfl fun hS hck => snd_ofE (f := fun
      | .Call (.Attribute x f ap) es kws pos => decide (f = m) && abase x && (ap.endLine == pos.line) && decide (es.length + kws.length < 12) && (chk D o S).e x && (chk D as S).a es && decide (kws.map (·.arg) = ks.map some) && (chk D zs S).a (kws.map (·.value))
      | _ => false) rfl hck G.fc.hK fun x hx => by
  split at hx
  rotate_left
  · cases hx
  rename_i x f ap es kws pos
  obtain ⟨h1, h8⟩ := b2 hx
  obtain ⟨h1, h7⟩ := b2 h1
  obtain ⟨h1, h6⟩ := b2 h1
  obtain ⟨h1, h5⟩ := b2 h1
  obtain ⟨h1, h4⟩ := b2 h1
  obtain ⟨h1, h3⟩ := b2 h1
  obtain ⟨h1, h2⟩ := b2 h1
  obtain rfl := bd h1
  have po := ((ho X W S G).e x h5).1
  have pn := ((ha X W S G).a es h6).2
  obtain ⟨k1, k2, k3, k4⟩ := kw_names (env := X.env) (pos := pos) (bd h7)
  refine ⟨⟨fun pins s σ H Q I h => ?_⟩, fun _ => rfl⟩
  refine mcall h2 h3 (by have := bd h4; omega) pn k1 (thn (po.run pins s σ H _ I h) fun u s1 ⟨y, H1, I1, ry, q⟩ => ?_)
  cases y with
  | ref a =>
    obtain rfl : u = Value.ref a := ry
    obtain ⟨cn, dx, fs, key, ea, em, el, q⟩ := q
    obtain ⟨g, c1, c2, c3, F, FK⟩ := G.fc.mth cn _ key em
    rw [← G.fc.hK] at ea
    refine getmeth_ok I1 ea c1 c2 el ?_
    exact kw_call (fv := [.ref a]) (first := [.ref a]) G hS F FK c2.kp (.cons rfl .nil) ha hz h6 (bd h7) h8 I1 q
  | _ => exact q.elim
theorem snd_smeth {as zs : I} (c m : Str) (ks : List Str) (ha : Snd D C n as) (hz : Snd D C n zs) : Snd D C n (.smeth c m as ks zs) := fun X W S G => calmly rfl fun hS hck => snd_ofE (f := fun
      | .Call (.Attribute (.Name x _) f ap) es kws pos => decide (x = c) && S.gl x && decide (x ∈ D.clss) && decide (f = m) && (ap.endLine == pos.line) && decide (es.length + kws.length < 12) && (chk D as S).a es && decide (kws.map (·.arg) = ks.map some) && (chk D zs S).a (kws.map (·.value))
      | _ => false) rfl hck G.fc.hK fun x hx => by
  split at hx
  rotate_left
  · cases hx
  rename_i x p f ap es kws pos
  obtain ⟨h1, h9⟩ := b2 hx
  obtain ⟨h1, h8⟩ := b2 h1
  obtain ⟨h1, h7⟩ := b2 h1
  obtain ⟨h1, h6⟩ := b2 h1
  obtain ⟨h1, h5⟩ := b2 h1
  obtain ⟨h1, h4⟩ := b2 h1
  obtain ⟨h1, h3⟩ := b2 h1
  obtain ⟨h1, h2⟩ := b2 h1
  obtain rfl := bd h1
  obtain rfl := bd h4
  obtain ⟨g1, g2, g3⟩ := gl_ok G.sc h2
  have pn := ((ha X W S G).a es h7).2
  obtain ⟨k1, k2, k3, k4⟩ := kw_names (env := X.env) (pos := pos) (bd h8)
  refine ⟨⟨fun pins s σ H Q I h => ?_⟩, fun _ => rfl⟩
  refine mcall rfl h5 (by have := bd h6; omega) pn k1 (ld_glob I g1 (G.fc.cls x (bd h3)).1 ?_ g2)
  cases hk : C.smt x f with
  | none => rw [hk] at h; exact h.elim
  | some key =>
    rw [hk] at h
    obtain ⟨mc, pp, g, rest, c1, c2, c3, c4, F, FK⟩ := G.fc.smt x f key hk
    refine PySem.W.method_cls I.kIn c1.ga (PySem.W.cls_bind I.kIn c1.rd c2 (wpAny_call (PySem.W.sm_get (s := { s with toks := s.toks + 1 }) I.kIn c3 (PySem.W.handed_on rfl ?_))))
    exact kw_call (fv := []) (first := []) G hS F FK c4 .nil ha hz h7 (bd h8) h9 (I.tok _) h
def isSt : Expr → Bool
  | .Starred .. => true
  | _ => false
theorem isSt_no {a : Expr} (h : nst a = true) : isSt a = false := by
  cases a <;> first | rfl | (cases h; done)
theorem noStar3 {a b c : Expr} (h1 : nst a = true) (h2 : nst b = true) (h3 : nst c = true) : ([a, b, c].any fun | .Starred .. => true | _ => false) = false := by
  show (isSt a || (isSt b || (isSt c || false))) = false
  rw [isSt_no h1, isSt_no h2, isSt_no h3]
  rfl
theorem snd_par3 {as : I} (i j l : Nat) (ha : Snd D C n as) : Snd D C n (.par3 i j l as) := fun X W S G => calmly rfl fun hS hck => snd_ofS (f := fun
      | .Assign [.Tuple [.Name x px, .Name y py, .Name z pz] _ _] (.Tuple [a, b, c] _ _) _ => decide (S.N[i]? = some x) && decide (S.N[j]? = some y) && decide (S.N[l]? = some z) && (decide (i ≠ j) && decide (i ≠ l) && decide (j ≠ l)) && (decide (S.sc.names.lookup x = some .local) && decide (S.sc.names.lookup y = some .local) && decide (S.sc.names.lookup z = some .local)) &&
          ((px.line == py.line) && (py.line == pz.line)) && !([a, b, c].all (foldedForSure 8)) && !([a, b, c].all (constantsAlone 8)) && (chk D as S).a [a, b, c]
      | _ => false) rfl hck fun x hx => by
  split at hx
  rotate_left
  · cases hx
  rename_i x px y py z pz kt pt a b c k2 pt2 pos
  obtain ⟨h1, h9⟩ := b2 hx
  obtain ⟨h1, h8⟩ := b2 h1
  obtain ⟨h1, h7⟩ := b2 h1
  obtain ⟨h1, h6⟩ := b2 h1
  obtain ⟨h1, h5⟩ := b2 h1
  obtain ⟨h1, h4⟩ := b2 h1
  obtain ⟨h1, h3⟩ := b2 h1
  obtain ⟨h1, h2⟩ := b2 h1
  have h1 := bd h1
  have h2 := bd h2
  have h3 := bd h3
  obtain ⟨h4, h43⟩ := b2 h4
  obtain ⟨h41, h42⟩ := b2 h4
  have h41 := bd h41
  have h42 := bd h42
  have h43 := bd h43
  obtain ⟨h5, h53⟩ := b2 h5
  obtain ⟨h51, h52⟩ := b2 h5
  obtain ⟨h61, h62⟩ := b2 h6
  obtain ⟨pa, pn⟩ := (ha X W S G).a _ h9
  have lx : X.env.scope.names.lookup x = some .local := by rw [G.sc]; exact bd h51
  have ly : X.env.scope.names.lookup y = some .local := by rw [G.sc]; exact bd h52
  have lz : X.env.scope.names.lookup z = some .local := by rw [G.sc]; exact bd h53
  have hxy : x ≠ y := nd_ne G.nd h1 h2 h41
  have hxz : x ≠ z := nd_ne G.nd h1 h3 h42
  have hyz : y ≠ z := nd_ne G.nd h2 h3 h43
  refine ps_par3 (G.calm hS).1 (by rw [G.hN]; exact G.nd) (by rw [G.hN]; exact h1) (by rw [G.hN]; exact h2) (by rw [G.hN]; exact h3) h41 h42 h43 lx ly lz pa ?_ rfl
  have kx : X.env.kindOf x = some .local := lx
  have ky : X.env.kindOf y = some .local := ly
  have kz : X.env.kindOf z = some .local := lz
  have hb : X.env.blockKind = .function := by unfold Env.blockKind; rw [G.kd]; rfl
  rw [List.all_cons, List.all_cons, List.all_cons, Bool.and_eq_true, Bool.and_eq_true, Bool.and_eq_true] at pn
  have hst := noStar3 pn.1 pn.2.1 pn.2.2.1
  have hp : py.line = px.line := (beq_iff_eq.mp h61).symm
  have hp2 : pz.line = px.line := (beq_iff_eq.mp h62).symm.trans hp
  have he : ([x, y, z] : List Str).eraseDups.length = 3 := by
    have e1 : (y == x) = false := by simpa using Ne.symm hxy
    have e2 : (x == y) = false := by simpa using hxy
    have e3 : (z == x) = false := by simpa using Ne.symm hxz
    have e4 : (x == z) = false := by simpa using hxz
    have e5 : (z == y) = false := by simpa using Ne.symm hyz
    have e6 : (y == z) = false := by simpa using hyz
    simp [List.eraseDups, List.eraseDupsBy, List.eraseDupsBy.loop, e1, e2, e3, e4, e5, e6]
  unfold swappedStores
  simp only [hb, kx, ky, kz, bn h7, bn h8, Expr.pos, hp, hp2, he, List.filterMap_cons, List.filterMap_nil, List.length_cons, List.length_nil, List.head?_cons, Option.map_some, Option.getD_some, beq_self_eq_true, Bool.and_self, if_true, Bool.true_or, Bool.not_true, Bool.false_or, bne_self_eq_false, Bool.or_false, Bool.false_eq_true, if_false]
  exact if_neg (fun z => Bool.false_ne_true (hst.symm.trans z))
/-- the right side of an own == -/
theorem eq_side {X : Cx} {W : WX} {S : SC} (G : Gd D C n X W S) {pins : List (Addr × Obj)} {σ : St} {H : Hp} {s : Shared} (I : Inv X pins σ H s) {cn key : Str} {y : V} {u : Value} (em : C.mth cn "__eq__" = some key) (hy : EqR C H cn y) (ry : RelV y u) :
    ∃ tb, PySem.W.Looks (model X.prog X.w) s.heap (typeOf u) tb ∧ PySem.W.notFirst X.K (He.ga X.K cn) tb = true := by
  have eq := G.fc.eqc cn key em
  have byT : ∀ t ∈ ["NoneType", "bool", "int", "str", "list", "tuple", "dict"], PySem.W.notFirst X.K (He.ga X.K cn) (.type t) = true := fun t ht => by
    unfold PySem.W.notFirst
    rw [eq t ht]
    simp
  rcases hy with hy | ⟨q', dy, gs, rfl, eb⟩ | ⟨q', o, rfl, eo, ho⟩
  · cases y with
    | non =>
      cases (show u = Value.none from ry)
      exact ⟨_, PySem.W.Looks.of_pure rfl, byT "NoneType" (by decide)⟩
    | bl b =>
      cases (show u = Value.bool b from ry)
      exact ⟨_, PySem.W.Looks.of_pure rfl, byT "bool" (by decide)⟩
    | int i =>
      obtain ⟨t, rfl⟩ := ry
      exact ⟨_, PySem.W.Looks.of_pure rfl, byT "int" (by decide)⟩
    | str z =>
      obtain ⟨t, rfl⟩ := ry
      exact ⟨_, PySem.W.Looks.of_pure rfl, byT "str" (by decide)⟩
    | _ => cases hy
  · obtain rfl : u = Value.ref q' := ry
    rw [← G.fc.hK] at eb
    obtain ⟨mB, O', _⟩ := ins_get I.hok eb
    obtain ⟨od', J', _⟩ := O'.look
    exact ⟨_, J'.type, by simp [PySem.W.notFirst]⟩
  · obtain rfl : u = Value.ref q' := ry
    obtain ⟨t, ht⟩ := Option.isSome_iff_exists.mp ho
    refine ⟨_, looks_ty I eo ht, byT t ?_⟩
    cases o <;> first | (cases ht; decide) | cases ht
/-- the own __eq__ is called -/
theorem eq_back {X : Cx} {W : WX} {S : SC} (G : Gd D C n X W S) {A : Around} (hr : RoomG (5 * n + 1) A) {pins : List (Addr × Obj)} {σ : St} {H : Hp} {s : Shared} (I : Inv X pins σ H s) (e0 : Env0 X.prog X.w X.K X.mg X.base A X.stack s H) {a g : Addr} {key : Str} {y : V} {u : Value} (ry : RelV y u)
    (F : FnA X.prog X.w X.K X.mg X.base (5 * n + 1) g [] (fun vs _ H Q E => C.fn key vs H Q E)) {Q' : Bool → Hp → Prop} (q : C.fn key [.ref a, y] H (fun v H' => match v with | .bl k => Q' k H' | _ => False) fun _ _ _ => False) :
    wpAny (model X.prog X.w) A (call (.ref g) [.ref a, u]) (fun v s' => ∃ k H', v = .bool k ∧ Inv X pins σ H' s' ∧ Q' k H') X.xe s := by
  refine wpAny_call (codeAny_mono (F A X.stack s H [.ref a, u] [] [.ref a, y] [] _ _ hr e0 (.cons rfl (.cons ry .nil)) .nil rfl q) fun r s' hq => ?_)
  cases r with
  | error e => exact (show False from by obtain ⟨_, _, _, _, _, _, _, _, _, _, _, _, z⟩ := hq; exact z).elim
  | ok fl =>
    cases fl with
    | ret w =>
      obtain ⟨z, H', I', rz, ez⟩ := I.after hq
      cases z with
      | bl k =>
        obtain rfl : w = Value.bool k := rz
        exact ⟨k, H', rfl, I', ez⟩
      | _ => exact ez.elim
    | next | brk | cont => exact False.elim hq
/-- == by an own __eq__ -/
theorem op_oeq {X : Cx} {W : WX} {S : SC} (G : Gd D C n X W S) (hS : S.calm = true) : OpR X (compareOp .Eq) (rOeq C) := by
  intro pins s σ H x y v u Q I rx ry h
  cases x with
  | ref a =>
    obtain rfl : v = Value.ref a := rx
    obtain ⟨cn, dx, fs, key, ea, em, hy, q⟩ := h
    obtain ⟨g, c1, c2, c3, F, _⟩ := G.fc.mth cn _ key em
    obtain ⟨tb, ty, nf⟩ := eq_side G I em hy ry
    rw [← G.fc.hK] at ea
    obtain ⟨mA, O, _⟩ := ins_get I.hok ea
    obtain ⟨od, J, _⟩ := O.look
    obtain ⟨m, hF⟩ := I.fr
    refine PySem.W.cmp_K (op := .Eq) (tb := tb) (by have := G.un; omega) hF I.ok.mod.kin J ty nf c2.at_ c2.fn (wpAny_mono (eq_back G (room1 G hS) I I.env0 ry F (Q' := fun k H' => Q (.bl k) H') q) (fun v s' ⟨k, H', hv, I', q'⟩ => ?_) fun _ _ e => e)
    subst hv
    exact ⟨.bl k, H', I', rfl, q'⟩
  | _ => exact h.elim
theorem snd_oeq {a b : I} (ha : Snd D C n a) (hb : Snd D C n b) : Snd D C n (.oeq a b) := fun X W S G => calmly rfl fun hS hck => snd_ofET (f := fun
      | .Compare x ops ys _ => (match ops, ys with
        | [op'], [y] => decide (op' = .Eq) && !behindInMarks .Eq y && (chk D a S).e x && (chk D b S).e y
        | _, _ => false)
      | _ => false) rfl hck fun x hx => by
  cases x <;> first | (cases hx; done) | skip
  rename_i x ops ys pos
  rcases ops with _ | ⟨op', _ | ⟨op2, ops⟩⟩ <;> first | (cases hx; done) | skip
  rcases ys with _ | ⟨y, _ | ⟨y2, ys⟩⟩ <;> first | (cases hx; done) | skip
  obtain ⟨h1, h4⟩ := b2 (show (decide (op' = .Eq) && !behindInMarks .Eq y && (chk D a S).e x && (chk D b S).e y) = true from hx)
  obtain ⟨h1, h3⟩ := b2 h1
  obtain ⟨h1, h2⟩ := b2 h1
  obtain rfl := bd h1
  exact ⟨pe_cmpR (op_oeq G hS) ((ha X W S G).e x h3).1 ((hb X W S G).e y h4).1 (bn h2), pt_bl (op_oeq G hS) ((ha X W S G).e x h3).1 ((hb X W S G).e y h4).1 (bn h2)⟩
end
end U

namespace U
open PySem PySem.Spec PyProof.Rows L2
section
variable {D : SD} {C : Ctx} {n : Nat}
/-- a new instance: __init__ by place and by name -/
theorem mk_core {X : Cx} {W : WX} {S : SC} (G : Gd D C n X W S) (hS : S.calm = true) {y : Str} (hy : y ∈ D.mks) {ks : List Str} {pins : List (Addr × Obj)} {σ : St} {H1 : Hp} {s1 : Shared} {us ws : List Value} {vs ts : List V} {Q : VK}
    (I1 : Inv X pins σ H1 s1) (r : Vals vs us) (rt : Vals ts ws) (q : ∀ x dx, H1 x = none → H1 dx = none → dx ≠ x →
      ∃ key, C.mth y "__init__" = some key ∧ kwRun C key ks (.ref x :: vs) ts (upd (upd H1 dx (.own x)) x (.ins (He.ga C.K y) dx [])) (fun v H2 => v = .non ∧ Q (.ref x) H2) fun cls d H' => W cls d σ H') :
    wpAny (model X.prog X.w) X.A (call (.ref (He.ga X.K y)) us (ks.zip ws)) (EP X pins σ Q) X.xe s1 := by
  obtain ⟨m1, m2, m3⟩ := G.fc.mks y hy
  obtain ⟨key, e1, q⟩ := q (s1.heap.objs.size + 1) s1.heap.objs.size (I1.hok.fresh (Nat.le_succ _)) (I1.hok.fresh (Nat.le_refl _)) (Nat.ne_of_lt (Nat.lt_succ_self _))
  obtain ⟨f, c1, c2, c3, F, FK⟩ := G.fc.mth y _ key e1
  have I2 := Inv.made (C := He.ga X.K y) I1
  rw [← G.fc.hK] at q
  have fin : ∀ {k : List Str} {w' : List Value} {t' : List V} {sp : List V → List V → Hp → VK → XK → Prop}, FnA X.prog X.w X.K X.mg X.base (5 * n + 1) f k sp → Vals t' w' → t'.length = k.length → sp (V.ref (s1.heap.objs.size + 1) :: vs) t' (upd (upd H1 s1.heap.objs.size (.own (s1.heap.objs.size + 1))) (s1.heap.objs.size + 1) (.ins (He.ga X.K y) s1.heap.objs.size [])) (fun v H2 => v = .non ∧ Q (.ref (s1.heap.objs.size + 1)) H2) (fun cls d H' => W cls d σ H') →
      wpAny (model X.prog X.w) X.A (call (.ref (He.ga X.K y)) us (k.zip w')) (EP X pins σ Q) X.xe s1 := fun {k w' t' sp} F rt hl q => by
    refine wpAny_call (make_map (f := f) I1.kIn m2 c2.at_ (beq_iff_eq.mp c2.fn) (codeAny_mono (F _ X.stack _ _ (Value.ref (s1.heap.objs.size + 1) :: us) w' (V.ref (s1.heap.objs.size + 1) :: vs) t' _ _ (((G.calm hS).2.mono (by omega : 5 * n + 1 + 1 ≤ 5 * n + 3)).make (He.ga X.K y) us (k.zip w')) (I2.env0.make (He.ga X.K y) us (k.zip w')) (.cons rfl r) rt hl q) fun r s' hq' => ?_))
    cases r with
    | error e => exact G.tk _ _ (XE.of_call I2 (fun _ _ _ h => h) hq')
    | ok fl =>
      cases fl with
      | ret u =>
        obtain ⟨v, H', I3, rv, ev, q3⟩ := I2.after hq'
        subst ev
        exact ⟨rv, ⟨V.ref (s1.heap.objs.size + 1), H', I3, rfl, q3⟩⟩
      | next => exact False.elim hq'
      | brk => exact False.elim hq'
      | cont => exact False.elim hq'
  cases ks with
  | nil => exact fin F (w' := []) (t' := []) .nil rfl q
  | cons k ks =>
    obtain ⟨hl, ord, zs, e1, e2, q⟩ := q
    exact fin (FK _ _ ord e1) rt hl ⟨rfl, zs, e2, q⟩
theorem snd_mkk {as zs : I} (c : Str) (ks : List Str) (ha : Snd D C n as) (hz : Snd D C n zs) : Snd D C n (.mkk c as ks zs) := fun X W S G => calmly rfl fun hS hck => snd_ofE (f := fun
      | .Call (.Name x _) es kws pos => decide (x = c) && S.gl x && decide (x ∈ D.mks) && (chk D as S).a es && decide (kws.map (·.arg) = ks.map some) && (chk D zs S).a (kws.map (·.value))
      | _ => false) rfl hck G.fc.hK fun x hx => by
  split at hx
  rotate_left
  · cases hx
  rename_i y p es kws pos
  obtain ⟨h1, h6⟩ := b2 hx
  obtain ⟨h1, h5⟩ := b2 h1
  obtain ⟨h1, h4⟩ := b2 h1
  obtain ⟨h1, h3⟩ := b2 h1
  obtain ⟨h1, h2⟩ := b2 h1
  obtain rfl := bd h1
  obtain ⟨g1, g2, g3⟩ := gl_ok G.sc h2
  obtain ⟨pa, pn⟩ := (ha X W S G).a es h4
  have pk := (hz X W S G).k kws h6
  obtain ⟨m1, m2, m3⟩ := G.fc.mks y (bd h3)
  obtain ⟨k1, k2, k3, k4⟩ := kw_names (env := X.env) (pos := pos) (bd h5)
  refine ⟨⟨fun pins s σ H Q I h => ?_⟩, fun _ => rfl⟩
  refine wpAny_Call_Name_kw (ld_glob I g1 m1 ?_ g2)
  cases es with
  | nil =>
    obtain rfl := a_nil h4
    refine PySem.W.callWith_KW0 (h₀ := X.base) I.ok.mod.kin m3 k1 ?_ (by rw [k3]; rfl)
    refine thn (pk.run pos pins s σ H _ I h) fun ws s3 ⟨ts, H3, I3, rt, q3⟩ => ⟨I3.kIn, ?_⟩
    rw [k2]
    exact mk_core G hS (bd h3) I3 .nil rt q3
  | cons e es =>
    have pn' := pn
    rw [List.all_cons, Bool.and_eq_true] at pn'
    refine PySem.W.callWith_KW (h₀ := X.base) I.ok.mod.kin m3 k1 ?_ (by rw [k3, star_none pn]; rfl) (star_cons pn'.1)
    refine thn (pa.run pos pins s σ H _ I h) fun us s2 ⟨vs, H2, I2, r, q2⟩ => ?_
    refine thn (pk.run pos pins s2 σ H2 _ I2 q2) fun ws s3 ⟨ts, H3, I3, rt, q3⟩ => ⟨I3.kIn, ?_⟩
    rw [k2]
    exact mk_core G hS (bd h3) I3 r rt q3
theorem snd_mkv {a as : I} (cs : List Str) (ho : Snd D C n a) (ha : Snd D C n as) : Snd D C n (.mkv cs a as) := fun X W S G => calmly rfl fun hS hck => snd_ofE (f := fun
      | .Call fe es [] pos => calE fe && (chk D a S).e fe && cs.all (fun c => decide (c ∈ D.mks)) && (chk D as S).a es
      | _ => false) rfl hck G.fc.hK fun x hx => by
  split at hx
  rotate_left
  · cases hx
  rename_i fe es pos
  obtain ⟨h1, h4⟩ := b2 hx
  obtain ⟨h1, h3⟩ := b2 h1
  obtain ⟨h1, h2⟩ := b2 h1
  have po := ((ho X W S G).e _ h2).1
  obtain ⟨pa, pn⟩ := (ha X W S G).a es h4
  refine ⟨⟨fun pins s σ H Q I h => ?_⟩, fun _ => rfl⟩
  refine call_fe h1 (thn (po.run pins s σ H _ I h) fun u s1 ⟨y, H1, I1, ry, q⟩ => ?_)
  obtain ⟨c, hc, rfl, q⟩ := q
  obtain rfl : u = Value.ref (He.ga C.K c) := ry
  have hm := of_decide_eq_true (List.all_eq_true.mp h3 c hc)
  obtain ⟨m1, m2, m3⟩ := G.fc.mks c hm
  rw [G.fc.hK] at m3
  cases es with
  | nil =>
    obtain rfl := a_nil h4
    refine PySem.W.callWith_K0 I1.kIn (by rw [G.fc.hK]; exact m3) ?_
    have := mk_core (us := []) (ws := []) G hS hm I1 .nil .nil q
    rw [G.fc.hK] at this
    exact this
  | cons e es =>
    rw [List.all_cons, Bool.and_eq_true] at pn
    refine PySem.W.callWith_K (h₀ := X.base) I1.ok.mod.kin (by rw [G.fc.hK]; exact m3) (thn (pa.run pos pins s1 σ H1 _ I1 q) fun us s2 ⟨vs, H2, I2, r, q2⟩ => ⟨I2.kIn, ?_⟩) (star_cons pn.1) (star_none pn.2)
    have := mk_core (ws := []) G hS hm I2 r .nil q2
    rw [G.fc.hK] at this
    exact this
theorem runC {X : Cx} {W : WX} {k : Nat} {f : Addr} {ks : List Str} {sp : List V → List V → Hp → VK → XK → Prop} {pins : List (Addr × Obj)} {σ : St} {H : Hp} {s : Shared} {us ws : List Value} {vs zs : List V} {Q : VK} (F : FnA X.prog X.w X.K X.mg X.base k f ks sp) (hr : RoomG k X.A) (tk : Takes X W) (I : Inv X pins σ H s) (r : Vals vs us) (rz : Vals zs ws) (hl : zs.length = ks.length) (h : sp vs zs H Q fun cls d H' => W cls d σ H') :
    codeAny (model X.prog X.w) X.A (.call (.ref f) ⟨us, ks.zip ws⟩) (fun r s' => match r with | .ok (.ret v) => EP X pins σ Q v s' | .ok _ => False | .error e => X.xe e s') s := by
  refine codeAny_mono (F X.A X.stack s H us ws vs zs Q _ hr I.env0 r rz hl h) fun r s' hq => ?_
  have := ends_of tk I hq
  cases r with
  | error e => exact this
  | ok fl => cases fl <;> first | exact this | exact this.elim
/-- the call of a bound class method -/
theorem cm_end {X : Cx} {W : WX} {S : SC} (G : Gd D C n X W S) (hS : S.calm = true) {key : Str} {c g q : Addr} {ks : List Str} {pins : List (Addr × Obj)} {σ : St} {H : Hp} {s : Shared} {us ws : List Value} {vs ts : List V} {Q : VK}
    (F : FnA X.prog X.w X.K X.mg X.base (5 * n + 1) g [] (fun vs _ H Q E => C.fn key vs H Q E)) (FK : ∀ l ks ord, C.kwo key l ks = some ord → FnA X.prog X.w X.K X.mg X.base (5 * n + 1) g ks (fun vs zs H Q E => vs.length = l ∧ ∃ ts, byOrd (vs ++ (zs ++ C.dfl key)) ord = some ts ∧ C.fn key ts H Q E))
    (I : Inv X ((q, PySem.W.methodObj (.ref g) (.ref c)) :: pins) σ H s) (r : Vals vs us) (rt : Vals ts ws) (k : kwRun C key ks (.ref c :: vs) ts H Q fun cls d H' => W cls d σ H') : wpAny (model X.prog X.w) X.A (call (.ref q) us (ks.zip ws)) (EP X pins σ Q) X.xe s := by
  have z : wpAny (model X.prog X.w) X.A (call (.ref q) us (ks.zip ws)) (EP X ((q, PySem.W.methodObj (.ref g) (.ref c)) :: pins) σ Q) X.xe s := by
    cases ks with
    | nil => exact wpAny_call (PySem.W.method_call (ClX.pin_at I) (runC (us := .ref c :: us) (ws := []) (vs := .ref c :: vs) (zs := []) F (room1 G hS) G.tk I (.cons rfl r) .nil rfl k))
    | cons k' ks =>
      obtain ⟨hl, ord, zs, e1, e2, k⟩ := k
      exact wpAny_call (PySem.W.method_call (ClX.pin_at I) (runC (us := .ref c :: us) (vs := .ref c :: vs) (FK _ _ ord e1) (room1 G hS) G.tk I (.cons rfl r) rt hl ⟨rfl, zs, e2, k⟩))
  exact thn z fun _ _ y => ClX.unpinE y
theorem snd_cmeth {as zs : I} (c m : Str) (ks : List Str) (ha : Snd D C n as) (hz : Snd D C n zs) : Snd D C n (.cmeth c m as ks zs) := fun X W S G => calmly rfl fun hS hck => snd_ofE (f := fun
      | .Call (.Attribute (.Name x _) f ap) es kws pos => decide (x = c) && S.gl x && decide (x ∈ D.clss) && decide (f = m) && (ap.endLine == pos.line) && decide (es.length + kws.length < 12) && (chk D as S).a es && decide (kws.map (·.arg) = ks.map some) && (chk D zs S).a (kws.map (·.value))
      | _ => false) rfl hck G.fc.hK fun x hx => by
  split at hx
  rotate_left
  · cases hx
  rename_i x p f ap es kws pos
  obtain ⟨h1, h9⟩ := b2 hx
  obtain ⟨h1, h8⟩ := b2 h1
  obtain ⟨h1, h7⟩ := b2 h1
  obtain ⟨h1, h6⟩ := b2 h1
  obtain ⟨h1, h5⟩ := b2 h1
  obtain ⟨h1, h4⟩ := b2 h1
  obtain ⟨h1, h3⟩ := b2 h1
  obtain ⟨h1, h2⟩ := b2 h1
  obtain rfl := bd h1
  obtain rfl := bd h4
  obtain ⟨g1, g2, g3⟩ := gl_ok G.sc h2
  obtain ⟨pa, pn⟩ := (ha X W S G).a es h7
  have pk := (hz X W S G).k kws h9
  obtain ⟨k1, k2, k3, k4⟩ := kw_names (env := X.env) (pos := pos) (bd h8)
  refine ⟨⟨fun pins s σ H Q I h => ?_⟩, fun _ => rfl⟩
  refine mcall rfl h5 (by have := bd h6; omega) pn k1 (ld_glob I g1 (G.fc.cls x (bd h3)).1 ?_ g2)
  cases hk : C.cmt x f with
  | none => rw [hk] at h; exact h.elim
  | some key =>
    rw [hk] at h
    rw [← G.fc.hK] at h
    obtain ⟨mc, pp, g, c1, c2, F, FK⟩ := G.fc.cmt x f key hk
    refine ClX.getmethcm_ok I c1 c2 fun s2 I2 => ?_
    have kp := fun {h : Heap} (z : PySem.W.MethP X.K s.heap.objs.size g (.ref (He.ga X.K x)) h) => PySem.W.keeps_M (M := model X.prog X.w) c2.fi h z
    cases es with
    | nil =>
      obtain rfl := a_nil h7
      refine PySem.W.callWith_of (P := PySem.W.MethP X.K s.heap.objs.size g (.ref (He.ga X.K x))) (by rw [k3]; rfl) (fun h z => kp z) (PyProof.Rows.evalArgs_kw2_nil k1 ?_)
      refine thn (pk.run pos _ s2 σ H _ I2 h) fun ws s3 ⟨ts, H3, I3, rt, q3⟩ => ⟨⟨ClX.pin_at I3, I3.kIn⟩, ?_⟩
      rw [k2, List.append_nil]
      exact cm_end G hS F FK I3 .nil rt q3
    | cons e es =>
      have pn' := pn
      rw [List.all_cons, Bool.and_eq_true] at pn'
      refine PySem.W.callWith_of (P := PySem.W.MethP X.K s.heap.objs.size g (.ref (He.ga X.K x))) (by rw [k3, star_none pn]; rfl) (fun h z => kp z) (PyProof.Rows.evalArgs_kw2 k1 ?_ (star_cons pn'.1))
      refine thn (pa.run pos _ s2 σ H _ I2 h) fun us s3 ⟨vs, H2, I3, r, q2⟩ => ?_
      refine thn (pk.run pos _ s3 σ H2 _ I3 q2) fun ws s4 ⟨ts, H3, I4, rt, q3⟩ => ⟨⟨ClX.pin_at I4, I4.kIn⟩, ?_⟩
      rw [k2]
      exact cm_end G hS F FK I4 r rt q3
end
end U

namespace U
open PySem PySem.Spec PyProof.Rows L2
section
variable {prog : Program} {w : World} {A : Around} {E : Value → Shared → Prop} {s : Shared} {K : PySem.W.Frag} {x C f : Addr} {ox : Obj} {od : Option Obj} {b : Value}
/-- object.__ne__ of an instance whose class has an own __eq__ -/
theorem ne_entry {Q : Fin → Shared → Prop} (hu : A.units < cLine) (X : K.In s.heap) (I : PySem.W.InstAt s.heap x ox C od) (hs : PySem.W.findIn K (.ref C) "__eq__" = some (some (.ref f))) (hf : PySem.W.isFn K (.ref f) = true)
    (h : wpAny (model prog w) A (call (.ref f) [.ref x, b]) (fun v s' => ∃ k, v = .bool k ∧ Q (.done (.ret (.bool (!k)))) s') E s) : wpAny (model prog w) A (Builtin.«object.__ne__» ⟨[.ref x, b], []⟩) Q E s := by
  unfold Builtin.«object.__ne__»
  refine wpAny_bind (wpAny_pure ?_)
  refine wpAny_bind (wpAny_cRoomFor hu ?_)
  refine wpAny_bind (PySem.W.ifBound_K X I hs hf (wpAny_mono h (fun v s' hv => ?_) fun _ _ e => e))
  obtain ⟨k, rfl, q⟩ := hv
  exact wpAny_bind (wpAny_truthy_bool (wpAny_pure q))
/-- x != b -/
theorem ne_K {Q : Value → Shared → Prop} {tb : Value} (hu : A.units + 8 < cLine) (X : K.In s.heap) (I : PySem.W.InstAt s.heap x ox C od) (hb : PySem.W.Looks (model prog w) s.heap (typeOf b) tb) (hn : PySem.W.notFirst K C tb = true)
    (ht : PySem.W.Looks (model prog w) s.heap (isInstance (.ref x) (.type "object")) true) (ne : PySem.W.findIn K (.ref C) "__ne__" = some (some (.builtin "object.__ne__"))) (hs : PySem.W.findIn K (.ref C) "__eq__" = some (some (.ref f))) (hf : PySem.W.isFn K (.ref f) = true)
    (h : wpAny (model prog w) A.in1 (call (.ref f) [.ref x, b]) (fun v s' => ∃ k, v = .bool k ∧ Q (.bool (!k)) s') E s) : wpAny (model prog w) A (richCompare .NotEq (.ref x) b) Q E s := by
  have one : wpAny (model prog w) A (tryCompare (.ref x) (cmpInfo .NotEq).2.1 b) (fun r s' => ∃ v, r = some v ∧ Q v s') E s := by
    have ent : wpAny (model prog w) A (call (.builtin "object.__ne__") ([.ref x] ++ [b])) (fun v s' => ∃ k, v = .bool k ∧ Q (.bool k) s') E s :=
      wpAny_call (codeAny_call_builtin PySem.F.cmp_object.ne.plain PySem.F.cmpEntry_ne (@PySem.W.check_slot (model prog w) _ _ _ "object.__ne__" "object" "__ne__" (.ref x) [b] [] _ PySem.F.cmpKind_ne PySem.F.cmpSplit_ne ht (PySem.F.cmpArgs_ne _ _) (ne_entry (A := A.in1) (by show A.units + 1 < cLine; omega) X I hs hf (wpAny_mono h (fun v s' ⟨k, hv, q⟩ => ⟨k, hv, ⟨!k, rfl, q⟩⟩) fun _ _ e => e))))
    unfold tryCompare
    refine wpAny_bind ?_
    simp only [callSpecialIfBound?, bindSpecialIfBound?]
    refine wpAny_holding (wpAny_bind (wpAny_bind (wpAny_bind (I.type.here ((PySem.W.looks_findIn X ne).here ?_)))))
    simp only [PySem.F.cmp_object.ne.bind]
    refine wpAny_bind (wpAny_askSetting (wpAny_ite ?_))
    have fin : wpAny (model prog w) A (call (.builtin "object.__ne__") ([.ref x] ++ [b]) >>= fun v => pure (some v)) (fun r s' => wpAny (model prog w) A (match r with | some .notImplemented | none => pure none | some v => pure (some v)) (fun r s' => ∃ v, r = some v ∧ Q v s') E s') E s :=
      wpAny_bind (wpAny_mono ent (fun v s' ⟨k, hv, q⟩ => wpAny_pure (by subst hv; exact wpAny_pure ⟨_, rfl, q⟩)) fun _ _ e => e)
    split
    · exact wpAny_bind (wpAny_pure (wpAny_pure fin))
    · exact wpAny_tryCatch (wpAny_bind (wpAny_pure (wpAny_pure fin)))
  unfold richCompare
  simp only [oneThing_ref]
  refine wpAny_holding (wpAny_bind (wpAny_cRoomFor (by omega) ?_))
  refine wpAny_bind (I.type.here (wpAny_bind (hb.here ?_)))
  split
  · rename_i q
    have e : PySem.W.subIn K tb (.ref C) = some false := by
      rcases Bool.or_eq_true_iff.mp hn with e | e
      · rw [beq_iff_eq.mp e] at q; simp at q
      · exact beq_iff_eq.mp e
    refine wpAny_bind ((PySem.W.looks_subIn X e).here ?_)
    simp only [Bool.false_eq_true, if_false]
    refine wpAny_bind (wpAny_mono one (fun r s' z => ?_) fun _ _ e => e)
    obtain ⟨v, rfl, hq⟩ := z
    exact wpAny_pure hq
  · refine wpAny_bind (wpAny_pure ?_)
    simp only [Bool.false_eq_true, if_false]
    refine wpAny_bind (wpAny_mono one (fun r s' z => ?_) fun _ _ e => e)
    obtain ⟨v, rfl, hq⟩ := z
    exact wpAny_pure hq
end
section
variable {D : SD} {C : Ctx} {n : Nat}
/-- != by an own __eq__ -/
theorem op_one {X : Cx} {W : WX} {S : SC} (G : Gd D C n X W S) (hS : S.calm = true) : OpR X (compareOp .NotEq) (rOne C) := by
  intro pins s σ H x y v u Q I rx ry h
  cases x with
  | ref a =>
    obtain rfl : v = Value.ref a := rx
    obtain ⟨cn, dx, fs, key, ea, em, hy, q⟩ := h
    obtain ⟨g, c1, c2, c3, F, _⟩ := G.fc.mth cn _ key em
    obtain ⟨tb, ty, nf⟩ := eq_side G I em hy ry
    obtain ⟨n1, n2⟩ := G.fc.nec cn key em
    rw [← G.fc.hK] at ea
    obtain ⟨mA, O, _⟩ := ins_get I.hok ea
    obtain ⟨od, J, _⟩ := O.look
    have hr := (G.calm hS).2
    refine ne_K (by have := G.un; omega) I.kIn J ty nf ?_ n1 c2.at_ c2.fn (wpAny_mono (eq_back G (hr.mono (by omega : 5 * n + 1 + 1 ≤ 5 * n + 3)).in1 I I.env0.in1 ry F (Q' := fun k H' => Q (.bl (!k)) H') q) (fun v s' ⟨k, H', hv, I', q'⟩ => ?_) fun _ _ e => e)
    · exact J.type.andThen (PySem.W.looks_mroIn I.kIn n2)
    · exact ⟨k, hv, ⟨.bl (!k), H', I', rfl, q'⟩⟩
  | _ => exact h.elim
theorem snd_one {a b : I} (ha : Snd D C n a) (hb : Snd D C n b) : Snd D C n (.one a b) := fun X W S G => calmly rfl fun hS hck => snd_ofET (f := fun
      | .Compare x ops ys _ => (match ops, ys with
        | [op'], [y] => decide (op' = .NotEq) && !behindInMarks .NotEq y && (chk D a S).e x && (chk D b S).e y
        | _, _ => false)
      | _ => false) rfl hck fun x hx => by
  cases x <;> first | (cases hx; done) | skip
  rename_i x ops ys pos
  rcases ops with _ | ⟨op', _ | ⟨op2, ops⟩⟩ <;> first | (cases hx; done) | skip
  rcases ys with _ | ⟨y, _ | ⟨y2, ys⟩⟩ <;> first | (cases hx; done) | skip
  obtain ⟨h1, h4⟩ := b2 (show (decide (op' = .NotEq) && !behindInMarks .NotEq y && (chk D a S).e x && (chk D b S).e y) = true from hx)
  obtain ⟨h1, h3⟩ := b2 h1
  obtain ⟨h1, h2⟩ := b2 h1
  obtain rfl := bd h1
  exact ⟨pe_cmpR (op_one G hS) ((ha X W S G).e x h3).1 ((hb X W S G).e y h4).1 (bn h2), pt_bl (op_one G hS) ((ha X W S G).e x h3).1 ((hb X W S G).e y h4).1 (bn h2)⟩
/-! ### repr -/
mutual
theorem dp_noDict {K : PySem.W.Frag} {H : Hp} : ∀ {v : V} {d : PyData}, Dp K H v d → d.hasDict = false
  | _, _, .non => rfl
  | _, _, .bl b => rfl
  | _, _, .int b => rfl
  | _, _, .str b => rfl
  | _, _, .lst _ hs => dp_noDictAll hs
  | _, _, .tup _ hs => dp_noDictAll hs
theorem dp_noDictAll {K : PySem.W.Frag} {H : Hp} : ∀ {v : List V} {d : List PyData}, DpAll K H v d → PyData.hasDictAll d = false
  | _, _, .nil => rfl
  | _, _, .cons h hs => by
    show (PyData.hasDict _ || PyData.hasDictAll _) = false
    rw [dp_noDict h, dp_noDictAll hs]
    rfl
end
theorem snd_rep {a : I} (ha : Snd D C n a) : Snd D C n (.rep a) := fun X W S G => calmly rfl fun hS hck => snd_ofE (f := fun
      | .Call (.Name x _) [y] [] _ => decide (x = ("repr" : Str)) && S.gl x && decide (x ∈ D.frees) && nst y && (chk D a S).e y
      | _ => false) rfl hck G.fc.hK fun x hx => by
  split at hx
  rotate_left
  · cases hx
  rename_i x p y pos
  obtain ⟨h1, h5⟩ := b2 hx
  obtain ⟨h1, h4⟩ := b2 h1
  obtain ⟨h1, h3⟩ := b2 h1
  obtain ⟨h1, h2⟩ := b2 h1
  obtain rfl := bd h1
  obtain ⟨g1, g2, g3⟩ := gl_ok G.sc h2
  have pa := ((ha X W S G).e y h5).1
  have hr := (G.calm hS).2
  refine ⟨⟨fun pins s σ H Q I h => ?_⟩, fun _ => rfl⟩
  refine wpAny_Call_Name_kw (ld_blt I g1 (G.fc.fr _ (bd h3)) (by decide +kernel : bootBuiltins "repr" = some (.builtin "repr")) ?_ g3 g2)
  refine PyProof.Rows.callWith_builtin1 ?_ (star_cons h4) rfl
  rw [star_cons h4]
  show wpAny _ _ (spliced ((false, eval y X.env) :: backTo pos (starEach [] X.env))) _ _ s
  refine Calls.spliced_cons (thn (pa.run pins s σ H _ I h) fun u s1 ⟨x, H1, I1, r1, q1⟩ => Calls.spliced_nil ?_)
  rcases q1 with ⟨d, hd, hsh, hz, hdep, q⟩ | ⟨p, cn, dx, fs, key, rfl, ea, em, q⟩
  · rw [← G.fc.hK] at hd
    obtain ⟨as, hrd⟩ := Dp.reads I1 d x u hd r1
    have hnd := dp_noDict hd
    have ref : ∀ {a : Addr} {as : List Addr}, Reads s1.heap (.ref a) d as → wpAny (model X.prog X.w) X.A (call (.builtin "repr") [.ref a]) (EP X pins σ Q) X.xe s1 := fun {a as} hrd =>
      repr_of_reads' hrd hsh (fun z => by rw [hnd] at z; cases z) hr.gd (by have := G.un; omega) (fun _ _ e => e) (fun h' u tk hk => ⟨.str d.shown, H1, I1.kept hk, ⟨u, rfl⟩, q⟩) hz
    cases hrd with
    | none => exact PySem.P.repr_of_none ⟨.str _, H1, I1.tok _, ⟨_, rfl⟩, q⟩
    | bool b => exact PySem.P.repr_of_bool ⟨.str _, H1, I1.tok _, ⟨_, rfl⟩, q⟩
    | int i t => exact PySem.P.repr_of_int (of_decide_eq_true hsh) ⟨.str _, H1, I1.tok _, ⟨_, rfl⟩, q⟩
    | str x t => exact PySem.P.repr_of_str ⟨.str _, H1, I1.tok _, ⟨_, rfl⟩, q⟩ hz
    | list e1 e2 e3 e4 => exact ref (.list e1 e2 e3 e4)
    | tuple e1 e2 e3 e4 => exact ref (.tuple e1 e2 e3 e4)
    | dict e1 e2 e3 e4 e5 => cases hnd
  · obtain rfl : u = Value.ref p := r1
    obtain ⟨g, c1, c2, c3, F, _⟩ := G.fc.mth cn _ key em
    rw [← G.fc.hK] at ea
    obtain ⟨mA, O, _⟩ := ins_get I1.hok ea
    obtain ⟨od, J, _⟩ := O.look
    obtain ⟨m, hF⟩ := I1.fr
    refine PySem.W.repr_K (by have := G.un; show X.A.units + 1 < cLine; omega) hF I1.ok.mod.kin J c2.at_ c2.fn ?_
    refine wpAny_call (codeAny_mono (F X.A.in1 X.stack s1 H1 [.ref p] [] [.ref p] [] _ (fun _ _ _ => False) (hr.mono (by omega : 5 * n + 1 + 1 ≤ 5 * n + 3)).in1 I1.env0.in1 (.cons rfl .nil) .nil rfl q) fun r s' hq => ?_)
    cases r with
    | error er =>
      obtain ⟨_, _, _, _, _, _, _, _, _, _, _, _, z⟩ := hq
      exact z.elim
    | ok fl =>
      cases fl with
      | ret u =>
        obtain ⟨v, H', I3, rv, q3⟩ := I1.after hq
        cases v with
        | str z =>
          obtain ⟨t, rfl⟩ := rv
          exact ⟨.str z, H', I3, ⟨t, rfl⟩, q3⟩
        | _ => exact q3.elim
      | next | brk | cont => exact False.elim hq
/-! ### f-strings -/
theorem snd_fmt {a : I} (ha : Snd D C n a) : Snd D C n (.fmt a) := fun X W S G => snd_ofET (f := fun
      | .FormattedValue x cv none _ => decide (cv = -1) && (chk D a S).e x
      | _ => false) rfl rfl fun x hx => by
  split at hx
  rotate_left
  · cases hx
  obtain ⟨h1, h2⟩ := b2 hx
  obtain rfl := bd h1
  exact ⟨pe_fmt ((ha X W S G).e _ h2).1, ⟨fun _ _ _ _ _ _ h => h.elim⟩⟩
theorem jois_ok {X : Cx} : ∀ {l : List ((Expr → Bool) × TE)} {es : List Expr}, (∀ p ∈ l, ∀ x, p.1 x = true → PE X x p.2) → jois (l.map (·.1)) es = true → PJ X es (l.map (·.2))
  | [], [], _, _ => .nil
  | [], _ :: _, _, h => by cases h
  | _ :: _, [], _, h => by cases h
  | p :: l, e :: es, k, h => by
    obtain ⟨h1, h2⟩ := b2 h
    exact .cons (k p (List.mem_cons_self ..) e h1) (jois_ok (fun q hq => k q (List.mem_cons_of_mem _ hq)) h2)
def I.isNil : I → Bool
  | .nil => true
  | _ => false
theorem fm_eq {α β : Type} (f : β → α) (l : List (I × β)) : (l.map fun p => (p.1, f p.2)).filterMap (fun p => match p.1 with | .nil => none | _ => some p.2) = ((l.filter fun p => !p.1.isNil).map (·.2)).map f := by
  induction l with
  | nil => rfl
  | cons p l ih =>
    rw [List.map_cons, List.filterMap_cons, ih, List.filter_cons]
    obtain ⟨i, b⟩ := p
    cases i <;> rfl
theorem snd_joi {a b c d e f g h i j : I} (ha : Snd D C n a) (hb : Snd D C n b) (hc : Snd D C n c) (hd : Snd D C n d) (he : Snd D C n e) (hf : Snd D C n f) (hg : Snd D C n g) (hh : Snd D C n h) (hi : Snd D C n i) (hj : Snd D C n j) :
    Snd D C n (.joi a b c d e f g h i j) := fun X W S G => snd_ofE rfl rfl G.fc.hK fun x hx => by
  split at hx
  rotate_left
  · cases hx
  rename_i es pos
  obtain ⟨h1, h2⟩ := b2 hx
  have h1 := bd h1
  let l : List (I × ((Expr → Bool) × TE)) := [a, b, c, d, e, f, g, h, i, j].map fun z => (z, ((chk D z S).e, (rd C z W).e))
  have all : ∀ z ∈ [a, b, c, d, e, f, g, h, i, j], Snd D C n z := by
    intro z hz
    simp only [List.mem_cons, List.not_mem_nil, or_false] at hz
    rcases hz with rfl | rfl | rfl | rfl | rfl | rfl | rfl | rfl | rfl | rfl <;> assumption
  have e1 := fm_eq (fun q : (Expr → Bool) × TE => q.1) l
  have e2 := fm_eq (fun q : (Expr → Bool) × TE => q.2) l
  have h2 : jois ((l.map fun p => (p.1, p.2.1)).filterMap fun p => match p.1 with | .nil => none | _ => some p.2) es = true := h2
  rw [e1] at h2
  have J := jois_ok (X := X) (fun p hp x hx => by
    obtain ⟨q, hq, rfl⟩ := List.mem_map.mp hp
    obtain ⟨hq, _⟩ := List.mem_filter.mp hq
    obtain ⟨z, hz, rfl⟩ := List.mem_map.mp hq
    exact ((all z hz X W S G).e x hx).1) h2
  rw [← e2] at J
  cases es with
  | nil => exact absurd h1 (by decide)
  | cons y es =>
    cases es with
    | nil => exact absurd (show 2 ≤ 1 from h1) (by decide)
    | cons z es => exact ⟨pe_joined J, fun _ => rfl⟩
/-! ### a def called by keywords -/
theorem snd_callk {as zs : I} (f : Str) (ks : List Str) (ha : Snd D C n as) (hz : Snd D C n zs) : Snd D C n (.callk f as ks zs) := fun X W S G => calmly rfl fun hS hck => snd_ofE (f := fun
      | .Call (.Name x _) es kws pos => decide (x = f) && S.gl x && decide (x ∈ D.fns) && (chk D as S).a es && decide (kws.map (·.arg) = ks.map some) && (chk D zs S).a (kws.map (·.value))
      | _ => false) rfl hck G.fc.hK fun x hx => by
  split at hx
  rotate_left
  · cases hx
  rename_i y p es kws pos
  obtain ⟨h1, h6⟩ := b2 hx
  obtain ⟨h1, h5⟩ := b2 h1
  obtain ⟨h1, h4⟩ := b2 h1
  obtain ⟨h1, h3⟩ := b2 h1
  obtain ⟨h1, h2⟩ := b2 h1
  obtain rfl := bd h1
  obtain ⟨g1, g2, g3⟩ := gl_ok G.sc h2
  obtain ⟨m1, m2, F, FK⟩ := G.fc.fn y (bd h3)
  refine ⟨⟨fun pins s σ H Q I h => ?_⟩, fun _ => rfl⟩
  refine wpAny_Call_Name_kw (ld_glob I g1 m1 ?_ g2)
  exact kw_call (first := []) (fv := []) G hS F FK m2 .nil ha hz h4 (bd h5) h6 I h
end
end U

namespace U
open PySem PySem.Spec PyProof.Rows L2
/-! ### enumerate(tuple) -/
abbrev tupIt (t : Addr) : Obj := { cls := .type "tuple_iterator", data := .fields #[.ref t, .int 0 0] }
theorem enumT_new (t : Addr) (oo : Obj) (items : Array Value) (k : Nat) (hc : oo.cls = .type "tuple") (hd : oo.data = .seq items k) :
    Meets (Builtin.«enumerate.__new__» ⟨[.type "enumerate", .ref t], []⟩) (fun _ R s => s.heap.get? t = some oo ∧
      R (.ok (.ret (.ref (s.heap.push (tupIt t)).objs.size))) { s with heap := (s.heap.push (tupIt t)).push { cls := .type "enumerate", data := .fields #[.none, .bool false, .ref s.heap.objs.size, rawInt 0, .none, .none] } }) :=
  .of_wp fun prog w A R s h => by
    obtain ⟨hp, g, d, tk, os⟩ := s
    obtain ⟨hl, h⟩ := h
    have hsub := sub_enumerate
    have hT : Heap.IsTuple (Shared.heap ⟨hp, g, d, tk, os⟩) t items := ⟨oo, hl, hc, k, hd⟩
    wp_walk using AutoSeq1.wpAny_loadPart' hl
    refine wpAny_stack_any fun st => wpAny_pure ?_
    split
    · rename_i c _ _ _ _ _
      cases (c == Value.type "enumerate")
      · wp_walk using AutoSeq1.wpAny_loadPart' hl, wpAny_pyIter_tuple hT
        exact ⟨_, rfl, h⟩
      · wp_walk using AutoSeq1.wpAny_loadPart' hl, wpAny_pyIter_tuple hT
        exact ⟨_, rfl, h⟩
    · wp_walk using AutoSeq1.wpAny_loadPart' hl, wpAny_pyIter_tuple hT
      exact ⟨_, rfl, h⟩
theorem call_enumT {prog : Program} {w : World} {A : Around} {E : Value → Shared → Prop} {s : Shared} {t : Addr} {items : Array Value} {Q : Value → Shared → Prop} (hT : IsTup s.heap t items)
    (h : ∀ h', IsEnum h' (s.heap.objs.size + 1) s.heap.objs.size 0 .none → h'.IsTupleIter s.heap.objs.size t 0 → (∀ b o, s.heap.get? b = some o → h'.get? b = some o) → Q (.ref (s.heap.objs.size + 1)) { s with heap := h' }) :
    wpAny (model prog w) A (call (.type "enumerate") [.ref t]) Q E s := by
  obtain ⟨oo, hl, hc, k, hd⟩ := hT
  refine callType_new F.called_enumerate (by decide) (F.typeCall_enumerate_1 _) (F.newCall_enumerate_1 _) (fun obj => F.args_object_init_2 obj _) F.entry_enumerate_new (enumT_new t oo items k hc hd) ⟨hl, ?_⟩
  have hz : (s.heap.push (tupIt t)).objs.size = s.heap.objs.size + 1 := Heap.size_push ..
  show _ ∧ _
  rw [hz]
  have he : IsEnum ((s.heap.push (tupIt t)).push { cls := .type "enumerate", data := .fields #[.none, .bool false, .ref s.heap.objs.size, rawInt 0, .none, .none] }) (s.heap.objs.size + 1) s.heap.objs.size 0 .none := by
    have q := Heap.get?_push_size (s.heap.push (tupIt t)) (o := { cls := .type "enumerate", data := .fields #[.none, .bool false, .ref s.heap.objs.size, rawInt 0, .none, .none] }) rfl
    rw [hz] at q
    exact q
  exact ⟨⟨_, he, rfl⟩, h _ he ⟨_, Heap.get?_push_of_some _ (Heap.get?_push_size _ rfl), rfl, rfl⟩ fun b o x => Heap.get?_push_of_some _ (Heap.get?_push_of_some _ x)⟩
/-- the tuple at a, each item in a new pair -/
def Itt (K : PySem.W.Frag) (a : Addr) : It :=
  ⟨fun i H => ∃ (xs : List V) (x : V), SqT K H a xs ∧ xs[i]? = some x, fun i H v H' => ∃ T x, v = .ref T ∧ H T = none ∧ H' = upd H T (.tup [.int (i : Nat), x]) ∧ ∀ xs, SqT K H a xs → xs[i]? = some x, fun i H => ∃ xs : List V, SqT K H a xs ∧ xs.length = i⟩
theorem turn_enumT {P : Program} {w : World} {K : PySem.W.Frag} {elts : List Expr} {kk : Nat} {tpos : Pos} (a e it : Addr) :
    Turn P w K (.Tuple elts kk tpos) (Itt K a) [e, it] e (fun i h => (∃ old, IsEnum h e it ((i : Nat) : Int) old) ∧ h.IsTupleIter it a i ∧ e ≠ it) where
  mem := by simp
  obj := fun i h st b hb => by
    obtain ⟨⟨old, he⟩, ⟨o, ho, hc, hd⟩, _⟩ := st
    have e' : b = e ∨ b = it := by simpa using hb
    rcases e' with z | z
    · rw [z]; exact ⟨_, he, fun v q => nomatch q⟩
    · rw [z]; exact ⟨o, ho, fun v q => by rw [hd] at q; cases q⟩
  keep := fun i h h' st k => let ⟨⟨old, he⟩, hi, hne⟩ := st; ⟨⟨old, k e (by simp) _ he⟩, hi.at fun o q => k it (by simp) o q, hne⟩
  item := by
    intro X hP hw hK hc i pins s σ H E I hf st hg
    subst hP hw hK
    obtain ⟨⟨old, he⟩, hit, hne⟩ := st
    obtain ⟨xs, x, hq, hx⟩ := hg
    obtain ⟨its, rv, p, hz⟩ := I.tuple hq
    obtain ⟨u, hu, ru⟩ := rv.get hx
    have hel : e < s.heap.objs.size := Heap.lt_size he
    have hil : it < s.heap.objs.size := by obtain ⟨_, q, _⟩ := hit; exact Heap.lt_size q
    have hai : a ≠ it := by
      rintro rfl
      obtain ⟨o1, q1, q2, _⟩ := p
      obtain ⟨o2, q3, q4, _⟩ := hit
      rw [q1] at q3
      cases q3
      exact absurd (Value.type.inj (q2.symm.trans q4)) (by decide)
    have hae : e ≠ a := by
      rintro rfl
      obtain ⟨o1, q1, q2, _⟩ := p
      have he : s.heap.get? e = some _ := he
      rw [q1] at he
      cases he
      exact absurd (Value.type.inj q2) (by decide)
    have Dr := Draws.tuple (prog := X.prog) (w := X.w) (A := X.A.in1) (show X.A.in1.handled = none from I.ok.hd hc) it a hai its.toArray
    have hlt : i < its.toArray.size := by
      have := (List.getElem?_eq_some_iff.mp hu).1
      simpa using this
    refine wpAny_pyNext_enum_itemD Dr he ⟨hit, p⟩ hlt hne (by simp [hne, hae]) fun y h' tk hP ho hit' hT hsz hk => ?_
    obtain ⟨hit', _⟩ := hit'
    obtain rfl : y = u := by
      rw [show its.toArray[i]? = some u by simpa using hu] at hP
      exact (Option.some.inj hP).symm
    refine ⟨_, rfl, wpAny_letOwnedTupleGo_enum (s := { s with heap := h', toks := tk + 1 }) ho fun h'' he' sb => ?_⟩
    have hT2 : h''.get? s.heap.objs.size = some { cls := .type "tuple", data := .seq #[.int i tk, y] } := (sb.2 _ (Nat.ne_of_gt hel)).trans hT
    have new : ObjOk X.prog X.w (upd H s.heap.objs.size (.tup [.int (i : Nat), x])) h'' s.heap.objs.size (.tup [.int (i : Nat), x]) :=
      ⟨by show 2 ≤ sizeLine; decide, [.int i tk, y], .cons ⟨_, rfl⟩ (.cons ru .nil), ⟨_, hT2, rfl, _, rfl⟩⟩
    have I1 : Inv X pins σ (upd H s.heap.objs.size (.tup [.int (i : Nat), x])) { s with heap := h'', toks := tk + 1 } :=
      I.turnedNew (ch := [e, it]) (fun b ob hb q => (sb.2 b (fun z => hb (by simp [z]))).trans (hk b ob (fun z => hb (by simp [z])) (fun z => hb (by simp [z])) q)) hf (Nat.le_refl _) new
    refine ⟨.ref s.heap.objs.size, _, I1, rfl, ⟨_, x, rfl, I.hok.fresh (Nat.le_refl _), rfl, fun ys hy => by rw [I.tuple_inj hy hq]; exact hx⟩, ⟨⟨y, ?_⟩, hit'.at fun o q => (sb.2 it (Ne.symm hne)).trans q, hne⟩, fun b hb => ?_⟩
    · have e1 : ((i + 1 : Nat) : Int) = (i : Int) + 1 := by omega
      rw [e1]; exact he'
    · have hb' : b < s.heap.objs.size := by
        have e' : b = e ∨ b = it := by simpa using hb
        rcases e' with z | z
        · rw [z]; exact hel
        · rw [z]; exact hil
      rw [upd_ne (Nat.ne_of_lt hb')]
      exact (hf b hb).1
  done := by
    intro X hP hw hK hc i pins s σ H E I hf st hg
    subst hP hw hK
    obtain ⟨⟨old, he⟩, hit, hne⟩ := st
    obtain ⟨xs, hq, hx⟩ := hg
    obtain ⟨its, rv, p, hz⟩ := I.tuple hq
    obtain ⟨f0, f1, f2, f3, f4, f5⟩ := hf it (by simp)
    have hai : a ≠ it := by
      rintro rfl
      obtain ⟨o1, q1, q2, _⟩ := p
      obtain ⟨o2, q3, q4, _⟩ := hit
      rw [q1] at q3
      cases q3
      exact absurd (Value.type.inj (q2.symm.trans q4)) (by decide)
    have Dr := Draws.tuple (prog := X.prog) (w := X.w) (A := X.A.in1) (show X.A.in1.handled = none from I.ok.hd hc) it a hai its.toArray
    have hsz : its.toArray.size = i := by
      have := rv.length
      simp
      omega
    exact wpAny_pyNext_enum_endD Dr he (by rw [hsz]; exact ⟨hit, p⟩) fun h' eb => ⟨rfl, I.turned (t' := s.toks) (fun b o hb q => eb b o hb q) f0 f1 f3 f4 f5⟩
  self := fun A i s Q E st h => let ⟨⟨_, he⟩, _⟩ := st; wpAny_pyIter_enum he h
theorem fits_enumT {K : PySem.W.Frag} {a : Addr} {xs : List V} : Fits (Itt K a) (fun H' => SqT K H' a xs) (xs.zipIdx.map fun p => .t [.int (p.2 : Nat), p.1]) := by
  intro j H' hj ok
  simp only [List.length_map, List.length_zipIdx] at hj
  rw [List.getElem?_map, List.getElem?_zipIdx]
  cases e : xs[j]? with
  | none =>
    have := List.getElem?_eq_none_iff.mp e
    exact ⟨xs, ok, by omega⟩
  | some y =>
    refine ⟨⟨xs, y, ok, e⟩, fun z H2 ⟨T, x, h1, h2, h3, h4⟩ => ?_⟩
    have := h4 xs ok
    rw [e] at this
    obtain rfl := Option.some.inj this
    exact ⟨T, h1, h2, by simpa using h3⟩
section
variable {D : SD} {C : Ctx} {n : Nat}
theorem snd_itET {e : I} (he : Snd D C n e) : Snd D C n (.itET e) := fun X W S G => snd_ofI (f := fun t x => match t, x with
      | .Tuple _ _ _, .Call (.Name f _) [y] [] _ => decide (f = ("enumerate" : Str)) && S.gl f && decide (f ∈ D.frees) && nst y && (chk D e S).e y
      | _, _ => false) rfl rfl fun tg x hx => by
  split at hx
  rotate_left
  · cases hx
  rename_i es kk tp f p y pos
  obtain ⟨h1, h5⟩ := b2 hx
  obtain ⟨h1, h4⟩ := b2 h1
  obtain ⟨h1, h3⟩ := b2 h1
  obtain ⟨h1, h2⟩ := b2 h1
  obtain rfl := bd h1
  obtain ⟨g1, g2, g3⟩ := gl_ok G.sc h2
  have po := ((he X W S G).e y h5).1
  refine ⟨fun pins s σ H R I ⟨R', h, k⟩ => ?_⟩
  refine Call_ (ld_blt I g1 (G.fc.fr _ (bd h3)) boot_enumerate (PyProof.Rows.callWith_type1 ?_ (star_cons h4) rfl))
  rw [star_cons h4]
  show wpAny _ _ (spliced ((false, eval y X.env) :: backTo pos (starEach [] X.env))) _ _ s
  refine Calls.spliced_cons (thn (po.run pins s σ H _ I h) fun u s1 ⟨v, H1, I1, r1, q1⟩ => Calls.spliced_nil ?_)
  cases v with
  | ref a =>
    obtain rfl : u = Value.ref a := r1
    obtain ⟨xs, hq, q⟩ := q1
    rw [← G.fc.hK] at hq
    obtain ⟨its, rv, p', hz⟩ := I1.tuple hq
    refine call_enumT p' fun h' he hit hk => wpAny_pyIter_enum he ?_
    have I2 : Inv X pins σ H1 { s1 with heap := h' } := I1.kept (t' := s1.toks) hk
    refine ⟨s1.heap.objs.size + 1, [s1.heap.objs.size + 1, s1.heap.objs.size], _, _, H1, rfl, I2, turn_enumT a (s1.heap.objs.size + 1) s1.heap.objs.size, ⟨⟨.none, he⟩, hit, Nat.succ_ne_self _⟩, fun b hb => ?_, k _ _ _ q _ (by rw [G.fc.hK]; exact fits_enumT)⟩
    have e' : b = s1.heap.objs.size + 1 ∨ b = s1.heap.objs.size := by simpa using hb
    have hle : s1.heap.objs.size ≤ b := by
      rcases e' with z | z
      · rw [z]; exact Nat.le_add_right _ _
      · rw [z]; exact Nat.le_refl _
    exact I1.fpOk hle (I1.hok.fresh hle)
  | _ => exact q1.elim
end
end U

namespace U
open PySem PySem.Spec PyProof.Rows L2
/-! ### bool(x), an own __bool__ -/
section
variable {prog : Program} {w : World} {A : Around} {E : Value → Shared → Prop} {s : Shared} {K : PySem.W.Frag} {x C f : Addr} {ox : Obj} {od : Option Obj}
theorem boolO_call {Q : Value → Shared → Prop} {m : Str → Option Value} {L : Addr} {h₀ : Heap} (F : Fr h₀ L s.heap m) (X₀ : K.In h₀) (I : PySem.W.InstAt s.heap x ox C od) (hs : PySem.W.findIn K (.ref C) "__bool__" = some (some (.ref f))) (hf : PySem.W.isFn K (.ref f) = true)
    (h : wpAny (model prog w) A.in1.in1 (call (.ref f) [.ref x]) (PySem.W.BoolBack fun b s' => Q (.bool b) s') E s) : wpAny (model prog w) A (call (.type "bool") [.ref x]) Q E s := by
  refine callType_codes (T := "bool") (Bi := Builtin.«object.__init__») (Q₁ := fun r s₁ => ∃ b, r = .bool b ∧ Q r s₁) PySem.F.called_bool (PySem.F.typeCall_bool_1 _) PySem.F.entry_object_init ?_ ?_
  · refine codeAny_of_tree ?_
    show wpAny _ A.in1.in1 (do checkBuiltinCall "bool.__new__" ⟨[.type "bool", .ref x], []⟩; again (.builtin "bool.__new__" ⟨[.type "bool", .ref x], []⟩)) _ _ s
    refine wpAny_bind (wpAny_of_eq (PySem.F.newCall_bool_1 _) (wpAny_pure ⟨plainId_quiet (by decide +kernel) _, codeAny_builtin PySem.F.entry_bool_new ?_⟩))
    rw [Around.under_plainId (by decide +kernel) _]
    unfold Builtin.«bool.__new__»
    refine wpAny_bind (wpAny_of_eq (a := true) (by rfl) ?_)
    refine wpAny_bind (wpAny_of_eq PySem.F.conv_sub_bool ?_)
    refine wpAny_bind (wpAny_of_eq (a := [Value.ref x]) rfl ?_)
    refine wpAny_bind (PySem.W.truthy_K F X₀ I hs hf (wpAny_mono h (fun r s₁ hr => ?_) fun _ _ y => y))
    cases r <;> first | exact hr.elim | exact wpAny_pure ⟨_, rfl, hr⟩
  · rintro obj s₁ ⟨b, rfl, hq⟩
    exact ⟨rfl, PySem.F.args_object_init_2 _ _, object_init_meets PySem.F.called_bool.init.lookup PySem.F.called_bool.made (by decide) prog w A.in1 _ s₁ ⟨rfl, rfl, hq⟩⟩
end
/-! ### {x:03o} -/
abbrev sp3 : Str := S3o
abbrev fo3F : Builtin.Float.FormatSpec := { fill := 48, align := 61, width := some 3, type := some 111 }
theorem fo3_parse : Builtin.Float.parseFormatSpec sp3.cps.toList "int" 62 = .ok fo3F := by kernel_rfl
def o3 (a : Int) : Str := intField' fo3F (decide (a < 0)) [] ((Nat.toDigits 8 a.natAbs).map fun c => (if (111 : Nat) == 88 then c.toUpper else c).toNat) [] 4
theorem o3_all : ∀ n : Fin 512, o3 (n.1 : Int) = oct3 (n.1 : Int) := by decide +kernel
theorem o3_eq {a : Int} (h0 : 0 ≤ a) (h1 : a < 512) : o3 a = oct3 a := by
  have := o3_all ⟨a.toNat, by omega⟩
  have e : ((a.toNat : Nat) : Int) = a := by omega
  simp only [e] at this
  exact this
section
variable {prog : Program} {w : World} {A : Around} {E : Value → Shared → Prop} {s : Shared}
theorem field_o {a : Int} {t : Tok} {Q : Value → Shared → Prop} (h0 : 0 ≤ a) (h1 : a < 512) (h : ∀ t' k, Q (.str (oct3 a) t') { s with toks := k }) : wpAny (model prog w) A (formatField (.int a t) sp3) Q E s := by
  refine PySem.W.KXf.field_meets (y := oct3 a) (by decide +kernel) (fun s' => typeIs_int s' a t) PySem.F.slot_int_format PySem.F.entry_int_format PySem.F.args_int_format_2 (by decide +kernel) (fun u => Meets.of_wp fun prog w A R s hs => ?_) h
  unfold Builtin.«int.__format__»
  refine wpAny_bind (wpAny_of_eq (a := (_, _)) rfl ?_)
  refine wpAny_bind (wpAny_of_eq (a := _) rfl ?_)
  refine wpAny_ite (PySem.W.KPc.ite_no Bool.false_ne_true ?_)
  refine wpAny_bind (wpAny_typeNameOf (T := "str") (typeIs_str _ _ _) (by decide) fun _ => ?_)
  refine wpAny_bind (wpAny_of_eq (a := some _) rfl ?_)
  refine wpAny_ite (PySem.W.KPc.ite_no (by decide +kernel) ?_)
  refine wpAny_ite (PySem.W.KPc.ite_no (by decide +kernel) ?_)
  refine wpAny_bind (wpAny_typeNameOfCut_int ?_)
  rw [fo3_parse]
  dsimp only
  refine wpAny_ite (PySem.W.KPc.ite_yes (by decide +kernel) ?_)
  refine wpAny_bind ?_
  change wpAny _ _ (PySem.mkStr (o3 a)) _ _ _
  rw [o3_eq h0 h1]
  exact wpAny_mkStr (wpAny_pure ⟨_, rfl, hs _ _⟩) (show (3 : Nat) ≤ sizeLine by decide +kernel)
end
section
variable {D : SD} {C : Ctx} {n : Nat}
theorem snd_fo3 {a : I} (ha : Snd D C n a) : Snd D C n (.fo3 a) := fun X W S G => snd_ofET (f := fun
      | .FormattedValue x cv (some (.JoinedStr [.Constant (.str z) _ _] _)) _ => decide (cv = -1) && decide (z = S3o) && (chk D a S).e x
      | _ => false) rfl rfl fun x hx => by
  split at hx
  rotate_left
  · cases hx
  obtain ⟨h1, h3⟩ := b2 hx
  obtain ⟨h1, h2⟩ := b2 h1
  obtain rfl := bd h1
  obtain rfl := bd h2
  refine ⟨⟨fun pins s σ H Q I h => ?_⟩, ⟨fun _ _ _ _ _ _ h => h.elim⟩⟩
  refine wpAny_FormattedValue_spec (thn (((ha X W S G).e _ h3).1.run pins s σ H _ I h) fun v s1 hv => ?_)
  obtain ⟨x, H1, I1, r1, q⟩ := hv
  refine thn ((pe_fs1 (pe_str (x := S3o))).run pins s1 σ H1 (fun y H' => y = .str S3o ∧ H' = H1) I1 ⟨rfl, rfl⟩) fun r s2 hr => ?_
  obtain ⟨y, H2, I2, r2, rfl, rfl⟩ := hr
  obtain ⟨t, rfl⟩ := r2
  refine ⟨_, _, rfl, ?_⟩
  cases x with
  | int i =>
    obtain ⟨k0, k1, q⟩ := q
    obtain ⟨u, rfl⟩ := r1
    exact field_o k0 k1 fun t' k => ⟨.str (oct3 i), H2, I2.tok _, ⟨_, rfl⟩, q⟩
  | _ => exact q.elim
/-- (a, b, ..) = a list -/
theorem snd_unl {gs : I} (hg : Snd D C n gs) : Snd D C n (.unl gs) := fun X W S G => calmly rfl fun hS hck => snd_g1 (f := fun
      | .Tuple es _ _ => (chk D gs S).gs es
      | _ => false) rfl hck fun x hx => by
  cases x <;> first | (cases hx; done) | skip
  rename_i es k pos
  have hn := gs_nst (D := D) (S := S) hx
  obtain ⟨a1, a2⟩ := asg_len (env := X.env) hn
  refine ⟨fun pins s σ H v u Q I r h => ?_⟩
  refine (pg_unl (k := k) (pos := pos) (G.calm hS).1 ((hg X W S G).gs es hx) a1 a2).run pins s σ H v u Q I r ?_
  cases v with
  | ref a =>
    obtain ⟨xs, h1, h2, h3⟩ := h
    rw [← G.fc.hK] at h1
    exact ⟨a, xs, rfl, h1, by rw [h2, gs_count hx], h3⟩
  | _ => exact h.elim
theorem snd_cat (c f : Str) : Snd D C n (.cat c f) := fun X W S G => snd_ofE (f := fun
      | .Attribute (.Name x _) f' _ => decide (x = c) && S.gl x && decide (x ∈ D.clss) && decide (f = f')
      | _ => false) rfl rfl G.fc.hK fun x hx => by
  split at hx
  rotate_left
  · cases hx
  rename_i x p f' pos
  obtain ⟨h1, h4⟩ := b2 hx
  obtain ⟨h1, h3⟩ := b2 h1
  obtain ⟨h1, h2⟩ := b2 h1
  obtain rfl := bd h1
  obtain rfl := bd h4
  obtain ⟨g1, g2, g3⟩ := gl_ok G.sc h2
  refine ⟨⟨fun pins s σ H Q I h => ?_⟩, fun _ => rfl⟩
  refine attr_of rfl (ld_glob I g1 (G.fc.cls x (bd h3)).1 ?_ g2)
  cases hk : C.cvl x f with
  | none => rw [hk] at h; exact h.elim
  | some v =>
    rw [hk] at h
    obtain ⟨mc, u, c1, c2⟩ := G.fc.cvl x f v hk
    exact ClX.getcval_ok I c1 c2 fun s2 I2 => ⟨v, H, I2, c2.rel, h⟩
/-- a call of an own method by a built-in function -/
theorem snd_olen {a : I} (ha : Snd D C n a) : Snd D C n (.olen a) := fun X W S G => calmly rfl fun hS hck => snd_ofE (f := fun
      | .Call (.Name x _) [y] [] _ => decide (x = ("len" : Str)) && S.gl x && decide (x ∈ D.frees) && nst y && (chk D a S).e y
      | _ => false) rfl hck G.fc.hK fun x hx => by
  split at hx
  rotate_left
  · cases hx
  rename_i x p y pos
  obtain ⟨h1, h5⟩ := b2 hx
  obtain ⟨h1, h4⟩ := b2 h1
  obtain ⟨h1, h3⟩ := b2 h1
  obtain ⟨h1, h2⟩ := b2 h1
  obtain rfl := bd h1
  obtain ⟨g1, g2, g3⟩ := gl_ok G.sc h2
  have pa := ((ha X W S G).e y h5).1
  have hr := (G.calm hS).2
  refine ⟨⟨fun pins s σ H Q I h => ?_⟩, fun _ => rfl⟩
  refine wpAny_Call_Name_kw (ld_blt I g1 (G.fc.fr _ (bd h3)) (by decide +kernel : bootBuiltins "len" = some (.builtin "len")) ?_ g3 g2)
  refine PyProof.Rows.callWith_builtin1 ?_ (star_cons h4) rfl
  rw [star_cons h4]
  show wpAny _ _ (spliced ((false, eval y X.env) :: backTo pos (starEach [] X.env))) _ _ s
  refine Calls.spliced_cons (thn (pa.run pins s σ H _ I h) fun u s1 ⟨x, H1, I1, r1, q1⟩ => Calls.spliced_nil ?_)
  cases x with
  | ref p =>
    obtain ⟨cn, dx, fs, key, ea, em, q⟩ := q1
    obtain rfl : u = Value.ref p := r1
    obtain ⟨g, c1, c2, c3, F, _⟩ := G.fc.mth cn _ key em
    rw [← G.fc.hK] at ea
    obtain ⟨mA, O, _⟩ := ins_get I1.hok ea
    obtain ⟨od, J, _⟩ := O.look
    obtain ⟨m, hF⟩ := I1.fr
    refine PySem.W.len_K hF I1.ok.mod.kin J c2.at_ c2.fn ?_
    refine wpAny_call (codeAny_mono (F X.A.in1 X.stack s1 H1 [.ref p] [] [.ref p] [] _ (fun _ _ _ => False) (hr.mono (by omega : 5 * n + 1 + 1 ≤ 5 * n + 3)).in1 I1.env0.in1 (.cons rfl .nil) .nil rfl q) fun r s' hq => ?_)
    cases r with
    | error er =>
      obtain ⟨_, _, _, _, _, _, _, _, _, _, _, _, z⟩ := hq
      exact z.elim
    | ok fl =>
      cases fl with
      | ret u =>
        obtain ⟨v, H', I3, rv, q3⟩ := I1.after hq
        cases v with
        | int z =>
          obtain ⟨t, rfl⟩ := rv
          exact ⟨q3.1, .int z, H', I3.tok _, ⟨_, rfl⟩, q3.2⟩
        | _ => exact q3.elim
      | next | brk | cont => exact False.elim hq
  | _ => exact q1.elim
theorem snd_obool {a : I} (ha : Snd D C n a) : Snd D C n (.obool a) := fun X W S G => calmly rfl fun hS hck => snd_ofE (f := fun
      | .Call (.Name x _) [y] [] _ => decide (x = ("bool" : Str)) && S.gl x && decide (x ∈ D.frees) && nst y && (chk D a S).e y
      | _ => false) rfl hck G.fc.hK fun x hx => by
  split at hx
  rotate_left
  · cases hx
  rename_i x p y pos
  obtain ⟨h1, h5⟩ := b2 hx
  obtain ⟨h1, h4⟩ := b2 h1
  obtain ⟨h1, h3⟩ := b2 h1
  obtain ⟨h1, h2⟩ := b2 h1
  obtain rfl := bd h1
  obtain ⟨g1, g2, g3⟩ := gl_ok G.sc h2
  have pa := ((ha X W S G).e y h5).1
  have hr := (G.calm hS).2
  refine ⟨⟨fun pins s σ H Q I h => ?_⟩, fun _ => rfl⟩
  refine wpAny_Call_Name_kw (ld_blt I g1 (G.fc.fr _ (bd h3)) (by decide +kernel : bootBuiltins "bool" = some (.type "bool")) ?_ g3 g2)
  refine PyProof.Rows.callWith_type1 ?_ (star_cons h4) rfl
  rw [star_cons h4]
  show wpAny _ _ (spliced ((false, eval y X.env) :: backTo pos (starEach [] X.env))) _ _ s
  refine Calls.spliced_cons (thn (pa.run pins s σ H _ I h) fun u s1 ⟨x, H1, I1, r1, q1⟩ => Calls.spliced_nil ?_)
  cases x with
  | ref p =>
    obtain ⟨cn, dx, fs, key, ea, em, q⟩ := q1
    obtain rfl : u = Value.ref p := r1
    obtain ⟨g, c1, c2, c3, F, _⟩ := G.fc.mth cn _ key em
    rw [← G.fc.hK] at ea
    obtain ⟨mA, O, _⟩ := ins_get I1.hok ea
    obtain ⟨od, J, _⟩ := O.look
    obtain ⟨m, hF⟩ := I1.fr
    refine boolO_call hF I1.ok.mod.kin J c2.at_ c2.fn ?_
    refine wpAny_call (codeAny_mono (F X.A.in1.in1 X.stack s1 H1 [.ref p] [] [.ref p] [] _ (fun _ _ _ => False) (hr.mono (by omega : 5 * n + 1 + 1 + 1 ≤ 5 * n + 3)).in1.in1 I1.env0.in1.in1 (.cons rfl .nil) .nil rfl q) fun r s' hq => ?_)
    cases r with
    | error er =>
      obtain ⟨_, _, _, _, _, _, _, _, _, _, _, _, z⟩ := hq
      exact z.elim
    | ok fl =>
      cases fl with
      | ret u =>
        obtain ⟨v, H', I3, rv, q3⟩ := I1.after hq
        cases v with
        | bl z =>
          obtain rfl : u = Value.bool z := rv
          exact ⟨.bl z, H', I3, rfl, q3⟩
        | _ => exact q3.elim
      | next | brk | cont => exact False.elim hq
  | _ => exact q1.elim
end
end U

namespace U
open PySem PySem.Spec PyProof.Rows L2
section
variable {D : SD} {C : Ctx} {n : Nat} {X : Cx} {W : WX} {S : SC}
theorem ep_back {pins : List (Addr × Obj)} {σ : St} {Q : VK} {v : Value} {s : Shared} (h : EP X pins σ Q v s) : PySem.W.CmpBack (EP X pins σ Q) v s := by
  obtain ⟨x, H', I, rv, q⟩ := id h
  cases v <;> first | exact h | (cases x <;> first | (cases rv; done) | (obtain ⟨_, e⟩ := rv; cases e; done) | exact rv.elim)
/-- the operation at a place -/
theorem obin1 (G : Gd D C n X W S) (hS : S.calm = true) {op : Operator} {pins : List (Addr × Obj)} {s : Shared} {σ : St} {H : Hp} {x y : V} {v u : Value} {Q : VK} (I : Inv X pins σ H s) (rx : RelV x v) (ry : RelV y u)
    (h : rObin C (fun cls d H' => W cls d σ H') op x y H Q) :
    wpAny (model X.prog X.w) X.A (binaryOp1 op.info.2 v u) (fun r s' => ∃ z, r = some z ∧ EP X pins σ Q z s') X.xe s ∧ ∃ ta, PySem.W.Looks (model X.prog X.w) s.heap (typeOf v) ta ∧ PySem.W.Looks (model X.prog X.w) s.heap (fillsInplaceSlot ta op.info.2 (op == .Add)) false := by
  have hr := (G.calm hS).2
  rcases h with ⟨p, cn, dx, fs, key, rfl, ea, eo, em, hy, q⟩ | ⟨p, cn, dx, fs, key, i, rfl, rfl, ea, eo, em, q⟩
  · obtain rfl : v = Value.ref p := rx
    obtain ⟨g, c1, c2, c3, F, _⟩ := G.fc.mth cn _ key em
    have O := G.fc.opr cn op eo
    rw [← G.fc.hK] at ea
    obtain ⟨mA, J0, _⟩ := ins_get I.hok ea
    obtain ⟨od, J, _⟩ := J0.look
    obtain ⟨f2, hrev⟩ := O.rev
    obtain ⟨cd, hcd, hmro⟩ := PySem.W.any_some O.ipC
    refine ⟨?_, _, J.type, noInp I.kIn hcd hmro⟩
    have cal : wpAny (model X.prog X.w) X.A (call (.ref g) [.ref p, u]) (PySem.W.CmpBack (EP X pins σ Q)) X.xe s :=
      thn (runA F (hr.mono (by omega : 5 * n + 1 ≤ 5 * n + 3)) G.tk I (vs := [.ref p, y]) (zs := []) (us := [.ref p, u]) (ws := []) (.cons rfl (.cons ry .nil)) .nil rfl q) fun z s' hz => ep_back hz
    rcases hy with ⟨i, rfl⟩ | ⟨q', dy, gs, rfl, eb⟩
    · obtain ⟨t, rfl⟩ := ry
      obtain ⟨fo, h1⟩ := Option.isSome_iff_exists.mp O.i1
      obtain ⟨ro, h2⟩ := Option.isSome_iff_exists.mp O.i2
      exact bin1_T (T := "int") I.kIn J rfl O.first c2.at_ c2.fn hrev (.inr ⟨_, rfl⟩) h1 h2 O.sub cal
    · obtain rfl : u = Value.ref q' := ry
      rw [← G.fc.hK] at eb
      obtain ⟨mB, J0', _⟩ := ins_get I.hok eb
      obtain ⟨od', J', _⟩ := J0'.look
      exact bin1_same I.kIn J J' O.first c2.at_ c2.fn cal
  · obtain ⟨t, rfl⟩ := rx
    obtain rfl : u = Value.ref p := ry
    obtain ⟨g, c1, c2, c3, F, _⟩ := G.fc.mth cn _ key em
    have O := G.fc.opr cn op eo
    rw [← G.fc.hK] at ea
    obtain ⟨mA, J0, _⟩ := ins_get I.hok ea
    obtain ⟨od, J, _⟩ := J0.look
    obtain ⟨f1, hfwd⟩ := O.fwd
    obtain ⟨fo, h1⟩ := Option.isSome_iff_exists.mp O.i1
    obtain ⟨ro, h2⟩ := Option.isSome_iff_exists.mp O.i2
    refine ⟨?_, .type "int", PySem.W.Looks.of_pure rfl, ?_⟩
    · exact bin1_rev I.kIn J O.first hfwd c2.at_ c2.fn h1 h2 O.bus (fun {R} hR => int_declines O.bit J0.obj hR)
        (thn (runA F (hr.mono (by omega : 5 * n + 1 ≤ 5 * n + 3)) G.tk I (vs := [.ref p, .int i]) (zs := []) (us := [.ref p, .int i t]) (ws := []) (.cons rfl (.cons ⟨t, rfl⟩ .nil)) .nil rfl q) fun z s' hz => ep_back hz)
    · have L1 : PySem.W.Looks (model X.prog X.w) s.heap (typeLookup (.type "int") (dunderI op.info.2)) none := PySem.W.looks_findIn I.kIn O.ipI
      unfold fillsInplaceSlot
      exact L1.andThen .now
theorem snd_obin (op : Operator) {a b : I} (ha : Snd D C n a) (hb : Snd D C n b) : Snd D C n (.obin op a b) := fun X W S G => calmly rfl fun hS hck => snd_ofE (f := fun
      | .BinOp x op' y _ => decide (op = op') && (chk D a S).e x && (chk D b S).e y
      | _ => false) rfl hck G.fc.hK fun x hx => by
  split at hx
  rotate_left
  · cases hx
  obtain ⟨h1, h3⟩ := b2 hx
  obtain ⟨h1, h2⟩ := b2 h1
  obtain rfl := bd h1
  refine ⟨⟨fun pins s σ H Q I h => ?_⟩, fun _ => rfl⟩
  exact wpAny_BinOp (binT ((ha X W S G).e _ h2).1 ((hb X W S G).e _ h3).1 I h fun v u s2 x y H2 I2 rx ry q => bin_of (obin1 G hS I2 rx ry q).1)
theorem snd_oinv {a : I} (ha : Snd D C n a) : Snd D C n (.oinv a) := fun X W S G => calmly rfl fun hS hck => snd_ofE (f := fun
      | .UnaryOp op' x _ => decide (op' = .Invert) && (chk D a S).e x
      | _ => false) rfl hck G.fc.hK fun x hx => by
  split at hx
  rotate_left
  · cases hx
  obtain ⟨h1, h2⟩ := b2 hx
  obtain rfl := bd h1
  have hr := (G.calm hS).2
  refine ⟨⟨fun pins s σ H Q I h => ?_⟩, fun _ => rfl⟩
  refine UnaryOp_ (thn (((ha X W S G).e _ h2).1.run pins s σ H _ I h) fun v s1 ⟨x, H1, I1, r1, q1⟩ => ?_)
  cases x with
  | ref p =>
    obtain ⟨cn, dx, fs, key, ea, em, q⟩ := q1
    obtain rfl : v = Value.ref p := r1
    obtain ⟨g, c1, c2, c3, F, _⟩ := G.fc.mth cn _ key em
    rw [← G.fc.hK] at ea
    obtain ⟨mA, O, _⟩ := ins_get I1.hok ea
    obtain ⟨od, J, _⟩ := O.look
    obtain ⟨m, hF⟩ := I1.fr
    exact PySem.W.ksp_inv hF I1.ok.mod.kin J c2.at_ c2.fn (runA F (hr.mono (by omega : 5 * n + 1 ≤ 5 * n + 3)) G.tk I1 (vs := [.ref p]) (zs := []) (us := [.ref p]) (ws := []) (.cons rfl .nil) .nil rfl q)
  | _ => exact q1.elim
/-- x in an own object -/
theorem op_oin (G : Gd D C n X W S) (hS : S.calm = true) : OpR X (compareOp .In) (rOin C) := by
  intro pins s σ H x y v u Q I rx ry h
  have hr := (G.calm hS).2
  cases y with
  | ref p =>
    obtain ⟨cn, dx, fs, key, ea, em, q⟩ := h
    obtain rfl : u = Value.ref p := ry
    obtain ⟨g, c1, c2, c3, F, _⟩ := G.fc.mth cn _ key em
    rw [← G.fc.hK] at ea
    obtain ⟨mA, O, _⟩ := ins_get I.hok ea
    obtain ⟨od, J, _⟩ := O.look
    obtain ⟨m, hF⟩ := I.fr
    refine PySem.W.in_K hF I.ok.mod.kin J c2.at_ c2.fn (wpAny_call (codeAny_mono (F X.A X.stack s H [.ref p, v] [] [.ref p, x] [] _ (fun _ _ _ => False) (hr.mono (by omega : 5 * n + 1 ≤ 5 * n + 3)) I.env0 (.cons rfl (.cons rx .nil)) .nil rfl q) fun r s' hq => ?_))
    cases r with
    | error er =>
      obtain ⟨_, _, _, _, _, _, _, _, _, _, _, _, z⟩ := hq
      exact z.elim
    | ok fl =>
      cases fl with
      | ret u' =>
        obtain ⟨z, H', I3, rv, q3⟩ := I.after hq
        cases z with
        | bl z =>
          obtain rfl : u' = Value.bool z := rv
          exact wpAny_truthy_bool ⟨.bl z, H', I3, rfl, q3⟩
        | _ => exact q3.elim
      | next | brk | cont => exact False.elim hq
  | _ => exact h.elim
theorem snd_oin {a b : I} (ha : Snd D C n a) (hb : Snd D C n b) : Snd D C n (.oin a b) := fun X W S G => calmly rfl fun hS hck => snd_ofET (f := fun
      | .Compare x ops ys _ => (match ops, ys with
        | [op'], [y] => decide (op' = .In) && !behindInMarks .In y && (chk D a S).e x && (chk D b S).e y
        | _, _ => false)
      | _ => false) rfl hck fun x hx => by
  cases x <;> first | (cases hx; done) | skip
  rename_i x ops ys pos
  rcases ops with _ | ⟨op', _ | ⟨op2, ops⟩⟩ <;> first | (cases hx; done) | skip
  rcases ys with _ | ⟨y, _ | ⟨y2, ys⟩⟩ <;> first | (cases hx; done) | skip
  obtain ⟨h1, h4⟩ := b2 (show (decide (op' = .In) && !behindInMarks .In y && (chk D a S).e x && (chk D b S).e y) = true from hx)
  obtain ⟨h1, h3⟩ := b2 h1
  obtain ⟨h1, h2⟩ := b2 h1
  obtain rfl := bd h1
  exact ⟨pe_cmpR (op_oin G hS) ((ha X W S G).e x h3).1 ((hb X W S G).e y h4).1 (bn h2), pt_bl (op_oin G hS) ((ha X W S G).e x h3).1 ((hb X W S G).e y h4).1 (bn h2)⟩
theorem snd_oaug (i : Nat) (op : Operator) {e : I} (he : Snd D C n e) : Snd D C n (.oaug i op e) := fun X W S G => calmly rfl fun hS hck => snd_ofS (f := fun
      | .AugAssign (.Name x _) op' y _ => decide (op = op') && decide (S.N[i]? = some x) && decide (S.sc.names.lookup x = some .local) && (chk D e S).e y
      | _ => false) rfl hck fun x hx => by
  split at hx
  rotate_left
  · cases hx
  rename_i x p op' y pos
  obtain ⟨h1, h4⟩ := b2 hx
  obtain ⟨h1, h3⟩ := b2 h1
  obtain ⟨h1, h2⟩ := b2 h1
  obtain rfl := bd h1
  have hi : X.N[i]? = some x := by rw [G.hN]; exact bd h2
  have hN : X.N.Nodup := by rw [G.hN]; exact G.nd
  have hx' : X.env.scope.names.lookup x = some .local := by rw [G.sc]; exact bd h3
  refine ⟨fun pins s σ H D' I h => ?_⟩
  obtain ⟨v, e1, h⟩ := h
  obtain ⟨m, hn, hl⟩ := I.loc
  obtain ⟨u, r, l⟩ := hl i x v hi e1 (.inl hx')
  refine wpAny_AugAssign_Name ?_
  have go : wpAny (model X.prog X.w) X.A (eval y X.env) (fun w s₂ => wpAny (model X.prog X.w) X.A (inplaceOp op u w) (fun r s₃ => wpAny (model X.prog X.w) X.A (storeName X.env x r) (fun _ => SP X pins D' .next) X.xe s₃) X.xe s₂) X.xe s := by
    refine thn (((he X W S G).e y h4).1.run pins s σ H _ I h) fun w s1 ⟨y', H1, I1, r1, q1⟩ => ?_
    obtain ⟨b1, ta, b2', b3⟩ := obin1 G hS I1 r r1 q1
    refine thn (inp_of b2' b3 b1) fun z s2 ⟨zv, H2, I2, r2, q2⟩ => ?_
    exact store_ok I2 hN hi (.inl hx') r2 (fun s3 I3 => ⟨_, H2, I3, q2⟩) (.inr hx')
  rcases l with ⟨hk, hm⟩ | ⟨hk, c, hc, hcell⟩
  · exact wpAny_loadName_local I.ok.kind hk hn hm go
  · rcases hk with hk | hk
    · exact wpAny_loadName_cell I.ok.kind hk hc hcell go
    · have : X.env.scope.names.lookup x = some .free := hk
      rw [hx'] at this
      cases this
end
end U

namespace U
open PySem PySem.Spec PyProof.Rows L2
/-- a == b, b's class below a's: b's own method comes first -/
theorem cmp_first {prog : Program} {w : World} {A : Around} {E : Value → Shared → Prop} {s : Shared} {K : PySem.W.Frag} {x y C D f : Addr} {ox oy : Obj} {ocx ody : Option Obj} {op : CmpOp} {Q : Value → Shared → Prop} (hu : A.units < cLine) (X : K.In s.heap)
    (I : PySem.W.InstAt s.heap x ox C ocx) (J : PySem.W.InstAt s.heap y oy D ody) (hne : C ≠ D) (hsub : PySem.W.subIn K (.ref D) (.ref C) = some true)
    (hs : PySem.W.findIn K (.ref D) (cmpInfo op).2.2 = some (some (.ref f))) (hf : PySem.W.isFn K (.ref f) = true)
    (h : wpAny (model prog w) A (call (.ref f) [.ref y, .ref x]) (PySem.W.CmpBack Q) E s) : wpAny (model prog w) A (richCompare op (.ref x) (.ref y)) Q E s := by
  have one : wpAny (model prog w) A (tryCompare (.ref y) (cmpInfo op).2.2 (.ref x)) (fun r s' => ∃ v, r = some v ∧ Q v s') E s := by
    unfold tryCompare
    refine wpAny_bind (PySem.W.ifBound_K X J hs hf (wpAny_mono h (fun v s' hv => ?_) fun _ _ e => e))
    cases v <;> first | exact hv.elim | exact wpAny_pure ⟨_, rfl, hv⟩
  unfold richCompare
  simp only [oneThing_ref]
  refine wpAny_holding (wpAny_bind (wpAny_cRoomFor hu ?_))
  refine wpAny_bind (I.type.here (wpAny_bind (J.type.here ?_)))
  split
  · refine wpAny_bind ((PySem.W.looks_subIn X hsub).here ?_)
    simp only [if_true]
    refine wpAny_bind (wpAny_mono one (fun r s' z => ?_) fun _ _ e => e)
    obtain ⟨v, rfl, hq⟩ := z
    exact wpAny_bind (wpAny_rule (wpAny_pure hq))
  · rename_i q
    exact absurd (by simpa using q) hne
section
variable {D : SD} {C : Ctx} {n : Nat}
theorem op_oeqs {X : Cx} {W : WX} {S : SC} (G : Gd D C n X W S) (hS : S.calm = true) : OpR X (compareOp .Eq) (rOeqs C) := by
  intro pins s σ H x y v u Q I rx ry h
  obtain ⟨p, cn, dx, fs, q, cn', dy, gs, rfl, rfl, ep, eq, h⟩ := h
  obtain rfl : v = Value.ref p := rx
  obtain rfl : u = Value.ref q := ry
  rw [← G.fc.hK] at ep eq
  obtain ⟨mA, O, _⟩ := ins_get I.hok ep
  obtain ⟨od, J, _⟩ := O.look
  obtain ⟨mB, O', _⟩ := ins_get I.hok eq
  obtain ⟨od', J', _⟩ := O'.look
  obtain ⟨m, hF⟩ := I.fr
  rcases h with ⟨hs, key, em, k⟩ | ⟨hs, key, em, k⟩
  · obtain ⟨h1, h2⟩ := G.fc.sub _ _ _ hs
    obtain ⟨g, c1, c2, c3, F, _⟩ := G.fc.mth cn _ key em
    refine PySem.W.cmp_K (op := .Eq) (tb := .ref (He.ga X.K cn')) (by have := G.un; omega) hF I.ok.mod.kin J J'.type (by unfold PySem.W.notFirst; rw [h1]; simp) c2.at_ c2.fn (wpAny_mono (eq_back G (room1 G hS) I I.env0 (y := .ref q) (u := .ref q) rfl F (Q' := fun k H' => Q (.bl k) H') k) (fun v s' ⟨k, H', hv, I', q'⟩ => ?_) fun _ _ e => e)
    subst hv
    exact ⟨.bl k, H', I', rfl, q'⟩
  · obtain ⟨h1, h2⟩ := G.fc.sub _ _ _ hs
    obtain ⟨g, c1, c2, c3, F, _⟩ := G.fc.mth cn' _ key em
    refine cmp_first (op := .Eq) (by have := G.un; omega) I.kIn J J' h2 h1 c2.at_ c2.fn (wpAny_mono (eq_back G (room1 G hS) I I.env0 (y := .ref p) (u := .ref p) rfl F (Q' := fun k H' => Q (.bl k) H') k) (fun v s' ⟨k, H', hv, I', q'⟩ => ?_) fun _ _ e => e)
    subst hv
    exact ⟨.bl k, H', I', rfl, q'⟩
theorem snd_oeqs {a b : I} (ha : Snd D C n a) (hb : Snd D C n b) : Snd D C n (.oeqs a b) := fun X W S G => calmly rfl fun hS hck => snd_ofET (f := fun
      | .Compare x ops ys _ => (match ops, ys with
        | [op'], [y] => decide (op' = .Eq) && !behindInMarks .Eq y && (chk D a S).e x && (chk D b S).e y
        | _, _ => false)
      | _ => false) rfl hck fun x hx => by
  cases x <;> first | (cases hx; done) | skip
  rename_i x ops ys pos
  rcases ops with _ | ⟨op', _ | ⟨op2, ops⟩⟩ <;> first | (cases hx; done) | skip
  rcases ys with _ | ⟨y, _ | ⟨y2, ys⟩⟩ <;> first | (cases hx; done) | skip
  obtain ⟨h1, h4⟩ := b2 (show (decide (op' = .Eq) && !behindInMarks .Eq y && (chk D a S).e x && (chk D b S).e y) = true from hx)
  obtain ⟨h1, h3⟩ := b2 h1
  obtain ⟨h1, h2⟩ := b2 h1
  obtain rfl := bd h1
  exact ⟨pe_cmpR (op_oeqs G hS) ((ha X W S G).e x h3).1 ((hb X W S G).e y h4).1 (bn h2), pt_bl (op_oeqs G hS) ((ha X W S G).e x h3).1 ((hb X W S G).e y h4).1 (bn h2)⟩
theorem snd_rev {a : I} (ha : Snd D C n a) : Snd D C n (.rev a) := fun X W S G => snd_ofE (f := fun
      | .Subscript x (.Slice none none (some (.UnaryOp .USub (.Constant (.int 1) _ _) _)) _) _ => (chk D a S).e x
      | _ => false) rfl rfl G.fc.hK fun x hx => by
  split at hx
  rotate_left
  · cases hx
  refine ⟨?_, fun _ => rfl⟩
  rw [← G.fc.hK]
  exact pe_revL ((ha X W S G).e _ hx).1
theorem snd_rgl {t : Bool} {a : I} (ha : Snd D C n a) : Snd D C n (.rgl t a) := fun X W S G => calmly rfl fun hS hck => snd_ofE (f := fun
      | .Call (.Name x _) [.Call (.Name y _) [z] [] _] [] _ => decide (x = (if t then ("tuple" : Str) else ("list" : Str))) && S.gl x && decide (x ∈ D.frees) && decide (y = ("range" : Str)) && S.gl y && decide (y ∈ D.frees) && nst z && (chk D a S).e z
      | _ => false) rfl hck G.fc.hK fun x hx => by
  split at hx
  rotate_left
  · cases hx
  rename_i x p1 y p2 z p3 p4
  obtain ⟨h1, h8⟩ := b2 hx
  obtain ⟨h1, h7⟩ := b2 h1
  obtain ⟨h1, h6⟩ := b2 h1
  obtain ⟨h1, h5⟩ := b2 h1
  obtain ⟨h1, h4⟩ := b2 h1
  obtain ⟨h1, h3⟩ := b2 h1
  obtain ⟨h1, h2⟩ := b2 h1
  have e1 := bd h1
  obtain rfl := bd h4
  obtain ⟨g1, g2, g3⟩ := gl_ok G.sc h2
  obtain ⟨k1, k2, k3⟩ := gl_ok G.sc h5
  have hc := (G.calm hS).1
  have pr := prg_1 (p := p2) (pos := p3) k1 (G.fc.fr _ (bd h6)) ((ha X W S G).e z h8).1 (star_cons h7)
  refine ⟨⟨fun pins s σ H Q I h => ?_⟩, fun _ => rfl⟩
  cases t with
  | false =>
    obtain rfl := e1
    exact (pe_listRg hc g1 (G.fc.fr _ (bd h3)) pr).run pins s σ H Q I h
  | true =>
    obtain rfl := e1
    exact (pe_tupRg hc g1 (G.fc.fr _ (bd h3)) pr).run pins s σ H Q I h
end
end U

namespace U
open PySem PySem.Spec PyProof.Rows L2
section
variable {D : SD} {C : Ctx} {n : Nat}
theorem snd_no {i : I} (h : ∀ S, chk D i S = {}) : Snd D C n i := fun X W S G => by
  refine ⟨fun x hx => ?_, fun xs hx => ?_, fun xs hx => ?_, fun x hx => ?_, fun x hx => ?_, fun x hx => ?_, fun x hx => ?_, fun tg x hx => ?_, fun ps ks vs hx => ?_, fun x hx => ?_⟩
  all_goals (rw [h S] at hx; cases hx)
theorem snd_setE {i : Nat} {e : I} (h : ∀ own elt tg it b c, e ≠ .lc own elt tg it b c) : Snd D C n (.setLc i e) := fun X W S G => calmly rfl fun hS hck => snd_ofS (f := fun
      | .Assign [.Name y py] x _ => (match x with
        | .ListComp _ [_] sc pos => decide (S.N[i]? = some y) && decide (S.sc.names.lookup y = some .local) && (py.line == pos.line) && !(sc.names.any fun (n, k) => n == y && (k == .local || k == .cell))
        | _ => false) && (chk D e S).e x
      | _ => false) rfl hck fun x hx => by
  split at hx
  rotate_left
  · cases hx
  rename_i y py x pos
  obtain ⟨k1, k2⟩ := b2 hx
  split at k1
  rotate_left
  · cases k1
  cases e <;> first | (cases k2; done) | (exact absurd rfl (h _ _ _ _ _ _)) | (obtain ⟨sN, ssc, stp, sc, slm⟩ := S; cases sc <;> cases stp <;> cases slm <;> cases k2)
def SndP (D : SD) (C : Ctx) (n : Nat) (i : I) : Prop := Snd D C n i ∧ ∀ own elt tg it b c, i = .lc own elt tg it b c → Snd D C n elt ∧ Snd D C n tg ∧ Snd D C n it ∧ Snd D C n c
theorem snd_all (i : I) : SndP D C n i := by
  induction i with
  | lc own elt tg it b c h1 h2 h3 h4 => exact ⟨snd_lc own b h1.1 h2.1 h3.1 h4.1, fun _ _ _ _ _ _ e => by cases e; exact ⟨h1.1, h2.1, h3.1, h4.1⟩⟩
  | setLc i e h =>
    refine ⟨?_, fun _ _ _ _ _ _ e => nomatch e⟩
    by_cases hl : ∃ own elt tg it b c, e = .lc own elt tg it b c
    · obtain ⟨own, elt, tg, it, b, c, rfl⟩ := hl
      obtain ⟨h1, h2, h3, h4⟩ := h.2 _ _ _ _ _ _ rfl
      exact snd_setLc i own b h1 h2 h3 h4
    · exact snd_setE fun own elt tg it b c e => hl ⟨own, elt, tg, it, b, c, e⟩
  | k v => exact ⟨snd_k v, fun _ _ _ _ _ _ e => nomatch e⟩
  | v i => exact ⟨snd_v i, fun _ _ _ _ _ _ e => nomatch e⟩
  | g x => exact ⟨snd_g x, fun _ _ _ _ _ _ e => nomatch e⟩
  | bop op a b h1 h2 => exact ⟨snd_bop op h1.1 h2.1, fun _ _ _ _ _ _ e => nomatch e⟩
  | uop op a h1 => exact ⟨snd_uop op h1.1, fun _ _ _ _ _ _ e => nomatch e⟩
  | not a h1 => exact ⟨snd_not h1.1, fun _ _ _ _ _ _ e => nomatch e⟩
  | and a b h1 h2 => exact ⟨snd_and h1.1 h2.1, fun _ _ _ _ _ _ e => nomatch e⟩
  | or a b h1 h2 => exact ⟨snd_or h1.1 h2.1, fun _ _ _ _ _ _ e => nomatch e⟩
  | ite c a b h1 h2 h3 => exact ⟨snd_ite h1.1 h2.1 h3.1, fun _ _ _ _ _ _ e => nomatch e⟩
  | cmp op a b h1 h2 => exact ⟨snd_cmp op h1.1 h2.1, fun _ _ _ _ _ _ e => nomatch e⟩
  | cmp2 op op' a b c h1 h2 h3 => exact ⟨snd_cmp2 op op' h1.1 h2.1 h3.1, fun _ _ _ _ _ _ e => nomatch e⟩
  | lst a h1 => exact ⟨snd_lst h1.1, fun _ _ _ _ _ _ e => nomatch e⟩
  | tup a h1 => exact ⟨snd_tup h1.1, fun _ _ _ _ _ _ e => nomatch e⟩
  | dic a h1 => exact ⟨snd_dic h1.1, fun _ _ _ _ _ _ e => nomatch e⟩
  | call f a h1 => exact ⟨snd_call f h1.1, fun _ _ _ _ _ _ e => nomatch e⟩
  | mk f a h1 => exact ⟨snd_mk f h1.1, fun _ _ _ _ _ _ e => nomatch e⟩
  | bi f a h1 => exact ⟨snd_bi f h1.1, fun _ _ _ _ _ _ e => nomatch e⟩
  | isi a cs m h1 => exact ⟨snd_isi cs m h1.1, fun _ _ _ _ _ _ e => nomatch e⟩
  | meth o m a h1 h2 => exact ⟨snd_meth m h1.1 h2.1, fun _ _ _ _ _ _ e => nomatch e⟩
  | bm m o a h1 h2 => exact ⟨snd_bm m h1.1 h2.1, fun _ _ _ _ _ _ e => nomatch e⟩
  | icall o a ks zs h1 h2 h3 => exact ⟨snd_icall ks h1.1 h2.1 h3.1, fun _ _ _ _ _ _ e => nomatch e⟩
  | ostr a h1 => exact ⟨snd_ostr h1.1, fun _ _ _ _ _ _ e => nomatch e⟩
  | att o f h1 => exact ⟨snd_att f h1.1, fun _ _ _ _ _ _ e => nomatch e⟩
  | ix a b h1 h2 => exact ⟨snd_ix h1.1 h2.1, fun _ _ _ _ _ _ e => nomatch e⟩
  | sl o a b h1 h2 h3 => exact ⟨snd_sl h1.1 h2.1 h3.1, fun _ _ _ _ _ _ e => nomatch e⟩
  | nil => exact ⟨snd_nil, fun _ _ _ _ _ _ e => nomatch e⟩
  | cons a b h1 h2 => exact ⟨snd_cons h1.1 h2.1, fun _ _ _ _ _ _ e => nomatch e⟩
  | pair a b c h1 h2 h3 => exact ⟨snd_pair h1.1 h2.1 h3.1, fun _ _ _ _ _ _ e => nomatch e⟩
  | tupG a h1 => exact ⟨snd_tupG h1.1, fun _ _ _ _ _ _ e => nomatch e⟩
  | subG a b h1 h2 => exact ⟨snd_subG h1.1 h2.1, fun _ _ _ _ _ _ e => nomatch e⟩
  | attG a f h1 => exact ⟨snd_attG f h1.1, fun _ _ _ _ _ _ e => nomatch e⟩
  | itL a h1 => exact ⟨snd_itL h1.1, fun _ _ _ _ _ _ e => nomatch e⟩
  | itT a h1 => exact ⟨snd_itT h1.1, fun _ _ _ _ _ _ e => nomatch e⟩
  | itS a h1 => exact ⟨snd_itS h1.1, fun _ _ _ _ _ _ e => nomatch e⟩
  | itR1 a h1 => exact ⟨snd_itR1 h1.1, fun _ _ _ _ _ _ e => nomatch e⟩
  | itR2 a b h1 h2 => exact ⟨snd_itR2 h1.1 h2.1, fun _ _ _ _ _ _ e => nomatch e⟩
  | itE a h1 => exact ⟨snd_itE h1.1, fun _ _ _ _ _ _ e => nomatch e⟩
  | itES a h1 => exact ⟨snd_itES h1.1, fun _ _ _ _ _ _ e => nomatch e⟩
  | itET a h1 => exact ⟨snd_itET h1.1, fun _ _ _ _ _ _ e => nomatch e⟩
  | itZ a b h1 h2 => exact ⟨snd_itZ h1.1 h2.1, fun _ _ _ _ _ _ e => nomatch e⟩
  | set a b h1 h2 => exact ⟨snd_set h1.1 h2.1, fun _ _ _ _ _ _ e => nomatch e⟩
  | par i j a h1 => exact ⟨snd_par i j h1.1, fun _ _ _ _ _ _ e => nomatch e⟩
  | par3 i j l a h1 => exact ⟨snd_par3 i j l h1.1, fun _ _ _ _ _ _ e => nomatch e⟩
  | aug i op a h1 => exact ⟨snd_no fun _ => rfl, fun _ _ _ _ _ _ e => nomatch e⟩
  | expr a h1 => exact ⟨snd_expr h1.1, fun _ _ _ _ _ _ e => nomatch e⟩
  | ret a h1 => exact ⟨snd_ret h1.1, fun _ _ _ _ _ _ e => nomatch e⟩
  | retN => exact ⟨snd_retN, fun _ _ _ _ _ _ e => nomatch e⟩
  | if_ a b c h1 h2 h3 => exact ⟨snd_if h1.1 h2.1 h3.1, fun _ _ _ _ _ _ e => nomatch e⟩
  | while_ a b h1 h2 => exact ⟨snd_while h1.1 h2.1, fun _ _ _ _ _ _ e => nomatch e⟩
  | for_ a b c h1 h2 h3 => exact ⟨snd_for h1.1 h2.1 h3.1, fun _ _ _ _ _ _ e => nomatch e⟩
  | raise c a h1 => exact ⟨snd_raise c h1.1, fun _ _ _ _ _ _ e => nomatch e⟩
  | try_ c i b s h1 h2 => exact ⟨snd_try c i h1.1 h2.1, fun _ _ _ _ _ _ e => nomatch e⟩
  | eatt o f h1 => exact ⟨snd_eatt f h1.1, fun _ _ _ _ _ _ e => nomatch e⟩
  | eisi o c h1 => exact ⟨snd_eisi c h1.1, fun _ _ _ _ _ _ e => nomatch e⟩
  | lamc f b h1 => exact ⟨snd_lamc f h1.1, fun _ _ _ _ _ _ e => nomatch e⟩
  | act i => exact ⟨snd_act i, fun _ _ _ _ _ _ e => nomatch e⟩
  | methk o m a ks z h1 h2 h3 => exact ⟨snd_methk m ks h1.1 h2.1 h3.1, fun _ _ _ _ _ _ e => nomatch e⟩
  | smeth c m a ks z h1 h2 => exact ⟨snd_smeth c m ks h1.1 h2.1, fun _ _ _ _ _ _ e => nomatch e⟩
  | cmeth c m a ks z h1 h2 => exact ⟨snd_cmeth c m ks h1.1 h2.1, fun _ _ _ _ _ _ e => nomatch e⟩
  | mkv cs a b h1 h2 => exact ⟨snd_mkv cs h1.1 h2.1, fun _ _ _ _ _ _ e => nomatch e⟩
  | mkk c a ks z h1 h2 => exact ⟨snd_mkk c ks h1.1 h2.1, fun _ _ _ _ _ _ e => nomatch e⟩
  | one a b h1 h2 => exact ⟨snd_one h1.1 h2.1, fun _ _ _ _ _ _ e => nomatch e⟩
  | rep a h1 => exact ⟨snd_rep h1.1, fun _ _ _ _ _ _ e => nomatch e⟩
  | xcmp op a b h1 h2 => exact ⟨snd_xcmp op h1.1 h2.1, fun _ _ _ _ _ _ e => nomatch e⟩
  | obin op a b h1 h2 => exact ⟨snd_obin op h1.1 h2.1, fun _ _ _ _ _ _ e => nomatch e⟩
  | oinv a h1 => exact ⟨snd_oinv h1.1, fun _ _ _ _ _ _ e => nomatch e⟩
  | oin a b h1 h2 => exact ⟨snd_oin h1.1 h2.1, fun _ _ _ _ _ _ e => nomatch e⟩
  | oaug i op a h1 => exact ⟨snd_oaug i op h1.1, fun _ _ _ _ _ _ e => nomatch e⟩
  | rev a h1 => exact ⟨snd_rev h1.1, fun _ _ _ _ _ _ e => nomatch e⟩
  | rgl t a h1 => exact ⟨snd_rgl h1.1, fun _ _ _ _ _ _ e => nomatch e⟩
  | oeqs a b h1 h2 => exact ⟨snd_oeqs h1.1 h2.1, fun _ _ _ _ _ _ e => nomatch e⟩
  | olen a h1 => exact ⟨snd_olen h1.1, fun _ _ _ _ _ _ e => nomatch e⟩
  | obool a h1 => exact ⟨snd_obool h1.1, fun _ _ _ _ _ _ e => nomatch e⟩
  | cat c f => exact ⟨snd_cat c f, fun _ _ _ _ _ _ e => nomatch e⟩
  | fo3 a h1 => exact ⟨snd_fo3 h1.1, fun _ _ _ _ _ _ e => nomatch e⟩
  | unl a h1 => exact ⟨snd_unl h1.1, fun _ _ _ _ _ _ e => nomatch e⟩
  | fmt a h1 => exact ⟨snd_fmt h1.1, fun _ _ _ _ _ _ e => nomatch e⟩
  | joi a b c d e f g h i j h1 h2 h3 h4 h5 h6 h7 h8 h9 h10 => exact ⟨snd_joi h1.1 h2.1 h3.1 h4.1 h5.1 h6.1 h7.1 h8.1 h9.1 h10.1, fun _ _ _ _ _ _ e => nomatch e⟩
  | callk f a ks z h1 h2 => exact ⟨snd_callk f ks h1.1 h2.1, fun _ _ _ _ _ _ e => nomatch e⟩
  | oeq a b h1 h2 => exact ⟨snd_oeq h1.1 h2.1, fun _ _ _ _ _ _ e => nomatch e⟩
  | never => exact ⟨snd_never, fun _ _ _ _ _ _ e => nomatch e⟩
  | pass => exact ⟨snd_pass, fun _ _ _ _ _ _ e => nomatch e⟩
  | brk => exact ⟨snd_brk, fun _ _ _ _ _ _ e => nomatch e⟩
  | cont => exact ⟨snd_cont, fun _ _ _ _ _ _ e => nomatch e⟩
end
/-! ### the program's defs -/
/-- where a def stands: a name of the module, a method, a property's getter -/
inductive Pth where
  | glo (x : Str) | meth (c m : Str) | getr (c f : Str) | smt (c m : Str) | cmt (c m : Str)
  deriving DecidableEq
def Pth.ad (K : PySem.W.Frag) : Pth → Addr
  | .glo x => He.ga K x
  | .meth c m => He.ma K (He.ga K c) m
  | .getr c f => match PySem.W.recIn K (He.ma K (He.ga K c) f) "property" with
    | some (.ref g :: _) => g
    | _ => 0
  | .smt c f => match PySem.W.recIn K (He.ma K (He.ga K c) f) "staticmethod" with
    | some (.ref g :: _) => g
    | _ => 0
  | .cmt c f => match PySem.W.recIn K (He.ma K (He.ga K c) f) "classmethod" with
    | some (.ref g :: _) => g
    | _ => 0
/-- a def of the text, and how its body is read -/
structure DefI where
  key : Str
  at_ : Pth
  name : Str
  qual : Str
  st : Stmt
  N : List Str
  ps : List Str
  body : I
  lam : Bool := false
  star : Bool := false
  dvs : List V := []
/-- the values of all parameters: the defaults behind what is written -/
def DefI.fill (d : DefI) (vs : List V) : List V := vs ++ d.dvs.drop (vs.length + d.dvs.length - d.ps.length)
/-- the program: its defs, and what of the classes is known -/
structure Pg where
  defs : List DefI
  sd : SD
  gv : PySem.W.Frag → Str → Option V
  tabs : List KTab
  mth : Str → Str → Option Str
  prp : Str → Str → Option Str
  fld : Str → Str → Bool
  isi : Str → CR → Option Bool
  xf : Str → Option (List Str)
  kwo : Str → Nat → List Str → Option (List Nat)
  exm : Str → Str → Option Bool
  eis : Str → CR → Option Bool
  smt : Str → Str → Option Str
  cmt : Str → Str → Option Str
  cvl : Str → Str → Option V
  opr : Str → Operator → Bool
  sub : Str → Str → Option Bool
/-- a def's code object, its table, its lambdas' name -/
def codeA (K : PySem.W.Frag) (d : DefI) : Addr := match K.lookup (d.at_.ad K) with
  | some ⟨_, _, .func fd, _⟩ => (match fd.code with
    | .ref c => c
    | _ => 0)
  | _ => 0
def tabA (K : PySem.W.Frag) (d : DefI) : Addr := He.tabOf K (codeA K d)
def DefI.lq (d : DefI) : Str := d.qual ++ ".<locals>." ++ "<lambda>"
def Pg.lt (p : Pg) (K : PySem.W.Frag) : List (Addr × Str) := (p.defs.filter (·.lam)).map fun d => (tabA K d, d.lq)
def Pg.find (p : Pg) (key : Str) : Option DefI := p.defs.find? fun d => d.key == key
def Pg.dfl (p : Pg) (key : Str) : List V := match p.find key with
  | some d => d.dvs
  | none => []
def Pg.ctx0 (p : Pg) (K : PySem.W.Frag) (w : World) (fn : Str → Sp) (L : Option LamT) : Ctx := ⟨K, w, fn, p.gv K, p.tabs, p.mth, p.prp, p.fld, p.isi, p.xf, p.kwo, p.exm, p.eis, p.lt K, fun _ _ _ _ => False, L, p.smt, p.cmt, p.cvl, p.opr, p.sub, p.dfl⟩
/-- what a def makes of the lambda tl that it gets -/
def Pg.lrun (p : Pg) (K : PySem.W.Frag) (w : World) (fn : Str → Sp) (x : Str) (tl : XK → Hp → VK → Prop) (H : Hp) (Q : VK) : Prop := match p.find x with
  | none => False
  | some d => ∀ f c q, H c = some (LamX.CodeO c q) → (rd (p.ctx0 K w fn (some ⟨f, c, q, 0, tl⟩)) d.body noW).s { nx := fun _ H' => Q .non H', rt := Q } (start d.N [.ref f]) H
def Pg.ctx (p : Pg) (K : PySem.W.Frag) (w : World) (fn : Str → Sp) : Ctx := ⟨K, w, fn, p.gv K, p.tabs, p.mth, p.prp, p.fld, p.isi, p.xf, p.kwo, p.exm, p.eis, p.lt K, p.lrun K w fn, none, p.smt, p.cmt, p.cvl, p.opr, p.sub, p.dfl⟩
def stepP (p : Pg) (K : PySem.W.Frag) (w : World) (fn : Str → Sp) (key : Str) : Sp := fun vs H Q E => match p.find key with
    | none => False
    | some d => match d.star with
      | false => (d.fill vs).length = d.ps.length ∧ (rd (p.ctx K w fn) d.body fun cls dd _ H' => E cls dd H').s { nx := fun _ H' => Q .non H', rt := Q } (start d.N (d.fill vs)) H
      | true => ∃ ws rest, vs = ws ++ rest ∧ ws.length + 1 = d.ps.length ∧ rest.length ≤ sizeLine ∧ ∀ t, H t = none → (rd (p.ctx K w fn) d.body fun cls dd _ H' => E cls dd H').s { nx := fun _ H' => Q .non H', rt := Q } (start d.N (ws ++ [.ref t])) (upd H t (.tup rest))
/-- what a def promises: what its own text says, n calls deep at most -/
@[irreducible] def run (p : Pg) (K : PySem.W.Frag) (w : World) (n : Nat) : Str → Sp := Nat.rec (fun _ _ _ _ _ => False) (fun _ ih => stepP p K w ih) n
theorem run_succ (p : Pg) (K : PySem.W.Frag) (w : World) (n : Nat) : run p K w (n + 1) = stepP p K w (run p K w n) := by
  unfold run
  rfl
theorem run_zero (p : Pg) (K : PySem.W.Frag) (w : World) : run p K w 0 = fun _ _ _ _ _ => False := by
  unfold run
  rfl
theorem run_of {p : Pg} {K : PySem.W.Frag} {w : World} {n : Nat} {key : Str} {d : DefI} (h : p.find key = some d) (hs : d.star = false) {vs : List V} {H : Hp} {Q : VK} {E : XK} (hl : (d.fill vs).length = d.ps.length)
    (hb : (rd (p.ctx K w (run p K w n)) d.body fun cls dd _ H' => E cls dd H').s { nx := fun _ H' => Q .non H', rt := Q } (start d.N (d.fill vs)) H) : run p K w (n + 1) key vs H Q E := by
  rw [run_succ]
  unfold stepP
  rw [h]
  dsimp only
  rw [hs]
  exact ⟨hl, hb⟩
theorem run_ofS {p : Pg} {K : PySem.W.Frag} {w : World} {n : Nat} {key : Str} {d : DefI} (h : p.find key = some d) (hs : d.star = true) {ws rest : List V} {H : Hp} {Q : VK} {E : XK} (hl : ws.length + 1 = d.ps.length) (hr : rest.length ≤ sizeLine)
    (hb : ∀ t, H t = none → (rd (p.ctx K w (run p K w n)) d.body fun cls dd _ H' => E cls dd H').s { nx := fun _ H' => Q .non H', rt := Q } (start d.N (ws ++ [.ref t])) (upd H t (.tup rest))) : run p K w (n + 1) key (ws ++ rest) H Q E := by
  rw [run_succ]
  unfold stepP
  rw [h]
  dsimp only
  rw [hs]
  exact ⟨ws, rest, rfl, hl, hr, hb⟩
/-- a def whose last parameter takes what is left over -/
def StarB (d : DefI) : Prop := d.dvs = [] ∧ ∀ (kV doc pm : Value) (an : Option Addr) (cdv ct : Value), ∃ ps pv, d.ps = ps ++ [pv] ∧ ∀ us rest : List Value, us.length = ps.length →
  bindArgs (PySem.W.fnOf d.name d.qual (defArgs d.st) (defBody d.st) (defScope d.st) .none kV doc pm an cdv ct) ⟨us ++ rest, []⟩ = (newTuple rest >>= fun t => pure (ps.zip us ++ [(pv, t)]))
/-- what binding gives: r, from the defaults' values its -/
inductive BindE (d : DefI) (args : Args) (its : List Value) (r : List (Str × Value)) : Prop
  | nil (h : d.dvs = []) (e : ∀ (kV doc pm : Value) (an : Option Addr) (cdv ct : Value), bindArgs (PySem.W.fnOf d.name d.qual (defArgs d.st) (defBody d.st) (defScope d.st) .none kV doc pm an cdv ct) args = pure r)
  | one (h : d.dvs ≠ []) (e : ∀ (T : Addr) (kV doc pm : Value) (an : Option Addr) (cdv ct : Value), ∃ k, bindArgs (PySem.W.fnOf d.name d.qual (defArgs d.st) (defBody d.st) (defScope d.st) (.ref T) kV doc pm an cdv ct) args = seqItems? (.ref T) >>= k ∧ k (some its.toArray) = pure r)
theorem bindE_of {K : PySem.W.Frag} {d : DefI} {fd : FuncData} (F : FunD K d.name d.qual (defArgs d.st) (defBody d.st) (defScope d.st) d.dvs [] (d.at_.ad K) fd) : ∃ its : List Value, Vals d.dvs its ∧ ∀ (s : Shared) (args : Args) (r : List (Str × Value)), K.In s.heap → BindE d args its r → BindsTo s fd args r := by
  obtain ⟨oc, od, dV, kV, doc, pm, an, cdv, ct, osl, rfl, lk, hcd, hD, hK⟩ := F.ex
  rcases hD with ⟨e, rfl⟩ | ⟨hne, T, o, its, m, rfl, lT, oT, rT⟩
  · refine ⟨[], by rw [e]; exact .nil, fun s args r KX B => ?_⟩
    cases B with
    | nil _ e2 => exact .of_eq (e2 kV doc pm an cdv ct)
    | one h _ => exact absurd e h
  · refine ⟨its, rT, fun s args r KX B => ?_⟩
    cases B with
    | nil h _ => exact absurd h hne
    | one _ e2 =>
      obtain ⟨k, q1, q2⟩ := e2 T kV doc pm an cdv ct
      refine BindsTo.of_looks fun M => ?_
      rw [q1]
      exact looks_items KX lT oT (.of_pure q2)
/-- what must be shown of the program's tables -/
structure PgOk (p : Pg) (P : Program) (w : World) (K : PySem.W.Frag) (mg : Str → Option Value) : Prop where
  defs : ∀ d ∈ p.defs, (∃ fd, FunD K d.name d.qual (defArgs d.st) (defBody d.st) (defScope d.st) d.dvs [] (d.at_.ad K) fd ∧ (d.star = false → Binds K fd d.ps [] ∧ ∃ its, Vals d.dvs its ∧ ∀ (s : Shared) (us : List Value), K.In s.heap → (us ++ its.drop (us.length + d.dvs.length - d.ps.length)).length = d.ps.length → BindsTo s fd ⟨us, []⟩ (d.ps.zip (us ++ its.drop (us.length + d.dvs.length - d.ps.length)))) ∧ (d.star = true → StarB d) ∧
      ∀ l ks ord, p.kwo d.key l ks = some ord → d.star = false ∧ ord.length = d.ps.length ∧ ∃ its, Vals d.dvs its ∧ ∀ (s : Shared) (us ws : List Value) , K.In s.heap → us.length = l → ws.length = ks.length → ∃ ts, ord.mapM (fun i => (us ++ (ws ++ its))[i]?) = some ts ∧ BindsTo s fd ⟨us, ks.zip ws⟩ (d.ps.zip ts)) ∧
    FnScope d.N d.ps (defScope d.st) ∧ (chk p.sd d.body ⟨d.N, defScope d.st, true, true, d.lam⟩).ss (defBody d.st) = true
  kg : KGood K w p.tabs
  fr : ∀ x ∈ p.sd.frees, mg x = none
  gl : ∀ x ∈ p.sd.globs, ∃ v u, p.gv K x = some v ∧ mg x = some u ∧ RelV v u
  fn : ∀ x ∈ p.sd.fns, mg x = some (.ref (He.ga K x)) ∧ ∃ d, p.find x = some d ∧ d.at_ = .glo x
  cls : ∀ c ∈ p.sd.clss, mg c = some (.ref (He.ga K c)) ∧ (∀ t ∈ ["NoneType", "bool", "int", "str", "list", "tuple", "dict"], PySem.W.kitOne K (.type t) (.ref (He.ga K c)) = some false)
  mks : ∀ c ∈ p.sd.mks, mg c = some (.ref (He.ga K c)) ∧ PySem.W.makesIn K (He.ga K c) = true ∧ PySem.W.keepIn K (.ref (He.ga K c)) = true
  err : ∀ c ∈ p.sd.errs, ∃ fs fI, p.xf c = some fs ∧ mg c = some (.ref (He.ga K c)) ∧ ErrI P K mg (He.ga K c) fI fs
  smt : ∀ c m key, p.smt c m = some key → ∃ d mc q rest, p.find key = some d ∧ ClX.CRead K (He.ga K c) mc ∧ PySem.W.findCls K (.ref (He.ga K c)) mc m = some (.get (.builtin "staticmethod.__get__") (.ref q) .none (.ref (He.ga K c))) ∧ PySem.W.recIn K q "staticmethod" = some (.ref (d.at_.ad K) :: rest)
  cmt : ∀ c m key, p.cmt c m = some key → ∃ d mc q, p.find key = some d ∧ ClX.CRead K (He.ga K c) mc ∧ ClX.CMet K (He.ga K c) mc m q (d.at_.ad K)
  opr : ∀ c op, p.opr c op = true → OprF K (He.ga K c) op
  sub : ∀ c' c b, p.sub c' c = some b → PySem.W.subIn K (.ref (He.ga K c')) (.ref (He.ga K c)) = some b ∧ He.ga K c ≠ He.ga K c'
  cvl : ∀ c f v, p.cvl c f = some v → ∃ mc u, ClX.CRead K (He.ga K c) mc ∧ ClX.CVal K (He.ga K c) mc f v u
  eqc : ∀ c key, p.mth c "__eq__" = some key → ∀ t ∈ ["NoneType", "bool", "int", "str", "list", "tuple", "dict"], PySem.W.subIn K (.type t) (.ref (He.ga K c)) = some false
  nec : ∀ c key, p.mth c "__eq__" = some key → PySem.W.findIn K (.ref (He.ga K c)) "__ne__" = some (some (.builtin "object.__ne__")) ∧ PySem.W.mroIn K (He.ga K c) (.type "object") = some true
  lfn : ∀ x ∈ p.sd.lfns, mg x = some (.ref (He.ga K x)) ∧ ∃ d a, p.find x = some d ∧ d.at_ = .glo x ∧ d.name = x ∧ d.qual = x ∧ d.ps = [a] ∧ d.N[0]? = some a ∧ Vis (defScope d.st) a ∧ ((a == ("__debug__" : Str)) = false ∧ (a == ("__classdict__" : Str)) = false) ∧ d.lam = false ∧ d.star = false
  lamU : ∀ d ∈ p.defs, d.lam = true → ∀ d' ∈ p.defs, d'.lam = true → tabA K d' = tabA K d → d'.qual = d.qual
  ecl : ∀ c ∈ p.sd.ecls, mg c = some (.ref (He.ga K c))
  exm : ∀ cn c k, p.exm cn c = some k → PySem.W.exmOne K (.ref (He.ga K cn)) (.ref (He.ga K c)) = some k
  eis : ∀ cn c k, p.eis cn c = some k → ExcC K (He.ga K cn) ∧ PySem.W.kitOne K (.ref (He.ga K cn)) (match c with | .ty n => .type n | .own x => .ref (He.ga K x)) = some k
  xfc : ∀ cn es, p.xf cn = some es → XfC K (He.ga K cn) ∧ ∀ f ∈ es, PySem.W.findIn K (.ref (He.ga K cn)) f = some none
  mth : ∀ c m key, p.mth c m = some key → ∃ d, p.find key = some d ∧ Cls K (He.ga K c) ∧ Meth K (He.ga K c) m (d.at_.ad K)
  prp : ∀ c f key, p.prp c f = some key → ∃ d, p.find key = some d ∧ Cls K (He.ga K c) ∧ ∃ q, PropOf K (He.ga K c) f q (d.at_.ad K)
  fld : ∀ c f, p.fld c f = true → Cls K (He.ga K c) ∧ NoAttr K (He.ga K c) f
  isi : ∀ c r b, p.isi c r = some b → (∃ (_ : Cls K (He.ga K c)), PySem.W.findIn K (.ref (He.ga K c)) "__class__" = some (some (.builtin "object.__class__")) ∧
    PySem.W.specialIn K (.builtin "object.__class__") "__get__" = some (some (.builtin "getset_descriptor.__get__")) ∧ PySem.W.takesIn K (.builtin "object.__class__") = some true ∧ PySem.W.mroIn K (He.ga K c) (.type "object") = some true) ∧
    PySem.W.kitOne K (.ref (He.ga K c)) (match r with | .ty n => .type n | .own x => .ref (He.ga K x)) = some b
theorem byOrd_vals {vs : List V} {us : List Value} (r : Vals vs us) : ∀ {ord : List Nat} {ts : List V} {zs : List Value}, byOrd vs ord = some ts → ord.mapM (fun i => us[i]?) = some zs → Vals ts zs := by
  intro ord
  unfold byOrd
  induction ord with
  | nil => intro ts zs h1 h2; cases h1; cases h2; exact .nil
  | cons i ord ih =>
    intro ts zs h1 h2
    rw [List.mapM_cons] at h1 h2
    cases e1 : vs[i]? with
    | none => rw [e1] at h1; cases h1
    | some a =>
      cases e2 : us[i]? with
      | none => rw [e2] at h2; cases h2
      | some b =>
        rw [e1] at h1
        rw [e2] at h2
        obtain ⟨u, hu, ru⟩ := r.get e1
        rw [e2] at hu
        cases hu
        cases e3 : ord.mapM (fun i => vs[i]?) with
        | none => rw [e3] at h1; cases h1
        | some ts' =>
          cases e4 : ord.mapM (fun i => us[i]?) with
          | none => rw [e4] at h2; cases h2
          | some zs' =>
            rw [e3] at h1
            rw [e4] at h2
            cases h1
            cases h2
            exact .cons ru (ih e3 e4)
theorem byOrd_length {vs : List V} : ∀ {ord : List Nat} {ts : List V}, byOrd vs ord = some ts → ts.length = ord.length := by
  intro ord
  unfold byOrd
  induction ord with
  | nil => intro ts h; cases h; rfl
  | cons i ord ih =>
    intro ts h
    rw [List.mapM_cons] at h
    cases e1 : vs[i]? with
    | none => rw [e1] at h; cases h
    | some a =>
      rw [e1] at h
      cases e3 : ord.mapM (fun i => vs[i]?) with
      | none => rw [e3] at h; cases h
      | some ts' =>
        rw [e3] at h
        cases h
        exact congrArg Nat.succ (ih e3)
theorem fill_full {d : DefI} {vs : List V} (h : vs.length = d.ps.length) : d.fill vs = vs := by
  unfold DefI.fill
  rw [List.drop_of_length_le (by omega), List.append_nil]
theorem find_mem {p : Pg} {key : Str} {d : DefI} (h : p.find key = some d) : d ∈ p.defs ∧ d.key = key := ⟨List.mem_of_find?_eq_some h, by simpa using List.find?_some h⟩
section
variable {p : Pg} {P : Program} {w : World} {K : PySem.W.Frag} {mg : Str → Option Value}
theorem fnIn_of {x qual : Str} {params : Arguments} {body : List Stmt} {scope : Scope} {f : Addr} {fd : FuncData} {dvs : List V} (F : FunD K x qual params body scope dvs [] f fd) : PySem.W.fnIn K f = true := by
  obtain ⟨oc, od, dV, kV, doc, pm, an, cdv, ct, osl, _, lk, _⟩ := F.ex
  unfold PySem.W.fnIn
  rw [lk]
/-- a def by its own body -/
theorem fn_ofG {base : Heap} {k : Nat} {f : Addr} {name qual : Str} {params : Arguments} {body : List Stmt} {scope : Scope} {dV kV doc pm cdv ct oc : Value} {an od : Option Addr} {osl : Array (Option Value)} {N ps : List Str} {sp : Sp}
    (lk : K.lookup f = some ⟨oc, od, .func (PySem.W.fnOf name qual params body scope dV kV doc pm an cdv ct), osl⟩) (hcd : PySem.W.codeIn K cdv qual = true) (S : FnScope N ps scope) (len : ∀ vs H Q E, sp vs H Q E → vs.length = ps.length)
    (hb0 : ∀ (A : Around) (outer : List Env) (s : Shared) (H : Hp) (vs : List V) (Q : VK) (E : XK), RoomG k (A.deeper (envOfC qual scope s.heap.objs.size f cdv)) → sp vs H Q E →
      ∃ t, PSs (cxOf (CX P w) P w K mg base N qual scope f cdv A outer s H E) body t ∧ t { nx := fun _ H' => Q .non H', rt := Q } (start N vs) H) : FnG P w K mg base (k + 1) f (PySem.W.fnOf name qual params body scope dV kV doc pm an cdv ct) ps sp :=
  ⟨len, fun A outer s H args us vs Q E hr e0 hb r hsp => LamX.run_ofS (CX := CX P w) lk hcd S hr.r e0 hb r (len _ _ _ _ hsp) fun hr' => hb0 A outer s H vs Q E ⟨hr', hr.gd⟩ hsp⟩
/-- what is known of a def: n calls deep -/
def Keeps (p : Pg) (P : Program) (w : World) (K : PySem.W.Frag) (mg : Str → Option Value) (base : Heap) (n : Nat) : Prop :=
    ∀ key d, p.find key = some d → ∃ fd, FnA P w K mg base (5 * n + 1) (d.at_.ad K) [] (fun vs _ H Q E => run p K w n key vs H Q E) ∧ (d.star = false → FnG P w K mg base (5 * n + 1) (d.at_.ad K) fd d.ps (fun vs H Q E => vs.length = d.ps.length ∧ run p K w n key vs H Q E) ∧ Binds K fd d.ps []) ∧ PySem.W.keepIn K (.ref (d.at_.ad K)) = true ∧ PySem.W.fnIn K (d.at_.ad K) = true ∧
      (∀ l ks ord, p.kwo key l ks = some ord → FnA P w K mg base (5 * n + 1) (d.at_.ad K) ks (fun vs zs H Q E => vs.length = l ∧ ∃ ts, byOrd (vs ++ (zs ++ p.dfl key)) ord = some ts ∧ run p K w n key ts H Q E)) ∧
      ∃ o, K.lookup (d.at_.ad K) = some o ∧ o.data = .func fd
theorem ldef_of (ok : PgOk p P w K mg) {base : Heap} {n : Nat} (kp : Keeps p P w K mg base n) {TT : (XK → Hp → VK → Prop) → Hp → VK → Prop} (x : Str) (hx : x ∈ p.sd.lfns)
    (h : ∀ (X : Cx) (q : Str) (d : DefI) (a : Str) (cdv : Value), p.find x = some d → d.ps = [a] → d.N[0]? = some a → d.lam = false → FnScope d.N [a] (defScope d.st) → X.prog = P → X.w = w → X.K = K → X.mg = mg → X.base = base → RoomG (5 * n + 5) X.A → Gives X d.N x (defScope d.st) (He.ga K x) cdv (defBody d.st) a q TT) : LDef P w K mg base n x TT := by
  obtain ⟨h1, d, a, h2, h3, h4, h5, h6, h7, h8, h9, h10, h11⟩ := ok.lfn x hx
  obtain ⟨fd, k1, k2, k3, k4, k5, o, k6, k7⟩ := kp x d h2
  obtain ⟨⟨fd', F, B0, _, kw⟩, S, hc⟩ := ok.defs d (find_mem h2).1
  have B := (B0 h11).1
  obtain ⟨oc, od, dV, kV, doc, pm, an, cdv, ct, osl, e, lk, hcd, _, _⟩ := F.ex
  rw [h6] at B S
  subst e
  rw [h3] at lk k3
  rw [h4, h5] at lk B
  rw [h5] at hcd
  exact ⟨h1, k3, _, _, _, _, _, _, _, _, _, _, _, _, _, _, _, lk, hcd, B, S, h7, h8, h9, fun X q e1 e2 e3 e4 e5 hr => h X q d a cdv h2 h6 h7 h10 S e1 e2 e3 e4 e5 hr⟩
theorem fc_of0 (ok : PgOk p P w K mg) {base : Heap} {n : Nat} (kp : Keeps p P w K mg base n) (L : Option LamT) : Fc p.sd (p.ctx0 K w (run p K w n) L) n P w K mg base where
  hK := rfl
  hw := rfl
  kg := ok.kg
  fr := ok.fr
  gl := ok.gl
  fn := fun x hx => by
    obtain ⟨h1, d, h2, h3⟩ := ok.fn x hx
    obtain ⟨fd, k1, k2, k3, k4, k5, _⟩ := kp x d h2
    rw [h3] at k1 k3
    rw [h3] at k5
    exact ⟨h1, k3, k1, k5⟩
  cls := ok.cls
  mks := ok.mks
  err := ok.err
  smt := fun c m key h => by
    obtain ⟨d, mc, q, rest, h1, h2, h3, h4⟩ := ok.smt c m key h
    obtain ⟨fd, k1, k2, k3, k4, k5, _⟩ := kp key d h1
    exact ⟨mc, q, _, rest, h2, h3, h4, k3, k1, k5⟩
  cmt := fun c m key h => by
    obtain ⟨d, mc, q, h1, h2, h3⟩ := ok.cmt c m key h
    obtain ⟨fd, k1, k2, k3, k4, k5, _⟩ := kp key d h1
    exact ⟨mc, q, _, h2, h3, k1, k5⟩
  opr := ok.opr
  sub := ok.sub
  cvl := ok.cvl
  eqc := ok.eqc
  nec := ok.nec
  lfn := fun x hx => ldef_of ok kp x hx fun X q d a cdv _ _ _ _ _ _ _ _ _ _ _ f c s H Q tl ha hc ht => ht.elim
  ecl := ok.ecl
  exm := ok.exm
  eis := ok.eis
  xfc := ok.xfc
  mth := fun c m key h => by
    obtain ⟨d, h2, h3, h4⟩ := ok.mth c m key h
    obtain ⟨fd, k1, k2, k3, k4, k5, _⟩ := kp key d h2
    exact ⟨_, h3, h4, k4, k1, k5⟩
  prp := fun c f key h => by
    obtain ⟨d, h2, h3, q, h4⟩ := ok.prp c f key h
    obtain ⟨fd, k1, k2, k3, k4, k5, _⟩ := kp key d h2
    exact ⟨h3, q, _, h4, k1⟩
  fld := ok.fld
  isi := ok.isi
theorem fc_of (ok : PgOk p P w K mg) {base : Heap} {n : Nat} (kp : Keeps p P w K mg base n) : Fc p.sd (p.ctx K w (run p K w n)) n P w K mg base :=
  { fc_of0 ok kp none with
    lfn := fun x hx => ldef_of ok kp x hx fun X q d a cdv h2 h6 h7 h10 S e1 e2 e3 e4 e5 hr f c s H Q tl ha hc ht => by
      subst e1 e2 e3 e4 e5
      have ht : p.lrun X.K X.w (run p X.K X.w n) x tl H Q := ht
      unfold Pg.lrun at ht
      rw [h2] at ht
      obtain ⟨_, _, hck⟩ := ok.defs d (find_mem h2).1
      rw [h10] at hck
      have hr2 : RoomG (5 * n + 4) (X.A.deeper (envOfC x (defScope d.st) s.heap.objs.size (He.ga X.K x) cdv)) := hr.deeper _
      refine ⟨_, ((snd_all (D := p.sd) (C := p.ctx0 X.K X.w (run p X.K X.w n) (some ⟨f, c, q, 0, tl⟩)) (n := n) d.body).1 (cxOf C8.CX0 X.prog X.w X.K X.mg X.base d.N x (defScope d.st) (He.ga X.K x) cdv X.A X.stack s H C8.E0).nox noW ⟨d.N, defScope d.st, true, true, false⟩ ?_).ss _ hck, ht f c q hc⟩
      exact { fc := fc_of0 ok kp _, hN := rfl, nd := S.nd, sc := rfl, kd := S.kind, fnt := fun _ _ => rfl, stk := fun _ => ⟨rfl, rfl⟩, un := by have := hr2.r.un; show (X.A.deeper (envOfC x (defScope d.st) s.heap.objs.size (He.ga X.K x) cdv)).units + 200 < cLine; omega, calm := fun _ => ⟨rfl, hr2.mono (by omega)⟩, big := fun z => (by cases z), tab := fun z => (by cases z), act := fun _ _ L hL a' ha' => (by
          cases hL
          have e : some a' = some a := ha'.symm.trans h7
          cases e
          exact ha), tk := fun u s' ⟨_, _, _, _, _, _, _, _, _, _, _, _, _, _, _, _, w⟩ => w.elim, own := PassesOwn.never } }
/-- a def with *v by its own body -/
theorem fn_starG {base : Heap} {k : Nat} {f : Addr} {name qual : Str} {params : Arguments} {body : List Stmt} {scope : Scope} {dV kV doc pm cdv ct oc : Value} {an od : Option Addr} {osl : Array (Option Value)} {N ps : List Str} {pv : Str} {sp : Sp}
    (lk : K.lookup f = some ⟨oc, od, .func (PySem.W.fnOf name qual params body scope dV kV doc pm an cdv ct), osl⟩) (hcd : PySem.W.codeIn K cdv qual = true) (S : FnScope N (ps ++ [pv]) scope)
    (hb : ∀ us rest : List Value, us.length = ps.length → bindArgs (PySem.W.fnOf name qual params body scope dV kV doc pm an cdv ct) ⟨us ++ rest, []⟩ = (newTuple rest >>= fun t => pure (ps.zip us ++ [(pv, t)])))
    (hbody : ∀ (A : Around) (outer : List Env) (s : Shared) (H : Hp) (vs : List V) (Q : VK) (E : XK), RoomG k (A.deeper (envOfC qual scope s.heap.objs.size f cdv)) → sp vs H Q E →
      ∃ t, PSs (cxOf (CX P w) P w K mg base N qual scope f cdv A outer s H E) body t ∧ t { nx := fun _ H' => Q .non H', rt := Q } (start N vs) H) :
    FnA P w K mg base (k + 1) f [] (fun vs _ H Q E => ∃ ws rest, vs = ws ++ rest ∧ ws.length = ps.length ∧ rest.length ≤ sizeLine ∧ ∀ p, H p = Option.none → sp (ws ++ [V.ref p]) (upd H p (.tup rest)) Q E) := by
  intro A outer s H us zw vs zv Q E hr e0 r _ _ hsp
  obtain ⟨ws, rest, ev, hl, hz, hq⟩ := hsp
  subst ev
  obtain ⟨u1, u2, eu, r1, r2⟩ := StX.vals_split r
  subst eu
  have hn : H s.heap.objs.size = Option.none := e0.hok.fresh (Nat.le_refl _)
  have hl1 : u1.length = ps.length := by rw [← r1.length]; exact hl
  have hl2 : u2.length ≤ sizeLine := by rw [← r2.length]; exact hz
  refine StX.run_bnd (CX := CX P w) lk hcd S hr.r e0 (G := fun xs H2 => ∃ p, H p = Option.none ∧ xs = ws ++ [V.ref p] ∧ H2 = upd H p (.tup rest)) (fun A' Ex Q' h => ?_) fun s2 H2 xs ⟨p, hp, ex, eH⟩ hr' => ?_
  · show wpAny _ _ (bindArgs _ ⟨u1 ++ u2, []⟩) _ _ _
    rw [hb u1 u2 hl1]
    refine wpAny_bind (wpAny_newTuple (wpAny_pure ?_) hl2)
    have new : ObjOk P w (upd H s.heap.objs.size (.tup rest)) (s.heap.push ({ cls := .type "tuple", data := .seq u2.toArray } : Obj)) s.heap.objs.size (.tup rest) := ⟨hz, u2, r2, ⟨_, Heap.get?_push_size _ rfl, rfl, _, rfl⟩⟩
    have un := StX.un_laid (fs := frs outer) (s := s) (o := ({ cls := .type "tuple", data := .seq u2.toArray } : Obj)) (u := .tup rest) hn
    have z := h _ _ (ws ++ [V.ref s.heap.objs.size]) (u1 ++ [Value.ref s.heap.objs.size]) (StX.env0_laid e0 new) un rfl (fun e s' => StX.cxUp outer s H _ _ E e s' un (fun b o q => Heap.get?_push_of_some _ q) rfl) (r1.append (.cons rfl .nil))
      (by rw [List.length_append, List.length_append, hl] <;> rfl) ⟨_, hn, rfl, rfl⟩
    rw [List.zip_append hl1.symm] at z
    exact z
  · subst ex eH
    exact hbody A outer s2 _ _ Q E ⟨hr', hr.gd⟩ (hq p hp)
theorem keeps_of (ok : PgOk p P w K mg) {base : Heap} {n : Nat}
    (h : ∀ key d fd, p.find key = some d → FunD K d.name d.qual (defArgs d.st) (defBody d.st) (defScope d.st) d.dvs [] (d.at_.ad K) fd → d.star = false → FnG P w K mg base (5 * n + 1) (d.at_.ad K) fd d.ps (fun vs H Q E => vs.length = d.ps.length ∧ run p K w n key vs H Q E))
    (h1 : ∀ key d vs H Q E, p.find key = some d → d.star = false → run p K w n key vs H Q E → (d.fill vs).length = d.ps.length ∧ run p K w n key (d.fill vs) H Q E)
    (h2 : ∀ key d fd, p.find key = some d → FunD K d.name d.qual (defArgs d.st) (defBody d.st) (defScope d.st) d.dvs [] (d.at_.ad K) fd → d.star = true → StarB d → FnA P w K mg base (5 * n + 1) (d.at_.ad K) [] (fun vs _ H Q E => run p K w n key vs H Q E)) : Keeps p P w K mg base n := by
  intro key d hd
  obtain ⟨⟨fd, F, B, SB, kw⟩, S, hc⟩ := ok.defs d (find_mem hd).1
  refine ⟨fd, ?_, fun hs => ⟨h key d fd hd F hs, (B hs).1⟩, F.kp, fnIn_of F, fun l ks ord ho => ?_, by
    obtain ⟨oc, od, dV, kV, doc, pm, an, cdv, ct, osl, e, lk, _⟩ := F.ex
    exact ⟨_, lk, rfl⟩⟩
  · cases hs : d.star with
    | false =>
      intro A outer s H us ws vs zs Q E hr e0 r rz hl hq
      obtain ⟨g1, g2⟩ := h1 key d vs H Q E hd hs hq
      obtain ⟨_, its, rI, hb⟩ := B hs
      have KX : K.In s.heap := e0.mod.kin.keeps fun b o e => (e0.bs b o e).1
      have rr : Vals (d.fill vs) (us ++ its.drop (us.length + d.dvs.length - d.ps.length)) := by
        unfold DefI.fill
        rw [r.length]
        exact r.append (rI.drop _)
      cases ws with
      | nil => exact (h key d fd hd F hs).run A outer s H ⟨us, []⟩ _ _ Q E hr e0 (hb s us KX (by rw [← rr.length]; exact g1)) rr ⟨g1, g2⟩
      | cons => rw [rz.length] at hl; exact absurd hl (by simp)
    | true => exact h2 key d fd hd F hs (SB hs)
  rw [← (find_mem hd).2] at ho
  intro A outer s H us ws vs zs Q E hr e0 r rz hl hq
  obtain ⟨h4, ts, h5, h3⟩ := hq
  have KX : K.In s.heap := e0.mod.kin.keeps fun b o e => (e0.bs b o e).1
  obtain ⟨hs, lo, its, rI, kw'⟩ := kw l ks ord ho
  obtain ⟨us', g1, g2⟩ := kw' s us ws KX (by rw [← r.length, h4]) (by rw [← rz.length, hl])
  have ed : p.dfl key = d.dvs := by
    unfold Pg.dfl
    rw [hd]
  rw [ed] at h5
  exact (h key d fd hd F hs).run A outer s H ⟨us, ks.zip ws⟩ us' ts Q E hr e0 g2 (byOrd_vals (r.append (rz.append rI)) h5 g1) ⟨by rw [byOrd_length h5, lo], h3⟩
/-- every def keeps its promise -/
theorem run_ok (ok : PgOk p P w K mg) (base : Heap) (tb : ∀ d ∈ p.defs, d.lam = true → LamX.TabB base mg (codeA K d) (tabA K d)) : ∀ n, Keeps p P w K mg base n := by
  intro n
  induction n with
  | zero =>
    refine keeps_of ok (fun key d fd hd F hs => ?_) (fun key d vs H Q E hd hs h => by rw [run_zero] at h; exact h.elim) fun key d fd hd F hs SB => ?_
    · rw [run_zero]
      exact ⟨fun _ _ _ _ h => h.2.elim, fun _ _ _ _ _ _ _ _ _ _ _ _ _ h => h.2.elim⟩
    · rw [run_zero]
      exact fun _ _ _ _ _ _ _ _ _ _ _ _ _ _ _ h => h.elim
  | succ n ih =>
    have body : ∀ (key : Str) (d : DefI) (oc : Value) (od : Option Addr) (dV kV doc pm : Value) (an : Option Addr) (cdv ct : Value) (osl : Array (Option Value)), p.find key = some d → K.lookup (d.at_.ad K) = some ⟨oc, od, .func (PySem.W.fnOf d.name d.qual (defArgs d.st) (defBody d.st) (defScope d.st) dV kV doc pm an cdv ct), osl⟩ → PySem.W.codeIn K cdv d.qual = true →
        ∀ (A : Around) (outer : List Env) (s : Shared) (H : Hp) (vs : List V) (Q : VK) (E : XK), RoomG (5 * n + 5) (A.deeper (envOfC d.qual (defScope d.st) s.heap.objs.size (d.at_.ad K) cdv)) → (rd (p.ctx K w (run p K w n)) d.body fun cls dd _ H' => E cls dd H').s { nx := fun _ H' => Q .non H', rt := Q } (start d.N vs) H →
          ∃ t, PSs (cxOf (CX P w) P w K mg base d.N d.qual (defScope d.st) (d.at_.ad K) cdv A outer s H E) (defBody d.st) t ∧ t { nx := fun _ H' => Q .non H', rt := Q } (start d.N vs) H := by
      intro key d oc od dV kV doc pm an cdv ct osl hd lk hcd A outer s H vs Q E hr hb
      obtain ⟨_, S, hc⟩ := ok.defs d (find_mem hd).1
      refine ⟨_, ((snd_all (D := p.sd) (C := p.ctx K w (run p K w n)) (n := n) d.body).1 (cxOf (CX P w) P w K mg base d.N d.qual (defScope d.st) (d.at_.ad K) cdv A outer s H E) (fun cls dd _ H' => E cls dd H') ⟨d.N, defScope d.st, true, true, d.lam⟩ ?_).ss _ hc, hb⟩
      exact { fc := fc_of ok ih, hN := rfl, nd := S.nd, sc := rfl, kd := S.kind, fnt := fun _ _ => rfl, stk := fun _ => ⟨rfl, rfl⟩, un := show (A.deeper (envOfC d.qual (defScope d.st) s.heap.objs.size (d.at_.ad K) cdv)).units + 200 < cLine from by have := hr.r.un; omega, calm := fun _ => ⟨rfl, hr.mono (by omega)⟩, big := fun _ => hr, tab := fun hL => (by
          have hm := (find_mem hd).1
          obtain ⟨c, rfl⟩ := He.codeIn_ref hcd
          have ec : codeA K d = c := by
            unfold codeA
            rw [lk]
          have t := tb d hm hL
          rw [ec] at t
          refine ⟨c, tabA K d, t, rfl, List.mem_map.mpr ⟨d, List.mem_filter.mpr ⟨hm, hL⟩, rfl⟩, fun q hq e => ?_⟩
          obtain ⟨d', h1, rfl⟩ := List.mem_map.mp hq
          obtain ⟨h2, h3⟩ := List.mem_filter.mp h1
          show d'.qual ++ ".<locals>." ++ "<lambda>" = d.qual ++ ".<locals>." ++ "<lambda>"
          rw [ok.lamU d hm hL d' h2 h3 e]), act := fun _ _ L hL => (by cases hL), tk := takes_of rfl rfl rfl rfl, own := passes_of rfl }
    refine keeps_of ok (fun key d fd hd F hst => ?_) (fun key d vs H Q E hd hst h => ?_) fun key d fd hd F hst SB => ?_
    · obtain ⟨_, S, hc⟩ := ok.defs d (find_mem hd).1
      have hs : ∀ vs H Q E, vs.length = d.ps.length ∧ run p K w (n + 1) key vs H Q E → vs.length = d.ps.length ∧ (rd (p.ctx K w (run p K w n)) d.body fun cls dd _ H' => E cls dd H').s { nx := fun _ H' => Q .non H', rt := Q } (start d.N vs) H := by
        intro vs H Q E ⟨hv, h⟩
        rw [run_succ] at h
        unfold stepP at h
        rw [hd] at h
        dsimp only at h
        rw [hst] at h
        rw [fill_full hv] at h
        exact h
      obtain ⟨oc, od, dV, kV, doc, pm, an, cdv, ct, osl, e, lk, hcd, _, _⟩ := F.ex
      subst e
      refine fn_ofG (k := 5 * n + 5) lk hcd S (fun vs H Q E h => (hs vs H Q E h).1) fun A outer s H vs Q E hr hsp => ?_
      exact body key d _ _ _ _ _ _ _ _ _ _ hd lk hcd A outer s H vs Q E hr (hs vs H Q E hsp).2
    · rw [run_succ] at h ⊢
      unfold stepP at h ⊢
      rw [hd] at h ⊢
      dsimp only at h ⊢
      rw [hst] at h ⊢
      dsimp only at h ⊢
      refine ⟨h.1, ?_⟩
      rw [fill_full h.1]
      exact h
    · obtain ⟨_, S, hc⟩ := ok.defs d (find_mem hd).1
      have hs : ∀ vs H Q E, run p K w (n + 1) key vs H Q E → ∃ ws rest, vs = ws ++ rest ∧ ws.length + 1 = d.ps.length ∧ rest.length ≤ sizeLine ∧ ∀ t, H t = none → (rd (p.ctx K w (run p K w n)) d.body fun cls dd _ H' => E cls dd H').s { nx := fun _ H' => Q .non H', rt := Q } (start d.N (ws ++ [.ref t])) (upd H t (.tup rest)) := by
        intro vs H Q E h
        rw [run_succ] at h
        unfold stepP at h
        rw [hd] at h
        dsimp only at h
        rw [hst] at h
        exact h
      obtain ⟨oc, od, dV, kV, doc, pm, an, cdv, ct, osl, e, lk, hcd, hD, _⟩ := F.ex
      subst e
      rcases hD with ⟨_, rfl⟩ | ⟨e, _⟩
      · obtain ⟨ps, pv, eps, hb⟩ := SB.2 kV doc pm an cdv ct
        rw [eps] at S
        have F2 := fn_starG (k := 5 * n + 5) (mg := mg) (base := base) (P := P) (w := w) (sp := fun vs H Q E => (rd (p.ctx K w (run p K w n)) d.body fun cls dd _ H' => E cls dd H').s { nx := fun _ H' => Q .non H', rt := Q } (start d.N vs) H) lk hcd S hb fun A outer s H vs Q E hr hsp => body key d _ _ _ _ _ _ _ _ _ _ hd lk hcd A outer s H vs Q E hr hsp
        intro A outer s H us zw vs zv Q E hr e0 r rz hz h
        obtain ⟨ws, rest, g1, g2, g3, g4⟩ := hs vs H Q E h
        refine F2 A outer s H us zw vs zv Q E hr e0 r rz hz ⟨ws, rest, g1, ?_, g3, g4⟩
        rw [eps, List.length_append] at g2
        exact Nat.succ.inj g2
      · exact absurd SB.1 e
end
end U

namespace U
open PySem PySem.Spec PyProof.Rows L2
/-! ### errors: what the head looks at -/
/-- an error: its class, its fields; its __init__ in the text: the name of self, the other parameters -/
structure ErrD where
  c : Str
  fs : List Str
  slf : Str
  ys : List Str
  qual : Str
  st : Stmt
def stoB (slf : Str) : List Stmt → List Str → List Str → Bool
  | [], [], [] => true
  | .Assign [.Attribute (.Name x _) g _] (.Name z _) _ :: r, f :: fs, y :: ys => decide (x = slf) && (decide (g = f) && (decide (z = y) && stoB slf r fs ys))
  | _, _, _ => false
theorem stoB_ok {slf : Str} {st : List Stmt} {fs ys : List Str} (h : stoB slf st fs ys = true) : Sto slf st (fs.zip ys) ∧ fs.length = ys.length := by
  fun_induction stoB slf st fs ys with
  | case1 => exact ⟨.nil, rfl⟩
  | case2 x p1 g p2 z p3 p4 r f fs y ys ih =>
    obtain ⟨h1, h⟩ := He.ba h
    obtain ⟨h2, h⟩ := He.ba h
    obtain ⟨h3, h⟩ := He.ba h
    obtain ⟨k1, k2⟩ := ih h
    rw [of_decide_eq_true h1, of_decide_eq_true h2, of_decide_eq_true h3]
    exact ⟨.cons k1, by simp [k2]⟩
  | case3 => cases h
def supB : Stmt → Bool
  | .Expr (.Call (.Attribute (.Call (.Name x _) [] [] _) i p2) [.Constant (.str _) _ _] [] p4) _ => decide (x = ("super" : Str)) && (decide (i = ("__init__" : Str)) && (p2.endLine == p4.line))
  | _ => false
theorem supB_ok {st : Stmt} (h : supB st = true) : ∃ p0 p1 p2 p3 p4 p5 txt k, st = .Expr (.Call (.Attribute (.Call (.Name "super" p0) [] [] p1) "__init__" p2) [.Constant (.str txt) k p3] [] p4) p5 ∧ (p2.endLine == p4.line) = true := by
  unfold supB at h
  split at h
  · obtain ⟨h1, h⟩ := He.ba h
    obtain ⟨h2, h3⟩ := He.ba h
    rw [of_decide_eq_true h1, of_decide_eq_true h2]
    exact ⟨_, _, _, _, _, _, _, _, rfl, h3⟩
  · cases h
/-- judged of the text -/
def ErrD.stat (e : ErrD) : Bool := (match defBody e.st with
    | s :: r => supB s && stoB e.slf r e.fs e.ys
    | [] => false) && (!e.fs.isEmpty && (decide (e.fs.length ≤ 800) && ((e.slf :: e.ys).all (fun z => (match (defScope e.st).names.lookup z with | some .local => true | _ => false) && !(z == ("__debug__" : Str))) && (decide ((e.slf :: e.ys).Nodup) &&
  ((defScope e.st).names.all (fun z => match z.2 with | .cell => false | _ => true) && (!(defScope e.st).isCoroutine && (!(defScope e.st).isGenerator && ((match (defScope e.st).kind with | .function => true | _ => false) &&
  ((match (defScope e.st).names.lookup ("super" : Str) with | some .globalImplicit => true | _ => false) && ((match (defScope e.st).names.lookup ("__class__" : Str) with | some .free => true | _ => false) &&
  (match ((defArgs e.st).posonlyargs ++ (defArgs e.st).args).head? with | some ar => decide (ar.arg = e.slf) | none => false)))))))))))
abbrev ErrW : Type := Option (Str × Str × Arguments × FuncBody × Scope × Addr × List Str × Addr)
def ErrD.obs (K : PySem.W.Frag) (e : ErrD) : ErrW := match K.lookup (He.ma K (He.ga K e.c) "__init__") with
  | some ⟨_, _, .func fd, _⟩ => some (fd.name, fd.qualname, fd.params, fd.body, fd.scope, fd.globals, fd.closure.map (·.1), fd.builtins)
  | _ => none
def ErrD.val (e : ErrD) : ErrW := some ("__init__", e.qual, defArgs e.st, .stmts (defBody e.st), defScope e.st, mainGlobals, ["__class__"], builtinsNs)
def codB (K : PySem.W.Frag) (file : Str) : Value → Bool
  | .ref cda => (match K.lookup cda with
    | some ⟨_, _, .fields vs, _⟩ => (match (vs[2]? : Option Value) with
      | some (.str z _) => decide (z = file)
      | _ => false)
    | _ => false)
  | _ => false
def celB (K : PySem.W.Frag) (C : Addr) : List (Str × Addr) → Bool
  | [(_, cc)] => (match K.lookup cc with
    | some ⟨_, _, .cell (some (.ref D)), _⟩ => decide (D = C)
    | _ => false)
  | _ => false
def tailB (K : PySem.W.Frag) (C : Addr) : Bool := match PySem.W.clsIn K C with
  | some cd => cd.hasDict && (match cd.mro with
    | _ :: bm => PySem.HandSPX.refsVE bm
    | [] => false)
  | none => false
/-- judged of what stands behind the top -/
def ErrD.ok (K : PySem.W.Frag) (file : Str) (e : ErrD) : Bool :=
  (He.Fa.glo e.c).ok K && (PySem.W.excInitIn K (He.ga K e.c) veT "ValueError.__new__" && (tailB K (He.ga K e.c) && (He.eqO (PySem.W.findIn K (.ref (He.ga K e.c)) "__setattr__") (some (some (.builtin "object.__setattr__"))) &&
  (decide (PySem.W.subIn K (.ref (He.ga K e.c)) (.type "BaseException") = some true) && (decide (PySem.W.typeIn K (.ref (He.ga K e.c)) = some (.type "type")) && (PySem.W.keepIn K (.ref (He.ga K e.c)) &&
  (He.eqO (PySem.W.findIn K (.ref (He.ga K e.c)) "__init__") (some (some (.ref (He.ma K (He.ga K e.c) "__init__")))) && (decide (PySem.W.typeIn K (.ref (He.ma K (He.ga K e.c) "__init__")) = some (.type "function")) &&
  (e.fs.all (fun g => (He.Fa.noat e.c g).ok K) && (decide (PySem.W.mroIn K (He.ga K e.c) (.ref (He.ga K e.c)) = some true) && ((He.Fa.free "super").ok K && (He.eqO (PySem.W.nsIn K cStatics "thirdparty.any") (some none) &&
  (He.eqO (PySem.W.ks_superIn K (He.ga K e.c) (He.ga K e.c) "__init__") (some (some (.builtin "ValueError.__init__"))) && (decide (PySem.W.subIn K (.ref (He.ga K e.c)) (.type "ValueError") = some true) &&
  (match K.lookup (He.ma K (He.ga K e.c) "__init__") with
    | some ⟨_, _, .func fd, _⟩ => PySem.W.codeIn K fd.code e.qual && (codB K file fd.code && (celB K (He.ga K e.c) fd.closure && He.dflB K fd.defaults []))
    | _ => false)))))))))))))))
/-- how an error's arguments are bound -/
def ErrD.Bnd (e : ErrD) : Prop := ∀ (kV doc pm : Value) (an : Option Addr) (cdv ct : Value) (cc : Addr) (us : List Value) (x : Value), us.length = e.ys.length → bindArgs (PySem.W.ksFn "__init__" e.qual (defArgs e.st) (defBody e.st) (defScope e.st) .none kV doc pm an cdv ct cc) ⟨x :: us, []⟩ = pure ((e.slf :: e.ys).zip (x :: us))
theorem errI_of {P : Program} {K : PySem.W.Frag} {mg : Str → Option Value} {hp : Heap} {e : ErrD} (st : e.stat = true) (bn : e.Bnd) (KX : K.In hp) (G : hp.Ns mainGlobals mg) (o : e.obs K = e.val) (k : e.ok K P.main.file = true) (top : (P.main.scope.names.lookup ("super" : Str)).isSome = false) :
    mg e.c = some (.ref (He.ga K e.c)) ∧ ErrI P K mg (He.ga K e.c) (He.ma K (He.ga K e.c) "__init__") e.fs := by
  unfold ErrD.ok at k
  obtain ⟨k1, k⟩ := He.ba k
  obtain ⟨k2, k⟩ := He.ba k
  obtain ⟨k3, k⟩ := He.ba k
  obtain ⟨k4, k⟩ := He.ba k
  obtain ⟨k5, k⟩ := He.ba k
  obtain ⟨k6, k⟩ := He.ba k
  obtain ⟨k7, k⟩ := He.ba k
  obtain ⟨k8, k⟩ := He.ba k
  obtain ⟨k9, k⟩ := He.ba k
  obtain ⟨k10, k⟩ := He.ba k
  obtain ⟨k11, k⟩ := He.ba k
  obtain ⟨k12, k⟩ := He.ba k
  obtain ⟨k13, k⟩ := He.ba k
  obtain ⟨k14, k⟩ := He.ba k
  obtain ⟨k15, k16⟩ := He.ba k
  unfold ErrD.stat at st
  obtain ⟨t1, st⟩ := He.ba st
  obtain ⟨t2, st⟩ := He.ba st
  obtain ⟨t3, st⟩ := He.ba st
  obtain ⟨t4, st⟩ := He.ba st
  obtain ⟨t5, st⟩ := He.ba st
  obtain ⟨t6, st⟩ := He.ba st
  obtain ⟨t7, st⟩ := He.ba st
  obtain ⟨t8, st⟩ := He.ba st
  obtain ⟨t9, st⟩ := He.ba st
  obtain ⟨t10, st⟩ := He.ba st
  obtain ⟨t11, t12⟩ := He.ba st
  have hcls : ∃ cd, PySem.W.clsIn K (He.ga K e.c) = some cd := by
    unfold tailB at k3
    cases z : PySem.W.clsIn K (He.ga K e.c) with
    | none => rw [z] at k3; cases k3
    | some cd => exact ⟨cd, rfl⟩
  refine ⟨He.glo_ok KX G k1, ⟨?_, He.eqO_ok k4, of_decide_eq_true k5, of_decide_eq_true k6, k7⟩, He.eqO_ok k8, of_decide_eq_true k9, fun g hg => He.noat_ok (List.all_eq_true.mp k10 g hg), ?_⟩
  · have x2 := k2
    unfold PySem.W.excInitIn at x2
    split at x2
    rotate_left
    · cases x2
    rename_i dd cd sl ho
    split at x2
    rotate_left
    · cases x2
    rename_i C' bm s0 s1 s2 s3 n s5 hm hs
    simp only [Bool.and_eq_true, beq_iff_eq, Bool.not_eq_true'] at x2
    obtain ⟨⟨⟨hC', hn'⟩, hdel⟩, _⟩ := x2
    have hc : PySem.W.clsIn K (He.ga K e.c) = some cd := by unfold PySem.W.clsIn; rw [ho]
    unfold tailB at k3
    rw [hc] at k3
    obtain ⟨d1, d2⟩ := He.ba k3
    rw [hm] at d2
    obtain ⟨nm, bs, mro, ns, qn, hd, sn, sub, ab, col, del⟩ := cd
    dsimp only at hm hdel d1
    obtain ⟨sll⟩ := sl
    rw [show sll = [s0, s1, s2, s3, some (.builtin n), s5] from hs, hm, hdel, d1, hC', hn'] at ho
    exact ⟨nm, qn, ns, bs, bm, sn, sub, ab, col, dd, s0, s1, s2, s3, s5, ho, d2⟩
  · cases q : K.lookup (He.ma K (He.ga K e.c) "__init__") with
    | none => rw [q] at k16; cases k16
    | some ob =>
      obtain ⟨oc, od, dt, osl⟩ := ob
      unfold ErrD.obs at o
      rw [q] at k16 o
      cases dt with
      | func fd =>
        obtain ⟨n1, n2, n3, n4, n5, n6, n7, n8, n9, n10, n11, n12, n13, n14, n15⟩ := fd
        have o' := Option.some.inj o
        simp only [Prod.mk.injEq] at o'
        obtain ⟨h1, h2, h3, h4, h5, h6, h7, h8⟩ := o'
        subst h1 h2 h3 h4 h5 h6 h8
        dsimp only at k16
        obtain ⟨c1, c5⟩ := He.ba k16
        obtain ⟨c2, c6⟩ := He.ba c5
        obtain ⟨c3, c4⟩ := He.ba c6
        clear c5 c6 k16
        obtain ⟨cc, rfl, cl, cld, csl, hcell⟩ : ∃ cc : Addr, n7 = [(("__class__" : Str), cc)] ∧ ∃ cl cld csl, K.lookup cc = some ⟨cl, cld, .cell (some (.ref (He.ga K e.c))), csl⟩ := by
          unfold celB at c3
          split at c3
          · rename_i nm cc
            split at c3
            · rename_i cl cld D csl z
              rw [of_decide_eq_true c3] at z
              have hnm : nm = ("__class__" : Str) := by simpa using h7
              exact ⟨cc, by rw [hnm], cl, cld, csl, z⟩
            · cases c3
          · cases c3
        obtain ⟨cda, rfl, ccl, cdd, vs, ccs, tf, hcode, hvs⟩ : ∃ cda, n13 = .ref cda ∧ ∃ ccl cdd vs ccs tf, K.lookup cda = some ⟨ccl, cdd, .fields vs, ccs⟩ ∧ vs[2]? = some (.str P.main.file tf) := by
          unfold codB at c2
          split at c2
          · rename_i cda
            split at c2
            · rename_i ccl cdd vs ccs z
              split at c2
              · rename_i y tf z2
                rw [of_decide_eq_true c2] at z2
                exact ⟨cda, rfl, ccl, cdd, vs, ccs, tf, z, z2⟩
              · cases c2
            · cases c2
          · cases c2
        obtain rfl : n8 = .none := by
          rcases He.dflB_ok c4 with ⟨_, z⟩ | ⟨z, _⟩
          · exact z
          · exact absurd rfl z
        cases eb : defBody e.st with
        | nil => rw [eb] at t1; cases t1
        | cons s0 r =>
          rw [eb] at t1
          obtain ⟨u1, u2⟩ := He.ba t1
          obtain ⟨p0, p1, p2, p3, p4, p5, txt, k, rfl, hl⟩ := supB_ok u1
          obtain ⟨hsto, hlen⟩ := stoB_ok u2
          cases ea : ((defArgs e.st).posonlyargs ++ (defArgs e.st).args).head? with
          | none => rw [ea] at t12; cases t12
          | some ar =>
            rw [ea] at t12
            have kd : (defScope e.st).kind = .function := by
              split at t9
              · assumption
              · cases t9
            have ks : (defScope e.st).names.lookup ("super" : Str) = some .globalImplicit := by
              split at t10
              · assumption
              · cases t10
            have kc : (defScope e.st).names.lookup ("__class__" : Str) = some .free := by
              split at t11
              · assumption
              · cases t11
            have loc : ∀ z ∈ e.slf :: e.ys, (defScope e.st).names.lookup z = some .local ∧ (z == ("__debug__" : Str)) = false := by
              intro z hz
              obtain ⟨a1, a2⟩ := He.ba (List.all_eq_true.mp t4 z hz)
              refine ⟨?_, by simpa using a2⟩
              split at a1
              · assumption
              · cases a1
            rw [eb] at q
            refine ⟨cc, cda, defScope e.st, e.slf, "__init__", e.qual, defArgs e.st, .none, n9, n10, n11, n14, n12, r, e.fs.zip e.ys, p0, p1, p2, p3, p4, p5, txt, k, e.ys, ?_, hsto, c1, ?_, loc, of_decide_eq_true t5, ?_, hl, by simpa using t7, by simpa using t8, ?_, ?_, List.map_fst_zip (Nat.le_of_eq hlen), List.map_snd_zip (Nat.le_of_eq hlen.symm)⟩
            · exact ⟨⟨oc, od, osl, q⟩, ⟨ar, ea, of_decide_eq_true t12⟩, ⟨ccl, cdd, vs, ccs, _, tf, hcode, hvs, beq_self_eq_true _⟩, ⟨cl, cld, csl, hcell⟩, hcls, of_decide_eq_true k11, He.free_ok KX G k12, ks, kc, (loc _ (List.mem_cons_self ..)).1, kd, top, He.eqO_ok k13, He.eqO_ok k14, of_decide_eq_true k15, k2⟩
            · intro s us _ hu x
              have := bn n9 n10 n11 n12 (.ref cda) n14 cc us (.ref x) hu
              rw [eb] at this
              exact .of_eq this
            · intro z hz hcz
              have := List.all_eq_true.mp t6 z hz
              rw [hcz] at this
              cases this
            · rw [List.length_zip, hlen, Nat.min_self, ← hlen]
              exact of_decide_eq_true t3
            · intro hz
              cases hf : e.fs with
              | nil => rw [hf] at t2; cases t2
              | cons a b =>
                cases hy : e.ys with
                | nil => rw [hf, hy] at hlen; cases hlen
                | cons a' b' => rw [hf, hy] at hz; cases hz
      | _ => cases k16
end U

namespace U
open PySem PySem.Spec PyProof.Rows L2
/-! ### the head: what is looked at behind the top -/
/-- what is said of the program: lists, so that all of it is judged at once -/
structure Hd where
  defs : List DefI
  frees : List Str
  globs : List (Str × He.Dv)
  fns : List Str
  clss : List Str
  mks : List Str
  mth : List ((Str × Str) × Str)
  prp : List ((Str × Str) × Str)
  fld : List (Str × Str)
  isi : List ((Str × CR) × Bool)
  tabs : List (Str × List (Str × V))
  errs : List ErrD
  kwo : List ((Str × Nat × List Str) × List Nat)
  ecls : List Str
  exm : List ((Str × Str) × Bool)
  eis : List ((Str × CR) × Bool)
  lfns : List Str
  smt : List ((Str × Str) × Str)
  cmt : List ((Str × Str) × Str) := []
  cvl : List ((Str × Str) × V) := []
  opr : List (Str × Operator) := []
  sub : List ((Str × Str) × Bool) := []
  tups : List (Str × List He.Dv) := []
def Hd.pg (h : Hd) : Pg where
  defs := h.defs
  sd := ⟨h.frees, h.globs.map (·.1), h.fns, h.clss, h.mks, h.errs.map (·.c), h.ecls, h.lfns⟩
  gv := fun K x => (h.globs.lookup x).map (He.Dv.v K)
  tabs := h.tabs.map fun t => ⟨fun K => He.ga K t.1, t.2⟩
  mth := fun c m => h.mth.lookup (c, m)
  prp := fun c m => h.prp.lookup (c, m)
  fld := fun c f => h.fld.elem (c, f)
  isi := fun c r => h.isi.lookup (c, r)
  xf := fun c => (h.errs.find? fun e => e.c == c).map (·.fs)
  kwo := fun k l ks => h.kwo.lookup (k, l, ks)
  exm := fun cn c => h.exm.lookup (cn, c)
  eis := fun cn c => h.eis.lookup (cn, c)
  smt := fun c m => h.smt.lookup (c, m)
  cmt := fun c m => h.cmt.lookup (c, m)
  cvl := fun c m => h.cvl.lookup (c, m)
  opr := fun c op => h.opr.any fun q => decide (q = (c, op))
  sub := fun c' c => h.sub.lookup (c', c)
/-! #### tables -/
def tabL : List DictEntry → List (Str × V) → Bool
  | [], [] => true
  | e :: es, (k, v) :: r => (match e.key with
    | .str x _ => decide (x = k) && He.relB v e.val
    | _ => false) && tabL es r
  | _, _ => false
def tabB (K : PySem.W.Frag) (a : Addr) (kvs : List (Str × V)) : Bool := match K.lookup a with
  | some ⟨_, _, .dict es _, _⟩ => tabL es.toList kvs
  | _ => false
theorem tabL_ref : ∀ {es : List DictEntry} {kvs : List (Str × V)}, tabL es kvs = true → es.any (·.refKey) = false
  | [], _, _ => rfl
  | e :: es, [], h => by cases h
  | e :: es, (k, v) :: r, h => by
    unfold tabL at h
    obtain ⟨h1, h2⟩ := He.ba h
    rw [List.any_cons, tabL_ref h2, Bool.or_false]
    split at h1
    · rename_i x t ek
      unfold DictEntry.refKey
      rw [ek]
    · cases h1
theorem tabL_ok (z : Str) : ∀ {es : List DictEntry} {kvs : List (Str × V)}, tabL es kvs = true → RelO (kvs.lookup z) ((es.find? (·.key.isStr z)).map (·.val))
  | [], [], _ => trivial
  | [], _ :: _, h => by cases h
  | e :: es, [], h => by cases h
  | e :: es, (k, v) :: r, h => by
    unfold tabL at h
    obtain ⟨h1, h2⟩ := He.ba h
    split at h1
    · rename_i x t ek
      obtain ⟨h3, h4⟩ := He.ba h1
      have ex : x = k := of_decide_eq_true h3
      rw [List.lookup_cons, List.find?_cons]
      have es' : e.key.isStr z = (x == z) := by rw [ek] <;> rfl
      rw [es', ex]
      by_cases hz : z = k
      · rw [hz, beq_self_eq_true]
        exact He.relB_ok h4
      · have e1 : (z == k) = false := beq_false_of_ne hz
        have e2 : (k == z) = false := beq_false_of_ne fun q => hz q.symm
        rw [e1, e2]
        exact tabL_ok z h2
    · cases h1
theorem tabB_ok {K : PySem.W.Frag} {a : Addr} {kvs : List (Str × V)} (h : tabB K a kvs = true) (z : Str) : ∃ r, PySem.W.nsIn K a z = some r ∧ RelO (kvs.lookup z) r := by
  unfold tabB at h
  unfold PySem.W.nsIn
  split at h
  · rename_i es n sl e
    rw [e]
    have k := tabL_ok z h
    dsimp only
    cases q : es.toList.find? (·.key.isStr z) with
    | some u =>
      rw [q] at k
      exact ⟨_, rfl, k⟩
    | none =>
      rw [q] at k
      rw [tabL_ref h]
      exact ⟨_, rfl, k⟩
  · cases h
/-! #### defs -/
def fnV (K : PySem.W.Frag) (a : Addr) : He.FnW := match K.lookup a with
  | some ⟨_, _, .func fd, _⟩ => some (fd.name, fd.qualname, fd.params, fd.body, fd.scope, fd.globals, fd.closure, fd.builtins)
  | _ => none
def DefI.val (d : DefI) : He.FnW := some (d.name, d.qual, defArgs d.st, .stmts (defBody d.st), defScope d.st, mainGlobals, [], builtinsNs)
def DefI.ok (K : PySem.W.Frag) (d : DefI) : Bool := PySem.W.keepIn K (.ref (d.at_.ad K)) && (match K.lookup (d.at_.ad K) with
  | some ⟨_, _, .func fd, _⟩ => PySem.W.codeIn K fd.code d.qual && He.dflB K fd.defaults d.dvs
  | _ => false)
theorem DefI.funD {K : PySem.W.Frag} {d : DefI} (e : fnV K (d.at_.ad K) = d.val) (c : d.ok K = true) : ∃ fd, FunD K d.name d.qual (defArgs d.st) (defBody d.st) (defScope d.st) d.dvs [] (d.at_.ad K) fd := by
  obtain ⟨kp, c2⟩ := He.ba c
  unfold fnV at e
  cases q : K.lookup (d.at_.ad K) with
  | none => rw [q] at c2; cases c2
  | some o =>
    obtain ⟨oc, od, dt, osl⟩ := o
    rw [q] at c2 e
    cases dt with
    | func fd =>
      obtain ⟨n1, n2, n3, n4, n5, n6, n7, n8, n9, n10, n11, n12, n13, n14, n15⟩ := fd
      have e' := Option.some.inj e
      simp only [Prod.mk.injEq] at e'
      obtain ⟨h1, h2, h3, h4, h5, h6, h7, h8⟩ := e'
      rw [h1, h2, h3, h4, h5, h6, h7, h8] at q
      obtain ⟨k1, k2⟩ := He.ba c2
      exact ⟨_, ⟨oc, od, n8, n9, n10, n11, n12, n13, n14, osl, rfl, q, k1, He.dflB_ok k2, .inl rfl⟩, kp⟩
    | _ => cases c2
/-! #### the check -/
def tyL : List String := ["NoneType", "bool", "int", "str", "list", "tuple", "dict"]
def crW (K : PySem.W.Frag) (r : CR) : Value := match r with | .ty n => .type n | .own x => .ref (He.ga K x)
def gloB (K : PySem.W.Frag) (x : Str) : Bool := (He.Fa.glo x).ok K
def excB (K : PySem.W.Frag) (D : Addr) : Bool := He.eqO (PySem.W.findIn K (.ref D) "__getattribute__") (some (some (.builtin "BaseException.__getattribute__"))) && (decide (PySem.W.findIn K (.ref D) "__getattr__" = some none) && (decide (PySem.W.subIn K (.ref D) (.type "BaseException") = some true) && (PySem.W.hasDictIn K D &&
  (He.eqO (PySem.W.findIn K (.ref D) "__class__") (some (some (.builtin "object.__class__"))) && (He.eqO (PySem.W.specialIn K (.builtin "object.__class__") "__get__") (some (some (.builtin "getset_descriptor.__get__"))) && (decide (PySem.W.takesIn K (.builtin "object.__class__") = some true) && decide (PySem.W.mroIn K D (.type "object") = some true)))))))
theorem excB_ok {K : PySem.W.Frag} {D : Addr} (h : excB K D = true) : ExcC K D := by
  unfold excB at h
  obtain ⟨h1, h⟩ := He.ba h
  obtain ⟨h2, h⟩ := He.ba h
  obtain ⟨h3, h⟩ := He.ba h
  obtain ⟨h4, h⟩ := He.ba h
  obtain ⟨h5, h⟩ := He.ba h
  obtain ⟨h6, h⟩ := He.ba h
  obtain ⟨h7, h8⟩ := He.ba h
  exact ⟨He.eqO_ok h1, of_decide_eq_true h2, of_decide_eq_true h3, h4, He.eqO_ok h5, He.eqO_ok h6, of_decide_eq_true h7, of_decide_eq_true h8⟩
def smtB (K : PySem.W.Frag) (C p : Addr) (m : Str) (g : Addr) : Bool := PySem.W.readsIn K C (.type "type") && (He.eqO (PySem.W.specialIn K (.ref C) "__getattribute__") (some (some (.builtin "type.__getattribute__"))) && ((match PySem.W.findCls K (.ref C) (.type "type") m with
    | some (.get (.builtin b) (.ref p') .none (.ref C')) => decide (b = "staticmethod.__get__") && (decide (p' = p) && decide (C' = C))
    | _ => false) && (match PySem.W.recIn K p "staticmethod" with
    | some (.ref g' :: _) => decide (g' = g)
    | _ => false)))
theorem smtB_ok {K : PySem.W.Frag} {C p : Addr} {m : Str} {g : Addr} (h : smtB K C p m g = true) : ∃ mc q rest, ClX.CRead K C mc ∧ PySem.W.findCls K (.ref C) mc m = some (.get (.builtin "staticmethod.__get__") (.ref q) .none (.ref C)) ∧ PySem.W.recIn K q "staticmethod" = some (.ref g :: rest) := by
  unfold smtB at h
  obtain ⟨h1, h⟩ := He.ba h
  obtain ⟨h2, h⟩ := He.ba h
  obtain ⟨h3, h4⟩ := He.ba h
  split at h3
  · rename_i b p' C' e
    obtain ⟨q1, q⟩ := He.ba h3
    obtain ⟨q2, q3⟩ := He.ba q
    rw [of_decide_eq_true q1, of_decide_eq_true q2, of_decide_eq_true q3] at e
    split at h4
    · rename_i g' rest e'
      rw [of_decide_eq_true h4] at e'
      exact ⟨.type "type", p, rest, ⟨h1, He.eqO_ok h2⟩, e, e'⟩
    · cases h4
  · cases h3
def cmtB (K : PySem.W.Frag) (C p : Addr) (m : Str) (g : Addr) : Bool := PySem.W.readsIn K C (.type "type") && (He.eqO (PySem.W.specialIn K (.ref C) "__getattribute__") (some (some (.builtin "type.__getattribute__"))) && ((match PySem.W.findCls K (.ref C) (.type "type") m with
    | some (.get (.builtin b) (.ref p') .none (.ref C')) => decide (b = "classmethod.__get__") && (decide (p' = p) && decide (C' = C))
    | _ => false) && ((match PySem.W.recIn K p "classmethod" with
    | some (.ref g' :: _) => decide (g' = g)
    | _ => false) && PySem.W.fnIn K g)))
theorem cmtB_ok {K : PySem.W.Frag} {C p : Addr} {m : Str} {g : Addr} (h : cmtB K C p m g = true) : ∃ mc q, ClX.CRead K C mc ∧ ClX.CMet K C mc m q g := by
  unfold cmtB at h
  obtain ⟨h1, h⟩ := He.ba h
  obtain ⟨h2, h⟩ := He.ba h
  obtain ⟨h3, h4⟩ := He.ba h
  obtain ⟨h4, h5⟩ := He.ba h4
  split at h3
  · rename_i b p' C' e
    obtain ⟨q1, q⟩ := He.ba h3
    obtain ⟨q2, q3⟩ := He.ba q
    rw [of_decide_eq_true q1, of_decide_eq_true q2, of_decide_eq_true q3] at e
    split at h4
    · rename_i g' rest e'
      rw [of_decide_eq_true h4] at e'
      exact ⟨.type "type", p, ⟨h1, He.eqO_ok h2⟩, ⟨e, ⟨rest, e'⟩, h5⟩⟩
    · cases h4
  · cases h3
def cvlB (K : PySem.W.Frag) (C : Addr) (f : Str) (v : V) : Bool := PySem.W.readsIn K C (.type "type") && (He.eqO (PySem.W.specialIn K (.ref C) "__getattribute__") (some (some (.builtin "type.__getattribute__"))) && (match PySem.W.findCls K (.ref C) (.type "type") f with
    | some (.val u) => He.relB v u
    | _ => false))
theorem cvlB_ok {K : PySem.W.Frag} {C : Addr} {f : Str} {v : V} (h : cvlB K C f v = true) : ∃ mc u, ClX.CRead K C mc ∧ ClX.CVal K C mc f v u := by
  unfold cvlB at h
  obtain ⟨h1, h⟩ := He.ba h
  obtain ⟨h2, h3⟩ := He.ba h
  split at h3
  · rename_i u e
    exact ⟨.type "type", u, ⟨h1, He.eqO_ok h2⟩, ⟨e, He.relB_ok h3⟩⟩
  · cases h3
def refB (r : Option (Option Value)) : Bool := match r with
  | some (some (.ref _)) => true
  | _ => false
theorem refB_ok {r : Option (Option Value)} (h : refB r = true) : ∃ f : Addr, r = some (some (.ref f)) := by
  unfold refB at h
  split at h
  · exact ⟨_, rfl⟩
  · cases h
def oprB (K : PySem.W.Frag) (C : Addr) (op : Operator) : Bool := bitO op && (PySem.W.selfFirst K C && (refB (PySem.W.findIn K (.ref C) (PySem.dunder op.info.2)) && (refB (PySem.W.findIn K (.ref C) (PySem.dunderR op.info.2)) && ((PySem.W.findIn K (.type "int") (PySem.dunder op.info.2)).isSome && ((PySem.W.findIn K (.type "int") (PySem.dunderR op.info.2)).isSome &&
  (decide (PySem.W.subIn K (.type "int") (.ref C) = some false) && (decide (PySem.W.subIn K (.ref C) (.type "int") = some false) && (decide (PySem.W.findIn K (.type "int") (PySem.dunderI op.info.2) = some none) && ((PySem.W.clsIn K C).any fun cd => cd.mro.all fun c => decide (PySem.W.findIn K c (PySem.dunderI op.info.2) = some none))))))))))
theorem oprB_ok {K : PySem.W.Frag} {C : Addr} {op : Operator} (h : oprB K C op = true) : OprF K C op := by
  unfold oprB at h
  obtain ⟨h1, h⟩ := He.ba h
  obtain ⟨h2, h⟩ := He.ba h
  obtain ⟨h3, h⟩ := He.ba h
  obtain ⟨h4, h⟩ := He.ba h
  obtain ⟨h5, h⟩ := He.ba h
  obtain ⟨h6, h⟩ := He.ba h
  obtain ⟨h7, h⟩ := He.ba h
  obtain ⟨h8, h⟩ := He.ba h
  obtain ⟨h9, h10⟩ := He.ba h
  exact ⟨h1, h2, refB_ok h3, refB_ok h4, h5, h6, of_decide_eq_true h7, of_decide_eq_true h8, of_decide_eq_true h9, h10⟩
/-- the module's tuples -/
def Hd.Tups (h : Hd) (K : PySem.W.Frag) : Prop := ∀ t ∈ h.tups, ∀ H : Hp, SqT K H (He.ga K t.1) (t.2.map (He.Dv.v K))
def Hd.okB0 (h : Hd) (K : PySem.W.Frag) : Bool :=
  h.defs.all (·.ok K) && (h.frees.all (fun x => (He.Fa.free x).ok K) && (h.globs.all (fun q => match PySem.W.nsIn K mainGlobals q.1 with
    | some (some u) => He.relB (q.2.v K) u
    | _ => false) && (h.fns.all (gloB K) && (h.clss.all (fun c => gloB K c && tyL.all fun t => decide (PySem.W.kitOne K (.type t) (.ref (He.ga K c)) = some false)) &&
  (h.mks.all (fun c => gloB K c && (PySem.W.makesIn K (He.ga K c) && PySem.W.keepIn K (.ref (He.ga K c)))) &&
  (h.mth.all (fun q => match h.pg.find q.2 with
    | some d => (He.Fa.cls q.1.1).ok K && ((He.Fa.meth q.1.1 q.1.2).ok K && decide (d.at_.ad K = He.ma K (He.ga K q.1.1) q.1.2))
    | none => false) &&
  (h.prp.all (fun q => match h.pg.find q.2 with
    | some d => (He.Fa.cls q.1.1).ok K && (He.eqO (PySem.W.findIn K (.ref (He.ga K q.1.1)) q.1.2) (some (some (.ref (He.ma K (He.ga K q.1.1) q.1.2)))) &&
      (He.eqO (PySem.W.specialIn K (.ref (He.ma K (He.ga K q.1.1) q.1.2)) "__get__") (some (some (.builtin "property.__get__"))) && (decide (PySem.W.takesIn K (.ref (He.ma K (He.ga K q.1.1) q.1.2)) = some true) &&
      (match PySem.W.recIn K (He.ma K (He.ga K q.1.1) q.1.2) "property" with
        | some (.ref g :: _) => decide (g = d.at_.ad K)
        | _ => false))))
    | none => false) &&
  (h.fld.all (fun q => (He.Fa.cls q.1).ok K && (He.Fa.noat q.1 q.2).ok K) &&
  (h.isi.all (fun q => (He.Fa.cls q.1.1).ok K && (He.eqO (PySem.W.findIn K (.ref (He.ga K q.1.1)) "__class__") (some (some (.builtin "object.__class__"))) &&
      (He.eqO (PySem.W.specialIn K (.builtin "object.__class__") "__get__") (some (some (.builtin "getset_descriptor.__get__"))) && (decide (PySem.W.takesIn K (.builtin "object.__class__") = some true) &&
      (decide (PySem.W.mroIn K (He.ga K q.1.1) (.type "object") = some true) && decide (PySem.W.kitOne K (.ref (He.ga K q.1.1)) (crW K q.1.2) = some q.2)))))) &&
  (h.tabs.all (fun t => tabB K (He.ga K t.1) t.2) && (h.ecls.all (gloB K) && (h.exm.all (fun q => decide (PySem.W.exmOne K (.ref (He.ga K q.1.1)) (.ref (He.ga K q.1.2)) = some q.2)) && (h.eis.all (fun q => excB K (He.ga K q.1.1) && decide (PySem.W.kitOne K (.ref (He.ga K q.1.1)) (crW K q.1.2) = some q.2)) &&
  (h.errs.all (fun e => xfB K (He.ga K e.c) && e.fs.all fun f => decide (PySem.W.findIn K (.ref (He.ga K e.c)) f = some none)) && (h.lfns.all (gloB K) && (h.smt.all (fun q => match h.pg.find q.2 with
    | some d => smtB K (He.ga K q.1.1) (He.ma K (He.ga K q.1.1) q.1.2) q.1.2 (d.at_.ad K)
    | none => false) && (h.cmt.all (fun q => match h.pg.find q.2 with
    | some d => cmtB K (He.ga K q.1.1) (He.ma K (He.ga K q.1.1) q.1.2) q.1.2 (d.at_.ad K)
    | none => false) && (h.cvl.all (fun q => cvlB K (He.ga K q.1.1) q.1.2 q.2) && (h.opr.all (fun q => oprB K (He.ga K q.1) q.2) && (h.sub.all (fun q => decide (PySem.W.subIn K (.ref (He.ga K q.1.1)) (.ref (He.ga K q.1.2)) = some q.2) && !decide (He.ga K q.1.2 = He.ga K q.1.1)) && (h.mth.all (fun q => !decide (q.1.2 = ("__eq__" : Str)) || ((tyL.all fun t => decide (PySem.W.subIn K (.type t) (.ref (He.ga K q.1.1)) = some false)) && (He.eqO (PySem.W.findIn K (.ref (He.ga K q.1.1)) "__ne__") (some (some (.builtin "object.__ne__"))) && decide (PySem.W.mroIn K (He.ga K q.1.1) (.type "object") = some true)))) &&
  (h.defs.filter (·.lam)).all fun d => (h.defs.filter (·.lam)).all fun d' => !decide (tabA K d' = tabA K d) || decide (d'.qual = d.qual))))))))))))))))))))))
def Hd.okB (h : Hd) (K : PySem.W.Frag) : Bool := h.tups.all (fun t => He.tupB K t.1 t.2) && h.okB0 K
abbrev AlU : Type := Bool × List He.FnW × List (Option (List (Option (Str × Int)))) × List ErrW
def Hd.obs (h : Hd) (file : Str) (K : PySem.W.Frag) : AlU := (h.okB K && h.errs.all fun e => e.ok K file, h.defs.map fun d => fnV K (d.at_.ad K), h.tabs.map fun t => He.dicW K (He.ga K t.1), h.errs.map fun e => e.obs K)
def Hd.val (h : Hd) (w : World) : AlU := (true, h.defs.map DefI.val, h.tabs.map (fun t => some (He.keysIn w.params (t.2.map (·.1)))), h.errs.map ErrD.val)
/-- the tables of the defs that make lambdas: empty, not in K -/
structure Hd.Tab (h : Hd) (hp : Heap) (K : PySem.W.Frag) : Prop where
  hd : ∀ d ∈ h.defs, d.lam = true → PySem.W.codeHdIn K (codeA K d) (tabA K d) = true
  out : ∀ d ∈ h.defs, d.lam = true → K.lookup (tabA K d) = none
  empty : ∀ d ∈ h.defs, d.lam = true → hp.get? (tabA K d) = some { cls := .none, data := .fields #[] }
def Hd.tabG (h : Hd) (g : Addr → Option Obj) (K : PySem.W.Frag) : Bool := (h.defs.filter (·.lam)).all fun d => PySem.W.codeHdIn K (codeA K d) (tabA K d) && (match g (tabA K d) with
  | some o => He.emptyTab o
  | none => false)
def Hd.obsG (h : Hd) (file : Str) (n : Nat) (g : Addr → Option Obj) : AlU × Bool := (h.obs file (He.frT g (cStatics :: He.asD g n)), h.tabG g (He.frT g (cStatics :: He.asD g n)))
theorem Hd.tab_of {h : Hd} {hp : Heap} {as : List Addr} (e : h.tabG hp.get? (He.frT hp.get? as) = true) : h.Tab hp (He.frT hp.get? as) := by
  have key : ∀ d ∈ h.defs, d.lam = true → PySem.W.codeHdIn (He.frT hp.get? as) (codeA (He.frT hp.get? as) d) (tabA (He.frT hp.get? as) d) = true ∧ ∃ o, hp.get? (tabA (He.frT hp.get? as) d) = some o ∧ He.emptyTab o = true := fun d h1 h2 => by
    obtain ⟨h3, h4⟩ := He.ba (List.all_eq_true.mp e d (List.mem_filter.mpr ⟨h1, h2⟩))
    refine ⟨h3, ?_⟩
    cases q : hp.get? (tabA (He.frT hp.get? as) d) with
    | none => rw [q] at h4; cases h4
    | some o => rw [q] at h4; exact ⟨o, rfl, h4⟩
  refine ⟨fun d h1 h2 => (key d h1 h2).1, fun d h1 h2 => ?_, fun d h1 h2 => ?_⟩
  · obtain ⟨_, o, q, z⟩ := key d h1 h2
    exact He.frT_none q z
  · obtain ⟨_, o, q, z⟩ := key d h1 h2
    rw [q, He.emptyTab_eq z]
def Hd.hook (h : Hd) (file : Str) (n : Nat) : PySem.W.Hook where
  α := AlU × Bool
  obs := fun s => h.obsG file n s.heap.get?
  val := fun w => (h.val w, true)
  says := fun w hp => ∃ K : PySem.W.Frag, K.In hp ∧ h.obs file K = h.val w ∧ h.Tab hp K
  of := fun w s e => ⟨_, He.frT_in, congrArg Prod.fst e, Hd.tab_of (congrArg Prod.snd e)⟩
  keeps := fun _ _ _ ⟨K, hK, c, t⟩ k => ⟨K, PySem.W.Frag.In.keeps hK k, c, t.hd, t.out, fun d h1 h2 => k _ _ (t.empty d h1 h2)⟩
def Hd.ob (h : Hd) (file : Str) (n : Nat) (s : PySem.W.SharedT) : AlU × Bool := h.obsG file n (HandSHeadRun.getT s)
theorem Hd.ob_eq (h : Hd) (file : Str) (n : Nat) (s : PySem.W.SharedT) : h.ob file n s = (h.hook file n).obs s.abs := by
  have e : HandSHeadRun.getT s = s.abs.heap.get? := funext (HandSHeadRun.getT_eq s)
  unfold Hd.ob
  rw [e] <;> rfl
/-! #### what is judged of the text alone -/
def scB (N ps : List Str) (sc : Scope) : Bool := (match sc.kind with | .function => true | _ => false) && (!sc.isCoroutine && (!sc.isGenerator && (decide N.Nodup && (decide (N.take ps.length = ps) &&
  (ps.all (fun x => match sc.names.lookup x with | some .local => true | some .cell => true | _ => false) && sc.names.all fun y => match y.2 with | .free => false | _ => true)))))
theorem scB_ok {N ps : List Str} {sc : Scope} (h : scB N ps sc = true) : FnScope N ps sc := by
  unfold scB at h
  obtain ⟨h1, h⟩ := He.ba h
  obtain ⟨h2, h⟩ := He.ba h
  obtain ⟨h3, h⟩ := He.ba h
  obtain ⟨h4, h⟩ := He.ba h
  obtain ⟨h5, h⟩ := He.ba h
  obtain ⟨h6, h7⟩ := He.ba h
  refine ⟨?_, by simpa using h2, by simpa using h3, of_decide_eq_true h4, of_decide_eq_true h5, fun x hx => ?_, fun y hy e => ?_⟩
  · split at h1
    · assumption
    · cases h1
  · have := List.all_eq_true.mp h6 x hx
    split at this
    · rename_i e; exact .inl e
    · rename_i e; exact .inr e
    · cases this
  · have := List.all_eq_true.mp h7 y hy
    rw [e] at this
    cases this
def visB (sc : Scope) (x : Str) : Bool := match sc.names.lookup x with
  | some .local => true | some .cell => true | some .free => true | _ => false
theorem visB_ok {sc : Scope} {x : Str} (h : visB sc x = true) : Vis sc x := by
  unfold visB at h
  split at h
  · rename_i e; exact .inl e
  · rename_i e; exact .inr (.inl e)
  · rename_i e; exact .inr (.inr e)
  · cases h
def lfnB (h : Hd) (x : Str) : Bool := match h.pg.find x with
  | none => false
  | some d => (match d.ps with
    | [a] => decide (d.at_ = .glo x) && (decide (d.name = x) && (decide (d.qual = x) && (decide (d.N[0]? = some a) && (visB (defScope d.st) a && (!(a == ("__debug__" : Str)) && (!(a == ("__classdict__" : Str)) && (!d.lam && !d.star)))))))
    | _ => false)
theorem lfnB_ok {h : Hd} {x : Str} (e : lfnB h x = true) : ∃ d a, h.pg.find x = some d ∧ d.at_ = .glo x ∧ d.name = x ∧ d.qual = x ∧ d.ps = [a] ∧ d.N[0]? = some a ∧ Vis (defScope d.st) a ∧ ((a == ("__debug__" : Str)) = false ∧ (a == ("__classdict__" : Str)) = false) ∧ d.lam = false ∧ d.star = false := by
  unfold lfnB at e
  cases q : h.pg.find x with
  | none => rw [q] at e; cases e
  | some d =>
    rw [q] at e
    dsimp only at e
    split at e
    · rename_i a ea
      obtain ⟨h1, e⟩ := He.ba e
      obtain ⟨h2, e⟩ := He.ba e
      obtain ⟨h3, e⟩ := He.ba e
      obtain ⟨h4, e⟩ := He.ba e
      obtain ⟨h5, e⟩ := He.ba e
      obtain ⟨h6, e⟩ := He.ba e
      obtain ⟨h7, e⟩ := He.ba e
      obtain ⟨h8, h9⟩ := He.ba e
      exact ⟨d, a, rfl, of_decide_eq_true h1, of_decide_eq_true h2, of_decide_eq_true h3, ea, of_decide_eq_true h4, visB_ok h5, ⟨by simpa using h6, by simpa using h7⟩, by simpa using h8, by simpa using h9⟩
    · cases e
def Hd.stat (h : Hd) : Bool := h.defs.all (fun d => scB d.N d.ps (defScope d.st) && (chk h.pg.sd d.body ⟨d.N, defScope d.st, true, true, d.lam⟩).ss (defBody d.st)) &&
  h.fns.all (fun x => match h.pg.find x with
    | some d => decide (d.at_ = .glo x)
    | none => false) && (h.errs.all (·.stat) && (decide ((h.errs.map (·.c)).Nodup) && h.lfns.all (lfnB h)))
/-- how a def's arguments are bound -/
structure DefI.Bnd (h : Hd) (d : DefI) : Prop where
  all : d.star = false → ∀ us its : List Value, us.length = d.ps.length → its.length = d.dvs.length → BindE d ⟨us, []⟩ its (d.ps.zip us)
  dfl : d.star = false → ∀ n, n < d.ps.length → d.ps.length ≤ n + d.dvs.length → ∀ us its : List Value, us.length = n → its.length = d.dvs.length → BindE d ⟨us, []⟩ its (d.ps.zip (us ++ its.drop (n + d.dvs.length - d.ps.length)))
  st : d.star = true → StarB d
  kw : ∀ l ks ord, ((d.key, l, ks), ord) ∈ h.kwo → (d.star = false ∧ ord.length = d.ps.length) ∧ ∀ us ws its : List Value, us.length = l → ws.length = ks.length → its.length = d.dvs.length →
    ∃ ts, ord.mapM (fun i => (us ++ (ws ++ its))[i]?) = some ts ∧ BindE d ⟨us, ks.zip ws⟩ its (d.ps.zip ts)
theorem find_err {l : List ErrD} (hn : (l.map (·.c)).Nodup) {e : ErrD} (he : e ∈ l) : (l.find? fun e' => e'.c == e.c) = some e := by
  induction l with
  | nil => cases he
  | cons a r ih =>
    rw [List.map_cons, List.nodup_cons] at hn
    rw [List.find?_cons]
    rcases List.mem_cons.mp he with rfl | he
    · simp
    · have : (a.c == e.c) = false := beq_false_of_ne fun z => hn.1 (z ▸ List.mem_map.mpr ⟨e, he, rfl⟩)
      rw [this]
      exact ih hn.2 he
theorem pgOk_of {h : Hd} {P : Program} {w : World} {K : PySem.W.Frag} {mg : Str → Option Value} {hp : Heap} (st : h.stat = true) (bn : ∀ d ∈ h.defs, d.Bnd h) (be : ∀ e ∈ h.errs, e.Bnd) (top : (P.main.scope.names.lookup ("super" : Str)).isSome = false) (KX : K.In hp) (G : hp.Ns mainGlobals mg) (c : h.obs P.main.file K = h.val w) : PgOk h.pg P w K mg := by
  obtain ⟨c1, ce⟩ := He.ba (show (h.okB K && h.errs.all fun e => e.ok K P.main.file) = true from congrArg (fun z : AlU => z.1) c)
  have c2 : (h.defs.map fun d => fnV K (d.at_.ad K)) = h.defs.map DefI.val := congrArg (fun z : AlU => z.2.1) c
  have c3 : (h.tabs.map fun t => He.dicW K (He.ga K t.1)) = h.tabs.map fun t => some (He.keysIn w.params (t.2.map (·.1))) := congrArg (fun z : AlU => z.2.2.1) c
  have c4 : (h.errs.map fun e => e.obs K) = h.errs.map ErrD.val := congrArg (fun z : AlU => z.2.2.2) c
  obtain ⟨_, c1⟩ := He.ba (show (h.tups.all (fun t => He.tupB K t.1 t.2) && h.okB0 K) = true from c1)
  unfold Hd.okB0 at c1
  obtain ⟨k1, c1⟩ := He.ba c1
  obtain ⟨k2, c1⟩ := He.ba c1
  obtain ⟨k3, c1⟩ := He.ba c1
  obtain ⟨k4, c1⟩ := He.ba c1
  obtain ⟨k5, c1⟩ := He.ba c1
  obtain ⟨k6, c1⟩ := He.ba c1
  obtain ⟨k7, c1⟩ := He.ba c1
  obtain ⟨k8, c1⟩ := He.ba c1
  obtain ⟨k9, c1⟩ := He.ba c1
  obtain ⟨k10, c1⟩ := He.ba c1
  obtain ⟨k11, c1⟩ := He.ba c1
  obtain ⟨k12, c1⟩ := He.ba c1
  obtain ⟨k13, c1⟩ := He.ba c1
  obtain ⟨k14, c1⟩ := He.ba c1
  obtain ⟨k15, c1⟩ := He.ba c1
  obtain ⟨k16, c1⟩ := He.ba c1
  obtain ⟨k18, c1⟩ := He.ba c1
  obtain ⟨k20, c1⟩ := He.ba c1
  obtain ⟨k21, c1⟩ := He.ba c1
  obtain ⟨k22, c1⟩ := He.ba c1
  obtain ⟨k23, c1⟩ := He.ba c1
  obtain ⟨k19, k17⟩ := He.ba c1
  obtain ⟨s1', s3⟩ := He.ba st
  obtain ⟨s1, s2⟩ := He.ba s1'
  obtain ⟨s3, s4⟩ := He.ba s3
  obtain ⟨s4, s5⟩ := He.ba s4
  have eqW : ∀ c key, h.mth.lookup (c, ("__eq__" : Str)) = some key → ((tyL.all fun t => decide (PySem.W.subIn K (.type t) (.ref (He.ga K c)) = some false)) && (He.eqO (PySem.W.findIn K (.ref (He.ga K c)) "__ne__") (some (some (.builtin "object.__ne__"))) && decide (PySem.W.mroIn K (He.ga K c) (.type "object") = some true))) = true := fun c key hx => by
    have k := List.all_eq_true.mp k19 _ (lookup_mem hx)
    dsimp only at k
    rw [decide_eq_true rfl, Bool.not_true, Bool.false_or] at k
    exact k
  refine ⟨fun d hd => ?_, fun t ht => ?_, fun x hx => ?_, fun x hx => ?_, fun x hx => ?_, fun x hx => ?_, fun x hx => ?_, fun x hx => ?_, fun c m key hx => ?_, fun c m key hx => ?_, fun c op hx => ?_, fun c' c b hx => ?_, fun c f v hx => ?_, fun c key hx => ?_, fun c key hx => ?_, fun x hx => ?_, fun d hd1 hd2 d' hd3 hd4 e => ?_, fun x hx => ?_, fun cn x k hx => ?_, fun cn x k hx => ?_, fun cn es hx => ?_, fun x m key hx => ?_, fun x m key hx => ?_, fun x f hx => ?_, fun x r b hx => ?_⟩
  · have e : fnV K (d.at_.ad K) = d.val := List.map_inj_left.mp c2 d hd
    obtain ⟨fd, F⟩ := DefI.funD e (List.all_eq_true.mp k1 d hd)
    obtain ⟨s3, s4⟩ := He.ba (List.all_eq_true.mp s1 d hd)
    obtain ⟨its, rI, hB⟩ := bindE_of F
    have li : its.length = d.dvs.length := rI.length.symm
    refine ⟨⟨fd, F, fun hs => ⟨fun s us KX hl => ?_, its, rI, fun s us KX hl => ?_⟩, (bn d hd).st, fun l ks ord ho => ⟨((bn d hd).kw l ks ord (lookup_mem ho)).1.1, ((bn d hd).kw l ks ord (lookup_mem ho)).1.2, its, rI, fun s us ws KX hl hz => ?_⟩⟩, scB_ok s3, s4⟩
    · rw [List.append_nil]
      exact hB s _ _ KX ((bn d hd).all hs us its (by rw [List.append_nil] at hl; exact hl) li)
    · by_cases e : us.length = d.ps.length
      · rw [List.drop_of_length_le (by omega), List.append_nil]
        exact hB s _ _ KX ((bn d hd).all hs us its e li)
      · rw [List.length_append, List.length_drop] at hl
        exact hB s _ _ KX ((bn d hd).dfl hs us.length (by omega) (by omega) us its rfl li)
    · obtain ⟨ts, g1, g2⟩ := ((bn d hd).kw l ks ord (lookup_mem ho)).2 us ws its hl hz li
      exact ⟨ts, g1, hB s _ _ KX g2⟩
  · obtain ⟨q, hq, rfl⟩ := List.mem_map.mp ht
    have e : He.dicW K (He.ga K q.1) = some (He.keysIn w.params (q.2.map (·.1))) := List.map_inj_left.mp c3 q hq
    obtain ⟨es, n, D⟩ := He.dicW_ok e
    exact ⟨es, n, D, tabB_ok (List.all_eq_true.mp k11 q hq)⟩
  · exact He.free_ok KX G (List.all_eq_true.mp k2 x hx)
  · obtain ⟨v, hv⟩ := lookup_of_mem hx
    have k := List.all_eq_true.mp k3 _ (lookup_mem hv)
    dsimp only at k
    cases e : PySem.W.nsIn K mainGlobals x with
    | none => rw [e] at k; cases k
    | some r =>
      rw [e] at k
      cases r with
      | none => cases k
      | some u =>
        refine ⟨v.v K, u, ?_, PySem.W.mg_of KX G e, He.relB_ok k⟩
        show (h.globs.lookup x).map (He.Dv.v K) = _
        rw [hv] <;> rfl
  · refine ⟨He.glo_ok KX G (List.all_eq_true.mp k4 x hx), ?_⟩
    have k := List.all_eq_true.mp s2 x hx
    cases e : h.pg.find x with
    | none => rw [e] at k; cases k
    | some d => rw [e] at k; exact ⟨d, rfl, of_decide_eq_true k⟩
  · obtain ⟨k, k'⟩ := He.ba (List.all_eq_true.mp k5 x hx)
    exact ⟨He.glo_ok KX G k, fun t ht => of_decide_eq_true (List.all_eq_true.mp k' t ht)⟩
  · obtain ⟨k, k'⟩ := He.ba (List.all_eq_true.mp k6 x hx)
    obtain ⟨k', k''⟩ := He.ba k'
    exact ⟨He.glo_ok KX G k, k', k''⟩
  · obtain ⟨e, he, rfl⟩ := List.mem_map.mp hx
    obtain ⟨q1, q2⟩ := errI_of (List.all_eq_true.mp s3 e he) (be e he) KX G (List.map_inj_left.mp c4 e he) (List.all_eq_true.mp ce e he) top
    refine ⟨e.fs, _, ?_, q1, q2⟩
    show (h.errs.find? fun e' => e'.c == e.c).map (·.fs) = some e.fs
    rw [find_err (of_decide_eq_true s4) he]
    rfl
  · have k := List.all_eq_true.mp k18 _ (lookup_mem hx)
    cases e : h.pg.find key with
    | none => rw [e] at k; cases k
    | some d =>
      rw [e] at k
      obtain ⟨mc, q, rest, z1, z2, z3⟩ := smtB_ok k
      exact ⟨d, mc, q, rest, rfl, z1, z2, z3⟩
  · have k := List.all_eq_true.mp k20 _ (lookup_mem hx)
    cases e : h.pg.find key with
    | none => rw [e] at k; cases k
    | some d =>
      rw [e] at k
      obtain ⟨mc, q, z1, z2⟩ := cmtB_ok k
      exact ⟨d, mc, q, rfl, z1, z2⟩
  · obtain ⟨q, hq, e⟩ := List.any_eq_true.mp (show (h.opr.any fun q => decide (q = (c, op))) = true from hx)
    obtain rfl := of_decide_eq_true e
    exact oprB_ok (List.all_eq_true.mp k22 _ hq)
  · obtain ⟨q1, q2⟩ := He.ba (List.all_eq_true.mp k23 _ (lookup_mem hx))
    exact ⟨of_decide_eq_true q1, by simpa using q2⟩
  · exact cvlB_ok (List.all_eq_true.mp k21 _ (lookup_mem hx))
  · intro t ht
    exact of_decide_eq_true (List.all_eq_true.mp (He.ba (eqW c key hx)).1 t ht)
  · obtain ⟨q1, q2⟩ := He.ba (He.ba (eqW c key hx)).2
    exact ⟨He.eqO_ok q1, of_decide_eq_true q2⟩
  · exact ⟨He.glo_ok KX G (List.all_eq_true.mp k16 x hx), lfnB_ok (List.all_eq_true.mp s5 x hx)⟩
  · have z := List.all_eq_true.mp (List.all_eq_true.mp k17 d (List.mem_filter.mpr ⟨hd1, hd2⟩)) d' (List.mem_filter.mpr ⟨hd3, hd4⟩)
    rw [decide_eq_true e] at z
    exact of_decide_eq_true (by simpa using z)
  · exact He.glo_ok KX G (List.all_eq_true.mp k12 x hx)
  · exact of_decide_eq_true (List.all_eq_true.mp k13 _ (lookup_mem hx))
  · obtain ⟨q1, q2⟩ := He.ba (List.all_eq_true.mp k14 _ (lookup_mem hx))
    exact ⟨excB_ok q1, of_decide_eq_true q2⟩
  · have hx : (h.errs.find? fun e' => e'.c == cn).map (·.fs) = some es := hx
    cases z : (h.errs.find? fun e' => e'.c == cn) with
    | none => rw [z] at hx; cases hx
    | some e =>
      rw [z] at hx
      obtain rfl : e.fs = es := Option.some.inj hx
      have ec : e.c = cn := by simpa using List.find?_some z
      obtain ⟨q1, q2⟩ := He.ba (List.all_eq_true.mp k15 _ (List.mem_of_find?_eq_some z))
      rw [ec] at q1 q2
      exact ⟨xfB_ok q1, fun f hf => of_decide_eq_true (List.all_eq_true.mp q2 f hf)⟩
  · have k := List.all_eq_true.mp k7 _ (lookup_mem hx)
    cases e : h.pg.find key with
    | none => rw [e] at k; cases k
    | some d =>
      rw [e] at k
      obtain ⟨q1, q⟩ := He.ba k
      obtain ⟨q2, q3⟩ := He.ba q
      refine ⟨d, rfl, He.cls_ok q1, ?_⟩
      rw [of_decide_eq_true q3]
      exact He.meth_ok q2
  · have k := List.all_eq_true.mp k8 _ (lookup_mem hx)
    cases e : h.pg.find key with
    | none => rw [e] at k; cases k
    | some d =>
      rw [e] at k
      obtain ⟨q1, q⟩ := He.ba k
      obtain ⟨q2, q⟩ := He.ba q
      obtain ⟨q3, q⟩ := He.ba q
      obtain ⟨q4, q5⟩ := He.ba q
      refine ⟨d, rfl, He.cls_ok q1, _, He.eqO_ok q2, He.eqO_ok q3, of_decide_eq_true q4, ?_⟩
      split at q5
      · rename_i g rest e
        rw [← of_decide_eq_true q5]
        exact ⟨rest, e⟩
      · cases q5
  · obtain ⟨q1, q2⟩ := He.ba (List.all_eq_true.mp k9 _ (by simpa [Hd.pg] using hx))
    exact ⟨He.cls_ok q1, He.noat_ok q2⟩
  · obtain ⟨q1, q⟩ := He.ba (List.all_eq_true.mp k10 _ (lookup_mem hx))
    obtain ⟨q2, q⟩ := He.ba q
    obtain ⟨q3, q⟩ := He.ba q
    obtain ⟨q4, q⟩ := He.ba q
    obtain ⟨q5, q6⟩ := He.ba q
    exact ⟨⟨He.cls_ok q1, He.eqO_ok q2, He.eqO_ok q3, of_decide_eq_true q4, of_decide_eq_true q5⟩, of_decide_eq_true q6⟩
/-! ### the call from outside, no repr under way -/
section
open LamX in
/-- what a heap with the script and the tables is told to be -/
structure Outer (K : PySem.W.Frag) (mg mb : Str → Option Value) (h : Heap) (cs : List (Addr × Addr)) (a : Addr) (us : List Value) : Prop where
  kin : K.In h
  ns : h.Ns mainGlobals mg
  nb : h.Ns builtinsNs mb
  nbb : ∀ x : Str, x ≠ "__name__" → mb x = bootBuiltins x
  lim : h.NoLimit
  tabs : ∀ p ∈ cs, h.get? p.2 = some { cls := .none, data := .fields #[] }
  free : ∀ p ∈ cs, K.lookup p.2 = none
  code : ∀ p ∈ cs, PySem.W.CodeHd h p.1 p.2
  bm : ∃ (bm : Addr) (ob : Obj), mg "__builtins__" = some (.ref bm) ∧ bm ≠ builtinsNs ∧ h.get? bm = some ob ∧ ob.cls = .type "module" ∧ ob.dict = some builtinsNs ∧ ob.data = .plain
  lst : h.get? a = some { cls := .type "list", data := .seq us.toArray }
variable {P : Program} {w : World} {K : PySem.W.Frag} {mg mb : Str → Option Value} {h : Heap} {cs : List (Addr × Addr)} {a : Addr} {us : List Value} {H : Hp}
/-- tracked: nothing but the script and the tables -/
structure Trk (K : PySem.W.Frag) (cs : List (Addr × Addr)) (a : Addr) (H : Hp) : Prop where
  tb : ∀ p ∈ cs, H p.2 = some (.tbl #[])
  only : ∀ b u, H b = some u → (b = a ∧ K.lookup a = none ∧ ∃ o xs, u = .frz o (.lst xs)) ∨ ∃ p ∈ cs, b = p.2
theorem Outer.ne (O : Outer K mg mb h cs a us) {p : Addr × Addr} (hp : p ∈ cs) : p.2 ≠ a := by
  intro e
  have h1 := O.tabs p hp
  rw [e, O.lst] at h1
  injection h1 with h1
  injection h1 with _ _ h1
  cases h1
/-- what is no list and no fields is not tracked -/
theorem Outer.nix (O : Outer K mg mb h cs a us) (T : Trk K cs a H) {b : Addr} {o : Obj} (e : h.get? b = some o) (n1 : ∀ vs n, o.data ≠ .seq vs n) (n2 : o.data ≠ .fields #[]) : H b = none := by
  match q : H b with
  | none => rfl
  | some u =>
    refine False.elim ?_
    rcases T.only b u q with ⟨rfl, _⟩ | ⟨p, hp, rfl⟩
    · rw [O.lst] at e
      injection e with e
      subst e
      exact n1 _ _ rfl
    · rw [O.tabs p hp] at e
      injection e with e
      subst e
      exact n2 rfl
theorem Outer.nsH (O : Outer K mg mb h cs a us) (T : Trk K cs a H) {b : Addr} {m : Str → Option Value} : h.Ns b m → (hidT h H).Ns b m := by
  rintro ⟨o, es, ep, e1, e2, e3⟩
  refine ⟨o, es, ep, hidT_get e1 (O.nix T e1 ?_ ?_), e2, e3⟩
  · intro vs n z; rw [e2] at z; cases z
  · intro z; rw [e2] at z; cases z
theorem Outer.kinH (O : Outer K mg mb h cs a us) (T : Trk K cs a H) : K.In (hidT h H) := by
  intro b o e
  refine hidT_get (O.kin b o e) ?_
  match q : H b with
  | none => rfl
  | some u =>
    rcases T.only b u q with ⟨rfl, z, _⟩ | ⟨p, hp, rfl⟩
    · rw [z] at e; cases e
    · rw [O.free p hp] at e; cases e
theorem Outer.modH (O : Outer K mg mb h cs a us) (T : Trk K cs a H) : L2.Mod K mg (hidT h H) := by
  obtain ⟨mc, z1, z2⟩ := O.lim
  exact ⟨O.kinH T, O.nsH T O.ns, ⟨mb, O.nsH T O.nb, O.nbb⟩, mc, O.nsH T z1, z2⟩
theorem Outer.tabH (O : Outer K mg mb h cs a us) (T : Trk K cs a H) (p : Addr × Addr) (hp : p ∈ cs) : LamX.TabB (hidT h H) mg p.1 p.2 := by
  have q := O.tabs p hp
  refine ⟨?_, ?_, ?_⟩
  · obtain ⟨o, ws, fl, tf, gs, tg, iF, tx, tt, e1, r1, r2, r3, r4, r5, r6, r7, r8, r9⟩ := O.code p hp
    refine ⟨o, ws, fl, tf, gs, tg, iF, tx, tt, hidT_get e1 (O.nix T e1 ?_ ?_), r1, r2, r3, r4, r5, r6, r7, r8, r9⟩
    · intro vs n z; rw [r2] at z; cases z
    · intro z
      rw [r2] at z
      cases z
      simp at r3
  · obtain ⟨bm, ob, b1, b2, b3, b4, b5, b6⟩ := O.bm
    refine ⟨bm, ob, b1, b2, ?_, ?_, hidT_get b3 (O.nix T b3 ?_ ?_), b4, b5, b6⟩
    · rintro rfl
      obtain ⟨o, es, ep, e, hd, _⟩ := O.ns
      rw [b3] at e
      injection e with e
      subst e
      rw [b6] at hd
      cases hd
    · rintro rfl
      rw [q] at b3
      injection b3 with b3
      subst b3
      cases b6
    · intro vs n z; rw [b6] at z; cases z
    · intro z; rw [b6] at z; cases z
  · intro z
    obtain ⟨o, es, ep, e, hd, _⟩ := O.ns
    rw [z, q] at e
    injection e with e
    subst e
    cases hd
theorem Outer.run {k : Nat} {fa : Addr} {fd : FuncData} {x : Str} {sp : Sp} {t : Shared} {zs : List Int} (O : Outer K mg mb t.heap cs a us) (T : Trk K cs a H) (hg : t.gens = #[]) (hr : RoomG k callerA)
    (F : ∀ base : Heap, K.In base → base.Ns mainGlobals mg → (∀ p ∈ cs, LamX.TabB base mg p.1 p.2) → FnG P w K mg base k fa fd [x] sp) (hb : ∀ (s : Shared) (u : Value), BindsTo s fd ⟨[u], []⟩ [(x, u)])
    (hS : SqL K H a (zs.map V.int)) (hok : HOk P w H t.heap) (hsp : sp [.ref a] H (fun v _ => v = .bl true) fun _ _ _ => False) :
    codeAny (model P w) callerA (.call (.ref fa) ⟨[.ref a], []⟩) (fun r s' => r = .ok (.ret (.bool true)) ∧ OldK t.heap s'.heap ∧ s'.os = t.os ∧ AllBare s'.gens) t := by
  have env : Env0 P w K mg (hidT t.heap H) callerA [] t H := by
    refine ⟨rfl, O.modH T, fun b o e => of_hidT e, Nat.le_of_eq (hidT_size _ _), trivial, fun b z => ?_, hok, .of_eq hg⟩
    cases (show b ∈ ([] : List Addr) from z)
  have one := (F _ (O.kinH T) (O.nsH T O.ns) (O.tabH T)).run callerA [] t H ⟨[.ref a], []⟩ [.ref a] [.ref a] _ _ hr env (hb t (.ref a)) (.cons rfl .nil) hsp
  refine codeAny_mono one fun r s' z => ?_
  match r, z with
  | .error e, z =>
    obtain ⟨_, _, _, _, _, _, _, _, _, _, _, _, z⟩ := z
    exact z.elim
  | .ok .next, z => exact z.elim
  | .ok .brk, z => exact z.elim
  | .ok .cont, z => exact z.elim
  | .ok (.ret u), z =>
    obtain ⟨v, H', os, bare, un, hok', rv, q⟩ := z
    obtain rfl : v = .bl true := q
    obtain rfl : u = Value.bool true := rv
    have tbl : ∀ p ∈ cs, ∃ more : Array Value, s'.heap.get? p.2 = some { cls := .none, data := .fields more } := fun p hp => by
      obtain ⟨more, z⟩ := un.tbls p.2 #[] (T.tb p hp)
      exact ⟨_, hok' p.2 _ z⟩
    have old : ∀ b o, (∀ p ∈ cs, b ≠ p.2) → t.heap.get? b = some o → s'.heap.get? b = some o := fun b o nb e => by
      match q : H b with
      | none => exact un.keep b o e q (fun z => by cases (show b ∈ ([] : List Addr) from z)) (by simp)
      | some u =>
        rcases T.only b u q with ⟨_, _, ob, xs, rfl⟩ | ⟨p, hp, z⟩
        · have z1 := (hok b _ q).1
          have z2 := (hok' b _ (un.frzs b ob _ q)).1
          rw [e] at z1
          injection z1 with z1
          rw [z1]
          exact z2
        · exact (nb p hp z).elim
    refine ⟨rfl, ⟨fun b o e => ?_, fun b o e => ?_⟩, os, bare⟩
    · by_cases z : ∃ p ∈ cs, b = p.2
      · obtain ⟨p, hp, rfl⟩ := z
        obtain ⟨more, hm⟩ := tbl p hp
        have q := O.tabs p hp
        rw [q] at e
        injection e with e
        subst e
        exact .inr (.inl ⟨((O.code p hp).tab q).isCodeTable, rfl, #[], more, rfl, by rw [Array.empty_append]; exact hm⟩)
      · exact .inl (old b o (fun p hp w => z ⟨p, hp, w⟩) e)
    · by_cases z : ∃ p ∈ cs, b = p.2
      · obtain ⟨p, hp, rfl⟩ := z
        obtain ⟨more, hm⟩ := tbl p hp
        exact ⟨_, hm⟩
      · exact ⟨o, old b o (fun p hp w => z ⟨p, hp, w⟩) e⟩
open Classical in
theorem Outer.call {k : Nat} {fa : Addr} {fd : FuncData} {x : Str} {sp : Sp} {t : Shared} {zs : List Int} (O : Outer K mg mb t.heap cs a us) (hg : t.gens = #[]) (hi : IntsAre us zs) (hl : zs.length ≤ sizeLine) (hr : RoomG k callerA)
    (F : ∀ base : Heap, K.In base → base.Ns mainGlobals mg → (∀ p ∈ cs, LamX.TabB base mg p.1 p.2) → FnG P w K mg base k fa fd [x] sp) (hb : ∀ (s : Shared) (u : Value), BindsTo s fd ⟨[u], []⟩ [(x, u)])
    (hsp : ∀ H : Hp, (∀ p ∈ cs, H p.2 = some (.tbl #[])) → SqL K H a (zs.map V.int) → sp [.ref a] H (fun v _ => v = .bl true) fun _ _ _ => False) :
    codeAny (model P w) callerA (.call (.ref fa) ⟨[.ref a], []⟩) (fun r s' => r = .ok (.ret (.bool true)) ∧ OldK t.heap s'.heap ∧ s'.os = t.os ∧ AllBare s'.gens) t := by
  have rv := vals_ints hi
  have le : us.length = zs.length := hi.length
  by_cases hk : (K.lookup a).isSome = true
  · obtain ⟨o, hk⟩ := Option.isSome_iff_exists.mp hk
    have e := O.kin a o hk
    rw [O.lst] at e
    injection e with e
    subst e
    let H : Hp := fun b => if ∃ p ∈ cs, b = p.2 then some (.tbl #[]) else none
    have Hb : ∀ b u, H b = some u → (∃ p ∈ cs, b = p.2) ∧ u = .tbl #[] := fun b u z => by
      by_cases q : ∃ p ∈ cs, b = p.2
      · exact ⟨q, (Option.some.inj ((if_pos q).symm.trans z)).symm⟩
      · cases (if_neg q).symm.trans z
    have tb : ∀ p ∈ cs, H p.2 = some (.tbl #[]) := fun p hp => if_pos ⟨p, hp, rfl⟩
    have S : SqL K H a (zs.map V.int) := .inr ⟨_, us.toArray, _, hk, rfl, rfl, rfl, by rw [List.size_toArray]; omega, by simpa using rv⟩
    refine O.run (H := H) ⟨tb, fun b u z => .inr (Hb b u z).1⟩ hg hr F hb S (fun b u z => ?_) (hsp H tb S)
    obtain ⟨⟨p, hp, rfl⟩, rfl⟩ := Hb b u z
    exact O.tabs p hp
  · have hk : K.lookup a = none := Option.not_isSome_iff_eq_none.mp hk
    let fr : HO := .frz { cls := .type "list", data := .seq us.toArray } (.lst (zs.map V.int))
    let H : Hp := fun b => if ∃ p ∈ cs, b = p.2 then some (.tbl #[]) else if b = a then some fr else none
    have na : ¬ ∃ p ∈ cs, a = p.2 := fun ⟨p, hp, z⟩ => O.ne hp z.symm
    have Hb : ∀ b u, H b = some u → ((∃ p ∈ cs, b = p.2) ∧ u = .tbl #[]) ∨ (b = a ∧ u = fr) := fun b u z => by
      by_cases q : ∃ p ∈ cs, b = p.2
      · exact .inl ⟨q, (Option.some.inj ((if_pos q).symm.trans z)).symm⟩
      · have z1 := (if_neg q).symm.trans z
        by_cases q2 : b = a
        · exact .inr ⟨q2, (Option.some.inj ((if_pos q2).symm.trans z1)).symm⟩
        · cases (if_neg q2).symm.trans z1
    have tb : ∀ p ∈ cs, H p.2 = some (.tbl #[]) := fun p hp => if_pos ⟨p, hp, rfl⟩
    have S : SqL K H a (zs.map V.int) := .inl (.inr ⟨{ cls := .type "list", data := .seq us.toArray }, (if_neg na).trans (if_pos rfl)⟩)
    refine O.run (H := H) ⟨tb, fun b u z => ?_⟩ hg hr F hb S (fun b u z => ?_) (hsp H tb S)
    · rcases Hb b u z with ⟨q, _⟩ | ⟨q, rfl⟩
      · exact .inr q
      · exact .inl ⟨q, hk, _, _, rfl⟩
    · rcases Hb b u z with ⟨⟨p, hp, rfl⟩, rfl⟩ | ⟨rfl, rfl⟩
      · exact O.tabs p hp
      · exact ⟨O.lst, by rw [List.length_map]; exact hl, us, _, rv, O.lst⟩
end
/-! ### the end -/
theorem walk_end {l : PySem.W.OpenLaw} {n k : Nat} {q : Program} {loose : List Str} {XP : (Str → Option Value) → Heap → Prop} {YP : World → Heap → Prop} {d : DefRec} {x : Str}
    (hn : l.most = some n) (hn2 : n ≤ sizeLine) (hdf : d.params.defaults = []) (hr : RoomG k callerA)
    (F : ∀ (w : World) (mg : Str → Option Value) (fa : Addr) (h : Heap), YP w h → h.Ns mainGlobals mg → mg d.name = some (.ref fa) →
      ∃ (K : PySem.W.Frag) (cs : List (Addr × Addr)) (fd : FuncData) (sp : Sp), K.In h ∧ (∀ p ∈ cs, h.get? p.2 = some { cls := .none, data := .fields #[] }) ∧ (∀ p ∈ cs, K.lookup p.2 = none) ∧ (∀ p ∈ cs, PySem.W.CodeHd h p.1 p.2) ∧ (∀ (s : Shared) (u : Value), BindsTo s fd ⟨[u], []⟩ [(x, u)]) ∧
        (∀ (H : Hp) (a : Addr) (ns : List Int), ns.length ≤ n → (∀ z ∈ ns, Builtin.Int.intBits z ≤ 1048576) → (∀ p ∈ cs, H p.2 = some (.tbl #[])) → SqL K H a (ns.map V.int) → sp [.ref a] H (fun v _ => v = .bl true) fun _ _ _ => False) ∧
        ∀ base : Heap, K.In base → base.Ns mainGlobals mg → (∀ p ∈ cs, LamX.TabB base mg p.1 p.2) → FnG l.prog w K mg base k fa fd [x] sp) :
    PySem.W.WalkO q loose XP YP l.row.toRowW d [] (fun f vs => PySem.call f vs) := by
  refine Att.attach_callB hn hdf fun w s₀ s₁ mg mb fa o pm cd doc a vs ns G Y ho hd hcd hmg hobj hints hlen hbits hg => ?_
  obtain ⟨K, cs, fd, sp, KX, t1, t2, t3, hb, hsp, hF⟩ := F w mg fa _ Y G.T.g hmg
  exact Outer.call ⟨KX, G.T.g, G.T.b, G.T.builtins, G.T.nolimit, t1, t2, t3, G.T.bmain, hobj⟩ hg hints (Nat.le_trans hlen hn2) hr hF hb fun H hH hS => hsp H a ns hlen hbits hH hS
/-- the promise that must be shown: the law's own text, n calls deep at most -/
def Goal (h : Hd) (n : Nat) : Prop := ∀ (w : World) (K : PySem.W.Frag) (H : Hp) (a : Addr) (ns : List Int), ns.length ≤ 63 → (∀ z ∈ ns, Builtin.Int.intBits z ≤ 1048576) → LamX.Tabs (h.pg.lt K) H → h.Tups K → SqL K H a (ns.map V.int) →
  run h.pg K w n "law" [.ref a] H (fun v _ => v = .bl true) fun _ _ _ => False
def Hd.cs (h : Hd) (K : PySem.W.Frag) : List (Addr × Addr) := (h.defs.filter (·.lam)).map fun d => (codeA K d, tabA K d)
theorem law_end {h : Hd} {l : PySem.W.OpenLaw} {q : Program} {loose : List Str} {XP : (Str → Option Value) → Heap → Prop} {d : DefRec} {m n : Nat} {x : Str} {di : DefI} (hn : l.most = some 63) (hdf : d.params.defaults = []) (hnm : d.name = "law") (st : h.stat = true) (bn : ∀ d ∈ h.defs, d.Bnd h) (be : ∀ e ∈ h.errs, e.Bnd) (top : (l.prog.main.scope.names.lookup ("super" : Str)).isSome = false)
    (hr : RoomG (5 * n + 1) callerA) (hf : h.pg.find "law" = some di) (hps : di.ps = [x] ∧ di.star = false ∧ di.dvs = []) (hat : di.at_ = .glo "law") (hfn : ("law" : Str) ∈ h.fns) (g : Goal h n) : PySem.W.WalkO q loose XP (h.hook l.prog.main.file m).says l.row.toRowW d [] (fun f vs => PySem.call f vs) := by
  refine walk_end (n := 63) (k := 5 * n + 1) (x := x) hn (by decide) hdf hr fun w mg fa hp Y G hmg => ?_
  obtain ⟨K, KX, c, t⟩ := Y
  have ok : PgOk h.pg l.prog w K mg := pgOk_of st bn be top KX G c
  obtain ⟨e1, _⟩ := ok.fn "law" hfn
  rw [hnm, e1] at hmg
  cases hmg
  obtain ⟨⟨fd, F, _⟩, _⟩ := ok.defs di (find_mem hf).1
  obtain ⟨hps, hst, hdv⟩ := hps
  have ht : h.Tups K := by
    obtain ⟨k1, _⟩ := He.ba (show (h.okB K && h.errs.all fun e => e.ok K l.prog.main.file) = true from congrArg (fun z : AlU => z.1) c)
    obtain ⟨k2, _⟩ := He.ba (show (h.tups.all (fun t => He.tupB K t.1 t.2) && h.okB0 K) = true from k1)
    exact fun t ht H => He.tupB_ok (List.all_eq_true.mp k2 t ht) H
  have b : ∀ (s : Shared) (us : List Value), us.length = di.ps.length → BindsTo s fd ⟨us, []⟩ (di.ps.zip us) := fun s us hl => by
    obtain ⟨oc, od, dV, kV, doc, pm, an, cdv, ct, osl, e, lk, hcd, hD, hK⟩ := F.ex
    rcases hD with ⟨_, e2⟩ | ⟨q, _⟩
    · cases (bn di (find_mem hf).1).all hst us [] hl (by rw [hdv] <;> rfl) with
      | nil _ q =>
        rw [e, e2]
        exact .of_eq (q kV doc pm an cdv ct)
      | one q _ => exact absurd hdv q
    · exact absurd hdv q
  have mem : ∀ p ∈ h.cs K, ∃ d ∈ h.defs, d.lam = true ∧ (codeA K d, tabA K d) = p := fun p hp => by
    obtain ⟨d, h1, h2⟩ := List.mem_map.mp hp
    obtain ⟨h3, h4⟩ := List.mem_filter.mp h1
    exact ⟨d, h3, h4, h2⟩
  refine ⟨K, h.cs K, fd, fun vs H Q E => vs.length = di.ps.length ∧ run h.pg K w n "law" vs H Q E, KX, fun p hp => ?_, fun p hp => ?_, fun p hp => ?_, fun s u => ?_, fun H a ns h1 h2 h3 h4 => ⟨by rw [hps] <;> rfl, g w K H a ns h1 h2 (fun p hp => ?_) ht h4⟩, fun base _ _ tb => ?_⟩
  · obtain ⟨d, h1, h2, rfl⟩ := mem p hp
    exact t.empty d h1 h2
  · obtain ⟨d, h1, h2, rfl⟩ := mem p hp
    exact t.out d h1 h2
  · obtain ⟨d, h1, h2, rfl⟩ := mem p hp
    exact PySem.W.codeHd_of_K KX (t.hd d h1 h2)
  · have := b s [u] (by rw [hps] <;> rfl)
    rw [hps] at this
    exact this
  · obtain ⟨d, h1, rfl⟩ := List.mem_map.mp hp
    exact LamX.TabS.nil (h3 (codeA K d, tabA K d) (List.mem_map.mpr ⟨d, h1, rfl⟩))
  · obtain ⟨fd', _, k1, _, _, _, o, k2, k3⟩ := run_ok ok base (fun d h1 h2 => tb (codeA K d, tabA K d) (List.mem_map.mpr ⟨d, List.mem_filter.mpr ⟨h1, h2⟩, rfl⟩)) n "law" di hf
    have e : fd' = fd := by
      obtain ⟨oc, od, dV, kV, doc, pm, an, cdv, ct, osl, e, lk, _⟩ := F.ex
      rw [lk] at k2
      cases k2
      simp at k3
      exact k3.symm
    have k1 := (k1 hst).1
    rw [e, hat] at k1
    rw [hps]
    rw [hps] at k1
    exact k1
end U

namespace U
open PySem PySem.Spec PyProof.Rows L2
/-! ### the readings, part by part -/
section
variable {C : Ctx} {W : WX} {σ : St} {H : Hp} {Q : VK} {D : Ends}
theorem e_k {v : V} : (rd C (.k v) W).e σ H Q = Q v H := rfl
theorem e_v {i : Nat} : (rd C (.v i) W).e σ H Q = (match σ[i]? with
      | some (some v) => Q v H
      | _ => False) := rfl
theorem e_g {x : Str} : (rd C (.g x) W).e σ H Q = (match C.gv x with
      | some v => Q v H
      | none => False) := rfl
theorem e_bop {op : Operator} {a b : I} : (rd C (.bop op a b) W).e σ H Q = ((rd C a W).e σ H fun x H1 => (rd C b W).e σ H1 fun y H2 => rBin C.K op x y H2 Q) := rfl
theorem e_uop {op : UnaryOp} {a : I} : (rd C (.uop op a) W).e σ H Q = ((rd C a W).e σ H fun x H1 => rUn op x H1 Q) := rfl
theorem e_not {a : I} : (rd C (.not a) W).e σ H Q = ((rd C a W).e σ H fun x H1 => match x with
      | .bl c => Q (.bl (!c)) H1
      | x => ∃ k, TruV C.K x H1 k ∧ Q (.bl (!k)) H1) := rfl
theorem e_and {a b : I} : (rd C (.and a b) W).e σ H Q = ((rd C a W).e σ H fun x H1 => match x with
      | .bl c => if c = true then (rd C b W).e σ H1 Q else Q (.bl false) H1
      | _ => False) := rfl
theorem e_or {a b : I} : (rd C (.or a b) W).e σ H Q = ((rd C a W).e σ H fun x H1 => match x with
      | .bl c => if c = true then Q (.bl true) H1 else (rd C b W).e σ H1 Q
      | _ => False) := rfl
theorem e_ite {c a b : I} : (rd C (.ite c a b) W).e σ H Q = ((rd C c W).t σ H fun k H1 => if k = true then (rd C a W).e σ H1 Q else (rd C b W).e σ H1 Q) := rfl
theorem e_cmp {op : CmpOp} {a b : I} : (rd C (.cmp op a b) W).e σ H Q = ((rd C a W).e σ H fun x H1 => (rd C b W).e σ H1 fun y H2 => rCmp C.K C.w C.tabs op x y H2 Q) := rfl
theorem e_cmp2 {op op' : CmpOp} {a b c : I} : (rd C (.cmp2 op op' a b c) W).e σ H Q = ((rd C a W).e σ H fun x H1 => (rd C b W).e σ H1 fun y H2 => rCmp C.K C.w C.tabs op x y H2 fun z H3 => match z with
        | .bl k => if k = true then (rd C c W).e σ H3 fun u H4 => rCmp C.K C.w C.tabs op' y u H4 Q else Q (.bl false) H3
        | _ => False) := rfl
theorem e_lst {as : I} : (rd C (.lst as) W).e σ H Q = ((rd C as W).a σ H fun xs H1 => xs.length ≤ sizeLine ∧ ∀ p, H1 p = none → Q (.ref p) (upd H1 p (.lst xs))) := rfl
theorem e_tup {as : I} : (rd C (.tup as) W).e σ H Q = ((rd C as W).a σ H fun xs H1 => xs.length ≤ sizeLine ∧ ∀ p, H1 p = none → Q (.ref p) (upd H1 p (.tup xs))) := rfl
theorem e_dic {ps : I} : (rd C (.dic ps) W).e σ H Q = (match (rd C ps W).p with
      | [] => ∀ p, H p = none → Q (.ref p) (upd H p (.dK []))
      | trs => tDisp trs σ H Q) := rfl
theorem e_call {f : Str} {as : I} : (rd C (.call f as) W).e σ H Q = ((rd C as W).a σ H fun vs H1 => C.fn f vs H1 Q fun cls d H' => W cls d σ H') := rfl
theorem e_mk {c : Str} {as : I} : (rd C (.mk c as) W).e σ H Q = ((rd C as W).a σ H fun vs H1 => ∀ x dx, H1 x = none → H1 dx = none → dx ≠ x →
      ∃ key, C.mth c "__init__" = some key ∧ C.fn key (.ref x :: vs) (upd (upd H1 dx (.own x)) x (.ins (He.ga C.K c) dx [])) (fun v H2 => v = .non ∧ Q (.ref x) H2) fun cls d H' => W cls d σ H') := rfl
theorem e_bi {f : B} {as : I} : (rd C (.bi f as) W).e σ H Q = ((rd C as W).a σ H fun vs H1 => rB C.K f vs H1 Q) := rfl
theorem e_isi {a : I} {cs : List CR} : (rd C (.isi a cs false) W).e σ H Q = ((rd C a W).e σ H fun x H1 => Isi C H1 x cs Q) := rfl
theorem e_meth {o as : I} {m : Str} : (rd C (.meth o m as) W).e σ H Q = ((rd C o W).e σ H fun x H1 => match x with
      | .ref a => ∃ cn dx fs key, H1 a = some (.ins (He.ga C.K cn) dx fs) ∧ C.mth cn m = some key ∧ fs.lookup m = none ∧
          (rd C as W).a σ H1 fun vs H2 => C.fn key (.ref a :: vs) H2 Q fun cls d H' => W cls d σ H'
      | _ => False) := rfl
theorem e_bm {m : M} {o as : I} : (rd C (.bm m o as) W).e σ H Q = ((rd C o W).e σ H fun x H1 => tyV C.K m.T x H1 ∧ (rd C as W).a σ H1 fun vs H2 => rM C.K m x vs H2 Q) := rfl
theorem e_icall {o as zs : I} {ks : List Str} : (rd C (.icall o as ks zs) W).e σ H Q = ((rd C o W).e σ H fun x H1 => match x with
      | .ref a => ∃ cn, (∃ dx fs, H1 a = some (.ins (He.ga C.K cn) dx fs)) ∧ (rd C as W).a σ H1 fun vs H2 => (rd C zs W).a σ H2 fun us H3 => ∃ dx fs key, H3 a = some (.ins (He.ga C.K cn) dx fs) ∧ C.mth cn "__call__" = some key ∧
          kwRun C key ks (.ref a :: vs) us H3 Q (fun cls d H' => W cls d σ H')
      | _ => False) := rfl
theorem e_ostr {a : I} : (rd C (.ostr a) W).e σ H Q = ((rd C a W).e σ H fun x H1 => match x with
      | .ref a => ∃ cn dx fs key, H1 a = some (.ins (He.ga C.K cn) dx fs) ∧ C.mth cn "__str__" = some key ∧ C.fn key [.ref a] H1 (fun v H2 => match v with | .str z => Q (.str z) H2 | _ => False) fun _ _ _ => False
      | _ => False) := rfl
theorem e_att {o : I} {f : Str} : (rd C (.att o f) W).e σ H Q = ((rd C o W).e σ H fun x H1 => rAtt C f (fun cls d H' => W cls d σ H') x H1 Q) := rfl
theorem e_ix {o i : I} : (rd C (.ix o i) W).e σ H Q = ((rd C o W).e σ H fun x H1 => (rd C i W).e σ H1 fun y H2 => rIxU C.K C.w C.tabs x y H2 Q) := rfl
theorem e_sl {o lo hi : I} : (rd C (.sl o lo hi) W).e σ H Q = ((rd C o W).e σ H fun x H1 => (rd C lo W).o σ H1 fun l H2 => (rd C hi W).o σ H2 fun h H3 => rSlU C.K x l h H3 Q) := rfl
theorem e_lc {own : List (Str × Nat)} {elt tg it cond : I} {b : Bool} : (rd C (.lc own elt tg it b cond) W).e σ H Q = ((rd C it W).i σ H fun ok items H1 => ∀ Dl, H1 Dl = none →
      lcGo ok (rd C tg noW).g (rd C tg noW).gs (lcIf b (rd C cond noW).t) (rd C elt noW).e Dl (own.map (·.2)) σ Q items (upd H1 Dl (.lst []))) := rfl
variable {T : Bool → Hp → Prop}
/-- a value's truth, and what follows -/
def trQ (K : PySem.W.Frag) (T : Bool → Hp → Prop) : VK := fun x H' => match x with
      | .bl b => T b H'
      | x => ∃ b, TruV K x H' b ∧ T b H'
def blQ (T : Bool → Hp → Prop) : VK := fun x H' => match x with
      | .bl b => T b H'
      | _ => False
theorem trQ_bl {K : PySem.W.Frag} {b : Bool} : trQ K T (.bl b) H = T b H := rfl
theorem blQ_bl {b : Bool} : blQ T (.bl b) H = T b H := rfl
theorem t_v {i : Nat} : (rd C (.v i) W).t σ H T = (rd C (.v i) W).e σ H (trQ C.K T) := rfl
theorem t_isi {a : I} {cs : List CR} {m : Bool} : (rd C (.isi a cs m) W).t σ H T = (rd C (.isi a cs m) W).e σ H (trQ C.K T) := rfl
theorem t_call {f : Str} {as : I} : (rd C (.call f as) W).t σ H T = (rd C (.call f as) W).e σ H (trQ C.K T) := rfl
theorem t_meth {o as : I} {m : Str} : (rd C (.meth o m as) W).t σ H T = (rd C (.meth o m as) W).e σ H (trQ C.K T) := rfl
theorem t_bop {op : Operator} {a b : I} : (rd C (.bop op a b) W).t σ H T = (rd C (.bop op a b) W).e σ H (trQ C.K T) := rfl
theorem t_bi {f : B} {as : I} : (rd C (.bi f as) W).t σ H T = (rd C (.bi f as) W).e σ H (trQ C.K T) := rfl
theorem t_att {o : I} {f : Str} : (rd C (.att o f) W).t σ H T = (rd C (.att o f) W).e σ H (trQ C.K T) := rfl
theorem t_not {a : I} : (rd C (.not a) W).t σ H T = ((rd C a W).t σ H fun c H1 => T (!c) H1) := rfl
theorem t_and {a b : I} : (rd C (.and a b) W).t σ H T = ((rd C a W).t σ H fun c H1 => if c = true then (rd C b W).t σ H1 T else T false H1) := rfl
theorem t_or {a b : I} : (rd C (.or a b) W).t σ H T = ((rd C a W).t σ H fun c H1 => if c = true then T true H1 else (rd C b W).t σ H1 T) := rfl
theorem t_cmp {op : CmpOp} {a b : I} : (rd C (.cmp op a b) W).t σ H T = ((rd C a W).e σ H fun x H1 => (rd C b W).e σ H1 fun y H2 => rCmp C.K C.w C.tabs op x y H2 (blQ T)) := rfl
theorem t_cmp2 {op op' : CmpOp} {a b c : I} : (rd C (.cmp2 op op' a b c) W).t σ H T = (rd C (.cmp2 op op' a b c) W).e σ H (blQ T) := rfl
variable {A : List V → Hp → Prop}
theorem a_nil' : (rd C .nil W).a σ H A = A [] H := rfl
theorem a_cons {a b : I} : (rd C (.cons a b) W).a σ H A = ((rd C a W).e σ H fun x H1 => (rd C b W).a σ H1 fun xs H2 => A (x :: xs) H2) := rfl
theorem s_nil : (rd C .nil W).s D σ H = D.nx σ H := rfl
theorem s_cons {a b : I} : (rd C (.cons a b) W).s D σ H = (rd C a W).s { D with nx := (rd C b W).s D } σ H := rfl
theorem s_set {g e : I} : (rd C (.set g e) W).s D σ H = ((rd C e W).e σ H fun x H1 => (rd C g W).g x σ H1 D.nx) := rfl
theorem s_setLc {i : Nat} {e : I} : (rd C (.setLc i e) W).s D σ H = ((rd C e W).e σ H fun x H1 => D.nx (σ.set i (some x)) H1) := rfl
theorem s_par {i j : Nat} {as : I} : (rd C (.par i j as) W).s D σ H = ((rd C as W).a σ H fun vs H1 => ∃ v w, vs = [v, w] ∧ D.nx ((σ.set i (some v)).set j (some w)) H1) := rfl
theorem s_expr {e : I} : (rd C (.expr e) W).s D σ H = ((rd C e W).e σ H fun _ H1 => D.nx σ H1) := rfl
theorem s_ret {e : I} : (rd C (.ret e) W).s D σ H = (rd C e W).e σ H D.rt := rfl
theorem s_retN : (rd C .retN W).s D σ H = D.rt .non H := rfl
theorem s_if {c a b : I} : (rd C (.if_ c a b) W).s D σ H = ((rd C c W).t σ H fun k H1 => if k = true then (rd C a W).s D σ H1 else (rd C b W).s D σ H1) := rfl
theorem s_for {tg it b : I} : (rd C (.for_ tg it b) W).s D σ H = ((rd C it W).i σ H fun ok items H1 => forGo ok (rd C tg W).g (rd C tg W).gs (rd C b W).s D items σ H1) := rfl
theorem s_never : (rd C .never W).s D σ H = False := rfl
theorem s_pass : (rd C .pass W).s D σ H = D.nx σ H := rfl
theorem s_brk : (rd C .brk W).s D σ H = D.bk σ H := rfl
theorem s_cont : (rd C .cont W).s D σ H = D.ct σ H := rfl
variable {N : St → Hp → Prop} {v : V} {vs : List V}
theorem g_v' {i : Nat} : (rd C (.v i) W).g v σ H N = N (σ.set i (some v)) H := rfl
theorem g_tup {gs : I} : (rd C (.tupG gs) W).g v σ H N = (match v with
      | .ref a => ∃ xs, SqT C.K H a xs ∧ xs.length = gs.len ∧ (rd C gs W).gs xs σ H N
      | _ => False) := rfl
theorem g_sub {o i : I} : (rd C (.subG o i) W).g v σ H N = ((rd C o W).e σ H fun x H1 => (rd C i W).e σ H1 fun y H2 => rSetU x y v H2 fun H3 => N σ H3) := rfl
theorem g_att {o : I} {f : Str} : (rd C (.attG o f) W).g v σ H N = ((rd C o W).e σ H fun x H1 => match x with
      | .ref a => ∃ cn dx fs, H1 a = some (.ins (He.ga C.K cn) dx fs) ∧ C.fld cn f = true ∧ fs.length < 1000 ∧ N σ (upd H1 a (.ins (He.ga C.K cn) dx (putF f v fs)))
      | _ => False) := rfl
theorem gs_nil : (rd C .nil W).gs vs σ H N = (vs = [] ∧ N σ H) := rfl
theorem gs_cons {a b : I} : (rd C (.cons a b) W).gs vs σ H N = (match vs with
        | v :: r => (rd C a W).g v σ H fun σ' H' => (rd C b W).gs r σ' H' N
        | [] => False) := rfl
theorem gs_tup {gs : I} : (rd C (.tupG gs) W).gs vs σ H N = (vs.length = gs.len ∧ (rd C gs W).gs vs σ H N) := rfl
variable {R : (Hp → Prop) → List It1 → Hp → Prop}
theorem i_L {e : I} : (rd C (.itL e) W).i σ H R = ((rd C e W).e σ H fun x H1 => match x with
      | .ref a => ∃ xs, SqL C.K H1 a xs ∧ R (fun H' => SqL C.K H' a xs) (xs.map .v) H1
      | _ => False) := rfl
theorem i_T {e : I} : (rd C (.itT e) W).i σ H R = ((rd C e W).e σ H fun x H1 => match x with
      | .ref a => ∃ xs, SqT C.K H1 a xs ∧ R (fun H' => SqT C.K H' a xs) (xs.map .v) H1
      | _ => False) := rfl
theorem i_S {e : I} : (rd C (.itS e) W).i σ H R = ((rd C e W).e σ H fun x H1 => match x with
      | .str z => R (fun _ => True) (z.cps.toList.map fun c => .v (.str (S [c]))) H1
      | _ => False) := rfl
theorem i_R1 {a : I} : (rd C (.itR1 a) W).i σ H R = ((rd C a W).e σ H fun x H1 => match x with
      | .int j => -(2 ^ 62) ≤ j ∧ j < 2 ^ 62 ∧ R (fun _ => True) ((List.range j.toNat).map fun i => .v (.int (i : Nat))) H1
      | _ => False) := rfl
theorem i_ES {e : I} : (rd C (.itES e) W).i σ H R = ((rd C e W).e σ H fun x H1 => match x with
      | .str z => R (fun _ => True) (z.cps.toList.zipIdx.map fun p => .t [.int (p.2 : Nat), .str (S [p.1])]) H1
      | _ => False) := rfl
theorem i_E {e : I} : (rd C (.itE e) W).i σ H R = ((rd C e W).e σ H fun x H1 => match x with
      | .ref a => ∃ xs, SqL C.K H1 a xs ∧ R (fun H' => SqL C.K H' a xs) (xs.zipIdx.map fun p => .t [.int (p.2 : Nat), p.1]) H1
      | _ => False) := rfl
theorem i_ET {e : I} : (rd C (.itET e) W).i σ H R = ((rd C e W).e σ H fun x H1 => match x with
      | .ref a => ∃ xs, SqT C.K H1 a xs ∧ R (fun H' => SqT C.K H' a xs) (xs.zipIdx.map fun p => .t [.int (p.2 : Nat), p.1]) H1
      | _ => False) := rfl
theorem i_Z {a b : I} : (rd C (.itZ a b) W).i σ H R = ((rd C a W).e σ H fun x H1 => (rd C b W).e σ H1 fun y H2 => match x, y with
      | .ref p, .ref q => ∃ xs ys, SqL C.K H2 p xs ∧ SqL C.K H2 q ys ∧ R (fun H' => SqL C.K H' p xs ∧ SqL C.K H' q ys) ((xs.zip ys).map fun z => .t [z.1, z.2]) H2
      | _, _ => False) := rfl
theorem p_nil : (rd C .nil W).p = [] := rfl
theorem p_pair {k v r : I} : (rd C (.pair k v r) W).p = ((rd C k W).e, (rd C v W).e) :: (rd C r W).p := rfl
variable {O : Option Int → Hp → Prop}
theorem o_nil : (rd C .nil W).o σ H O = O none H := rfl
theorem o_k {i : Int} : (rd C (.k (.int i)) W).o σ H O = O (some i) H := rfl
/-! walks -/
variable {ok : Hp → Prop} {g : TG} {gs : TGs} {tb : TS} {x : V} {xs : List V} {r : List It1}
theorem for_nil : forGo ok g gs tb D [] σ H = (ok H ∧ D.nx σ H) := rfl
theorem for_v : forGo ok g gs tb D (.v x :: r) σ H = (ok H ∧ g x σ H fun σ2 H2 => tb { D with nx := forGo ok g gs tb D r, ct := forGo ok g gs tb D r, bk := D.nx } σ2 H2) := rfl
theorem for_t : forGo ok g gs tb D (.t xs :: r) σ H = (ok H ∧ ∀ T, H T = none → gs xs σ (upd H T (.tup xs)) fun σ2 H2 => tb { D with nx := forGo ok g gs tb D r, ct := forGo ok g gs tb D r, bk := D.nx } σ2 H2) := rfl
variable {tt : TT} {te : TE} {Dl : Addr} {own : List Nat}
theorem lc_nil : lcGo ok g gs tt te Dl own σ Q [] H = (ok H ∧ Q (.ref Dl) H) := rfl
theorem lc_v : lcGo ok g gs tt te Dl own σ Q (.v x :: r) H = (ok H ∧ g x (wipe σ own) H (lcTurn tt te Dl own σ (lcGo ok g gs tt te Dl own σ Q r))) := rfl
theorem lc_t : lcGo ok g gs tt te Dl own σ Q (.t xs :: r) H = (ok H ∧ ∀ T, H T = none → gs xs (wipe σ own) (upd H T (.tup xs)) (lcTurn tt te Dl own σ (lcGo ok g gs tt te Dl own σ Q r))) := rfl
variable {nx : Hp → Prop} {σ2 : St}
theorem lc_turn0 : lcTurn (lcIf false tt) te Dl own σ nx σ2 H = (wipe σ2 own = wipe σ own ∧ te σ2 H fun y H4 => ∃ acc, H4 Dl = some (.lst acc) ∧ acc.length < sizeLine ∧ nx (upd H4 Dl (.lst (acc ++ [y])))) := by
  unfold lcTurn lcIf
  simp
theorem lc_turn1 : lcTurn (lcIf true tt) te Dl own σ nx σ2 H = (wipe σ2 own = wipe σ own ∧ tt σ2 H fun b H3 => if b = true then te σ2 H3 fun y H4 => ∃ acc, H4 Dl = some (.lst acc) ∧ acc.length < sizeLine ∧ nx (upd H4 Dl (.lst (acc ++ [y]))) else nx H3) := rfl
theorem wipe_nil : wipe σ [] = σ := rfl
theorem wipe_cons {i : Nat} : wipe σ (i :: own) = (wipe σ own).set i none := rfl
end
/-! ### heaps that only grow -/
def Ext (H H' : Hp) : Prop := ∀ a o, H a = some o → H' a = some o
theorem Ext.refl {H : Hp} : Ext H H := fun _ _ h => h
theorem Ext.trans {H H' H'' : Hp} (a : Ext H H') (b : Ext H' H'') : Ext H H'' := fun x o h => b x o (a x o h)
theorem Ext.new {H : Hp} {p : Addr} {o : HO} (h : H p = none) : Ext H (upd H p o) := fun a o' e => by
  rw [upd_ne (ne_of_none e h)]
  exact e
theorem Ext.get {H H' : Hp} {a : Addr} {o : HO} (x : Ext H H') (h : H a = some o) : H' a = some o := x a o h
/-- what is new stays new -/
theorem Ext.put {H H' : Hp} {p : Addr} {o : HO} (x : Ext H H') (h : H p = none) : Ext H (upd H' p o) := fun a o' e => by
  rw [upd_ne (ne_of_none e h)]
  exact x a o' e
theorem none_of {H H' : Hp} {p : Addr} (x : Ext H H') (h : H' p = none) : H p = none := by
  cases e : H p with
  | none => rfl
  | some o => rw [x p o e] at h; cases h
theorem upd_get {H : Hp} {a p : Addr} {o u : HO} (h : H a = some o) (hp : H p = none) : upd H p u a = some o := by
  rw [upd_ne (ne_of_none h hp)]
  exact h
/-! ### one call -/
theorem run_at {p : Pg} {K : PySem.W.Frag} {w : World} {n : Nat} {key : Str} {d : DefI} (h : p.find key = some d) (hn : 1 ≤ n) {vs : List V} {H : Hp} {Q : VK} {E : XK} (hl : vs.length = d.ps.length)
    (hb : (rd (p.ctx K w (run p K w (n - 1))) d.body fun cls dd _ H' => E cls dd H').s { nx := fun _ H' => Q .non H', rt := Q } (start d.N vs) H) (hs : d.star = false := by rfl) : run p K w n key vs H Q E := by
  obtain ⟨m, rfl⟩ : ∃ m, n = m + 1 := ⟨n - 1, by omega⟩
  refine run_of h hs (by rw [fill_full hl]; exact hl) ?_
  rw [fill_full hl]
  exact hb
/-- a call that leaves the defaults -/
theorem run_dfl {p : Pg} {K : PySem.W.Frag} {w : World} {n : Nat} {key : Str} {d : DefI} (h : p.find key = some d) (hn : 1 ≤ n) {vs ts : List V} {H : Hp} {Q : VK} {E : XK} (ht : d.fill vs = ts) (hl : ts.length = d.ps.length)
    (hb : (rd (p.ctx K w (run p K w (n - 1))) d.body fun cls dd _ H' => E cls dd H').s { nx := fun _ H' => Q .non H', rt := Q } (start d.N ts) H) (hs : d.star = false := by rfl) : run p K w n key vs H Q E := by
  obtain ⟨m, rfl⟩ : ∃ m, n = m + 1 := ⟨n - 1, by omega⟩
  subst ht
  exact run_of h hs hl hb
/-- a call that leaves the defaults is the call with all of them -/
theorem run_fill {p : Pg} {K : PySem.W.Frag} {w : World} {n : Nat} {key : Str} {d : DefI} (h : p.find key = some d) {vs ts : List V} {H : Hp} {Q : VK} {E : XK} (ht : d.fill vs = ts) (hl : ts.length = d.ps.length) (hs : d.star = false)
    (hb : run p K w n key ts H Q E) : run p K w n key vs H Q E := by
  cases n with
  | zero => rw [run_zero] at hb; exact hb.elim
  | succ n =>
    rw [run_succ] at hb ⊢
    unfold stepP at hb ⊢
    rw [h] at hb ⊢
    dsimp only at hb ⊢
    rw [hs] at hb ⊢
    dsimp only at hb ⊢
    rw [fill_full hl] at hb
    rw [ht]
    exact hb
theorem run_star {p : Pg} {K : PySem.W.Frag} {w : World} {n : Nat} {key : Str} {d : DefI} (h : p.find key = some d) (hn : 1 ≤ n) {ws rest : List V} {H : Hp} {Q : VK} {E : XK} (hl : ws.length + 1 = d.ps.length) (hr : rest.length ≤ sizeLine)
    (hb : ∀ t, H t = none → (rd (p.ctx K w (run p K w (n - 1))) d.body fun cls dd _ H' => E cls dd H').s { nx := fun _ H' => Q .non H', rt := Q } (start d.N (ws ++ [.ref t])) (upd H t (.tup rest))) (hs : d.star = true := by rfl) : run p K w n key (ws ++ rest) H Q E := by
  obtain ⟨m, rfl⟩ : ∃ m, n = m + 1 := ⟨n - 1, by omega⟩
  exact run_ofS h hs hl hr hb
section
variable {p : Pg} {K : PySem.W.Frag} {w : World} {fn : Str → Sp}
theorem x_K : (p.ctx K w fn).K = K := rfl
theorem x_w : (p.ctx K w fn).w = w := rfl
theorem x_fn : (p.ctx K w fn).fn = fn := rfl
theorem x_gv : (p.ctx K w fn).gv = p.gv K := rfl
theorem x_tabs : (p.ctx K w fn).tabs = p.tabs := rfl
theorem x_mth : (p.ctx K w fn).mth = p.mth := rfl
theorem x_prp : (p.ctx K w fn).prp = p.prp := rfl
theorem x_fld : (p.ctx K w fn).fld = p.fld := rfl
theorem x_isi : (p.ctx K w fn).isi = p.isi := rfl
theorem x_kwo : (p.ctx K w fn).kwo = p.kwo := rfl
theorem x_dfl : (p.ctx K w fn).dfl = p.dfl := rfl
variable {H : Hp} {Q : VK} {cs : List CR}
theorem isi_int {C : Ctx} {i : Int} : Isi C H (.int i) cs Q = Q (.bl (cs.any (isiT "int"))) H := rfl
theorem isi_str {C : Ctx} {i : Str} : Isi C H (.str i) cs Q = Q (.bl (cs.any (isiT "str"))) H := rfl
theorem isi_bl {C : Ctx} {i : Bool} : Isi C H (.bl i) cs Q = Q (.bl (cs.any (isiT "bool"))) H := rfl
theorem isi_non {C : Ctx} : Isi C H .non cs Q = Q (.bl (cs.any (isiT "NoneType"))) H := rfl
theorem isi_ins {C : Ctx} {a dx : Addr} {cn : Str} {fs : List (Str × V)} {bs : List Bool} (h : H a = some (.ins (He.ga C.K cn) dx fs)) (hb : cs.map (C.isi cn) = bs.map some) (q : Q (.bl (bs.any id)) H) : Isi C H (.ref a) cs Q :=
  .inl ⟨cn, dx, fs, h, bs, hb, q⟩
end
theorem isi_own {C : Ctx} {a dx : Addr} {cn : Str} {fs : List (Str × V)} {c : CR} {b : Bool} {H : Hp} {Q : VK} (h : H a = some (.ins (He.ga C.K cn) dx fs)) (hb : C.isi cn c = some b) (q : Q (.bl b) H) : Isi C H (.ref a) [c] Q :=
  .inl ⟨cn, dx, fs, h, [b], by rw [List.map_cons, List.map_nil, hb]; rfl, by simpa using q⟩
theorem ii1 : [CR.ty "int"].any (isiT "int") = true := by decide +kernel
theorem ii2 : [CR.ty "bool"].any (isiT "int") = false := by decide +kernel
theorem ii3 : [CR.ty "str"].any (isiT "str") = true := by decide +kernel
theorem ii4 {x : Str} {t : String} : [CR.own x].any (isiT t) = false := rfl
theorem ii5 : [CR.ty "str"].any (isiT "int") = false := by decide +kernel
theorem ii6 : [CR.ty "int"].any (isiT "str") = false := by decide +kernel
theorem ii7 : [CR.ty "bool"].any (isiT "str") = false := by decide +kernel
section
variable {K : PySem.W.Frag} {w : World} {T : List KTab} {H : Hp} {Q : VK} {i j : Int}
theorem r_add : rBin K .Add (.int i) (.int j) H Q = Q (.int (i + j)) H := rfl
theorem r_sub : rBin K .Sub (.int i) (.int j) H Q = Q (.int (i - j)) H := rfl
theorem r_mul : rBin K .Mult (.int i) (.int j) H Q = ((CMul i j ∨ CMulW i j) ∧ Q (.int (i * j)) H) := rfl
theorem r_div : rBin K .FloorDiv (.int i) (.int j) H Q = (CDivU i j ∧ Q (.int (i / j)) H) := rfl
theorem r_mod : rBin K .Mod (.int i) (.int j) H Q = (0 < j ∧ Q (.int (i % j)) H) := rfl
theorem r_pow : rBin K .Pow (.int i) (.int j) H Q = (CPow i j ∧ Q (.int (i ^ j.toNat)) H) := rfl
theorem r_shl : rBin K .LShift (.int i) (.int j) H Q = (CPow i j ∧ Q (.int (i * 2 ^ j.toNat)) H) := rfl
theorem r_shr : rBin K .RShift (.int i) (.int j) H Q = (0 ≤ j ∧ Q (.int (i / 2 ^ j.toNat)) H) := rfl
theorem r_and : rBin K .BitAnd (.int i) (.int j) H Q = Q (.int (Builtin.bitAnd i j)) H := rfl
theorem r_or : rBin K .BitOr (.int i) (.int j) H Q = Q (.int (Builtin.bitOr i j)) H := rfl
theorem r_xor : rBin K .BitXor (.int i) (.int j) H Q = Q (.int (Builtin.bitXor i j)) H := rfl
theorem r_neg : rUn .USub (.int i) H Q = Q (.int (-i)) H := rfl
theorem r_inv : rUn .Invert (.int i) H Q = Q (.int (Builtin.bitNot i)) H := rfl
theorem r_lt : rCmp K w T .Lt (.int i) (.int j) H Q = Q (.bl (decide (i < j))) H := rfl
theorem r_le : rCmp K w T .LtE (.int i) (.int j) H Q = Q (.bl (decide (i ≤ j))) H := rfl
theorem r_gt : rCmp K w T .Gt (.int i) (.int j) H Q = Q (.bl (decide (j < i))) H := rfl
theorem r_ge : rCmp K w T .GtE (.int i) (.int j) H Q = Q (.bl (decide (j ≤ i))) H := rfl
theorem r_eqI : rCmp K w T .Eq (.int i) (.int j) H Q = Q (.bl (i == j)) H := rfl
theorem r_neI : rCmp K w T .NotEq (.int i) (.int j) H Q = Q (.bl (!(i == j))) H := rfl
theorem r_eqS {a b : Str} : rCmp K w T .Eq (.str a) (.str b) H Q = Q (.bl (a == b)) H := rfl
theorem r_neS {a b : Str} : rCmp K w T .NotEq (.str a) (.str b) H Q = Q (.bl (!(a == b))) H := rfl
theorem r_inS {a b : Str} : rCmp K w T .In (.str a) (.str b) H Q = Q (.bl (false.xor (inS a b))) H := rfl
theorem r_niS {a b : Str} : rCmp K w T .NotIn (.str a) (.str b) H Q = Q (.bl (true.xor (inS a b))) H := rfl
theorem r_inK {z : Str} {a : Addr} {t : KTab} (ht : t ∈ T) (ha : a = t.at_ K) (q : Q (.bl (t.kvs.lookup z).isSome) H) : rCmp K w T .In (.str z) (.ref a) H Q :=
  Or.inr (Or.inr (Or.inl ⟨z, _, rfl, ⟨t, ht, ha, rfl⟩, by simpa using q⟩))
theorem r_niK {z : Str} {a : Addr} {t : KTab} (ht : t ∈ T) (ha : a = t.at_ K) (q : Q (.bl (!(t.kvs.lookup z).isSome)) H) : rCmp K w T .NotIn (.str z) (.ref a) H Q :=
  Or.inr (Or.inr (Or.inl ⟨z, _, rfl, ⟨t, ht, ha, rfl⟩, by simpa using q⟩))
theorem x_ixK {z : Str} {a : Addr} {t : KTab} {v : V} (ht : t ∈ T) (ha : a = t.at_ K) (hv : t.kvs.lookup z = some v) (q : Q v H) : rIxU K w T (.ref a) (.str z) H Q :=
  Or.inr ⟨v, ⟨t, ht, ha, hv.symm⟩, q⟩
theorem x_ixT {a : Addr} {xs : List V} {v : V} (h : H a = some (.tup xs)) (hv : atI xs i = some v) (q : Q v H) : rIxU K w T (.ref a) (.int i) H Q :=
  Or.inr (Or.inl ⟨xs, .inl (.inl h), v, hv, q⟩)
theorem x_ixL {a : Addr} {xs : List V} {v : V} (h : SqL K H a xs) (hv : atI xs i = some v) (q : Q v H) : rIxU K w T (.ref a) (.int i) H Q :=
  Or.inl ⟨xs, h, v, hv, q⟩
theorem x_ixD {a : Addr} {kvs : List (Key × V)} {z : Str} {v : V} (h : H a = some (.dK kvs)) (hv : valV kvs (.inr z) = some v) (q : Q v H) : rIxU K w T (.ref a) (.str z) H Q :=
  Or.inl ⟨kvs, .inl h, v, hv, q⟩
end
/-! ### attributes -/
theorem x_fldv {p : Pg} {K : PySem.W.Frag} {w : World} {fn : Str → Sp} {f : Str} {E : XK} {a dx : Addr} {cn : Str} {fs : List (Str × V)} {v : V} {H : Hp} {Q : VK} (h : H a = some (.ins (He.ga K cn) dx fs)) (hf : p.fld cn f = true) (hv : fs.lookup f = some v) (q : Q v H) :
    rAtt (p.ctx K w fn) f E (.ref a) H Q := ⟨cn, dx, fs, h, .inl ⟨hf, v, hv, q⟩⟩
theorem x_prpv {p : Pg} {K : PySem.W.Frag} {w : World} {fn : Str → Sp} {f key : Str} {E : XK} {a dx : Addr} {cn : Str} {fs : List (Str × V)} {H : Hp} {Q : VK} (h : H a = some (.ins (He.ga K cn) dx fs)) (hf : p.prp cn f = some key) (q : fn key [.ref a] H Q fun _ _ _ => False) :
    rAtt (p.ctx K w fn) f E (.ref a) H Q := ⟨cn, dx, fs, h, .inr ⟨key, hf, q⟩⟩
end U

namespace U
open PySem PySem.Spec PyProof.Rows L2
section
variable {K : PySem.W.Frag} {w : World} {T : List KTab} {H : Hp} {Q : VK}
theorem cps_S {l : List Nat} : (S l).cps.toList = l := rfl
theorem trQ_int {i : Int} {B : Bool → Hp → Prop} (h : B (i != 0) H) : trQ K B (.int i) H := ⟨_, rfl, h⟩
theorem r_inL {x : V} {p : Addr} {xs : List V} (h : SqL K H p xs ∨ SqT K H p xs) (hx : flatV x = true) (hs : xs.all flatV = true) (q : Q (.bl (inV x xs)) H) : rCmp K w T .In x (.ref p) H Q := by
  have : rIn K false x (.ref p) H Q := ⟨p, xs, rfl, h, hx, hs, by simpa using q⟩
  cases x <;> exact Or.inl this
theorem r_niL {x : V} {p : Addr} {xs : List V} (h : SqL K H p xs ∨ SqT K H p xs) (hx : flatV x = true) (hs : xs.all flatV = true) (q : Q (.bl (!inV x xs)) H) : rCmp K w T .NotIn x (.ref p) H Q := by
  have : rIn K true x (.ref p) H Q := ⟨p, xs, rfl, h, hx, hs, by simpa using q⟩
  cases x <;> exact Or.inl this
theorem r_inD {z : Str} {p : Addr} {kvs : List (Key × V)} (h : H p = some (.dK kvs)) (q : Q (.bl (valV kvs (.inr z)).isSome) H) : rCmp K w T .In (.str z) (.ref p) H Q :=
  Or.inr (Or.inl ⟨kvs, .inr z, .inl h, rfl, by simpa using q⟩)
theorem r_niD {z : Str} {p : Addr} {kvs : List (Key × V)} (h : H p = some (.dK kvs)) (q : Q (.bl (!(valV kvs (.inr z)).isSome)) H) : rCmp K w T .NotIn (.str z) (.ref p) H Q :=
  Or.inr (Or.inl ⟨kvs, .inr z, .inl h, rfl, by simpa using q⟩)
/-- comparison of lists and tuples by what they hold -/
theorem r_eqD {x y : V} {d e : PyData} (hs : scal x y = false) (h1 : Dp K H x d) (h2 : Dp K H y e) (s1 : SeqAt.shaped d = true) (s2 : SeqAt.shaped e = true) (q : Q (.bl (PyData.eqv d e)) H) : rCmp K w T .Eq x y H Q := by
  show rEqU K x y H Q
  unfold rEqU
  rw [hs]
  exact ⟨d, e, h1, h2, s1, s2, q⟩
theorem r_neD {x y : V} {d e : PyData} (hs : scal x y = false) (h1 : Dp K H x d) (h2 : Dp K H y e) (s1 : SeqAt.shaped d = true) (s2 : SeqAt.shaped e = true) (q : Q (.bl (!PyData.eqv d e)) H) : rCmp K w T .NotEq x y H Q := by
  show rNeU K x y H Q
  unfold rNeU
  rw [hs]
  exact ⟨d, e, h1, h2, s1, s2, q⟩
theorem x_slL {a : Addr} {xs : List V} {lo hi : Option Int} (h : SqL K H a xs) (q : ∀ p, H p = none → Q (.ref p) (upd H p (.lst (cutV xs lo hi)))) : rSlU K (.ref a) lo hi H Q := Or.inl ⟨a, xs, rfl, h, q⟩
end
section
variable {ok : Hp → Prop} {g : TG} {gs : TGs} {tt : TT} {te : TE} {Dl : Addr} {own : List Nat} {σ : St} {Q : VK} {H : Hp}
/-- one turn of a comprehension -/
def lcOne (g : TG) (gs : TGs) (tt : TT) (te : TE) (Dl : Addr) (own : List Nat) (σ : St) (nx : Hp → Prop) (H : Hp) : It1 → Prop
  | .v x => g x (wipe σ own) H (lcTurn tt te Dl own σ nx)
  | .t xs => ∀ T, H T = none → gs xs (wipe σ own) (upd H T (.tup xs)) (lcTurn tt te Dl own σ nx)
/-- a comprehension: f what each item gives (none: left out) -/
theorem lcs_inv {f : It1 → Option V} (hok : ∀ H', Ext H H' → ok H') : ∀ (items : List It1) (acc : List V) (H' : Hp), Ext H H' → H' Dl = some (.lst acc) →
    (∀ x ∈ items, ∀ (H' : Hp) (acc : List V) (nx : Hp → Prop), Ext H H' → H' Dl = some (.lst acc) → acc.length < sizeLine → (∀ H'', Ext H H'' → H'' Dl = some (.lst (acc ++ (f x).toList)) → nx H'') → lcOne g gs tt te Dl own σ nx H' x) →
    acc.length + items.length ≤ sizeLine → (∀ H', Ext H H' → H' Dl = some (.lst (acc ++ items.filterMap f)) → Q (.ref Dl) H') → lcGo ok g gs tt te Dl own σ Q items H'
  | [], acc, H', x, e, _, _, q => ⟨hok H' x, q H' x (by rw [e]; simp)⟩
  | i :: r, acc, H', x, e, st, hl, q => by
    rw [List.length_cons] at hl
    have one := st i (List.mem_cons_self ..) H' acc (lcGo ok g gs tt te Dl own σ Q r) x e (by omega) fun H'' x' e' => by
      refine lcs_inv hok r _ H'' x' e' (fun y hy => st y (List.mem_cons_of_mem _ hy)) ?_ fun H3 x3 e3 => q H3 x3 ?_
      · have : (f i).toList.length ≤ 1 := by cases f i <;> simp
        rw [List.length_append]
        omega
      · rw [e3, List.append_assoc]
        cases h : f i <;> simp [h]
    cases i with
    | v y => exact ⟨hok H' x, one⟩
    | t ys => exact ⟨hok H' x, one⟩
/-- a loop: I what holds ahead of each turn -/
theorem fors_inv {D : Ends} {tb : TS} (I : List It1 → St → Hp → Prop) (hok : ∀ l σ H, I l σ H → ok H) : ∀ (items : List It1) (σ : St) (H : Hp), I items σ H →
    (∀ x r σ H, I (x :: r) σ H → ∀ D' : Ends, (∀ σ' H', I r σ' H' → D'.nx σ' H') → (∀ σ' H', I r σ' H' → D'.ct σ' H') → D'.rt = D.rt → D'.bk = D.nx →
      match x with
      | .v y => g y σ H fun σ2 H2 => tb D' σ2 H2
      | .t ys => ∀ T, H T = none → gs ys σ (upd H T (.tup ys)) fun σ2 H2 => tb D' σ2 H2) →
    (∀ σ H, I [] σ H → D.nx σ H) → forGo ok g gs tb D items σ H
  | [], σ, H, i, _, q => ⟨hok _ _ _ i, q σ H i⟩
  | x :: r, σ, H, i, st, q => by
    have one := st x r σ H i { D with nx := forGo ok g gs tb D r, ct := forGo ok g gs tb D r, bk := D.nx } (fun σ' H' i' => fors_inv I hok r σ' H' i' st q) (fun σ' H' i' => fors_inv I hok r σ' H' i' st q) rfl rfl
    cases x with
    | v y => exact ⟨hok _ _ _ i, one⟩
    | t ys => exact ⟨hok _ _ _ i, one⟩
end
/-! ### a suite in two parts -/
def headI : Nat → I → I
  | 0, _ => .nil
  | n + 1, .cons a b => .cons a (headI n b)
  | _ + 1, i => i
def tailI : Nat → I → I
  | 0, i => i
  | n + 1, .cons _ b => tailI n b
  | _ + 1, _ => .nil
def longI : Nat → I → Bool
  | 0, _ => true
  | n + 1, .cons _ b => longI n b
  | _ + 1, _ => false
theorem s_split {C : Ctx} {W : WX} : ∀ (k : Nat) {i : I} (_ : longI k i = true) {D : Ends} {σ : St} {H : Hp}, (rd C i W).s D σ H = (rd C (headI k i) W).s { D with nx := (rd C (tailI k i) W).s D } σ H
  | 0, i, _, D, σ, H => by cases i <;> rfl
  | k + 1, .cons a b, h, D, σ, H => by
    have e : (rd C b W).s D = (rd C (headI k b) W).s { D with nx := (rd C (tailI k b) W).s D } := by
      funext σ H
      exact s_split k (i := b) h
    show (rd C a W).s { D with nx := (rd C b W).s D } σ H = (rd C a W).s { D with nx := (rd C (headI k b) W).s { D with nx := (rd C (tailI k b) W).s D } } σ H
    rw [e]
theorem Ext.upd_of {H H' : Hp} {p : Addr} {o : HO} (x : Ext H H') (h : H' p = none) : Ext H (upd H' p o) := x.trans (Ext.new h)
end U

namespace U
open PySem PySem.Spec PyProof.Rows L2
section
variable {C : Ctx} {W : WX} {σ : St} {H : Hp} {Q : VK} {D : Ends}
theorem e_isiM {a : I} {cs : List CR} : (rd C (.isi a cs true) W).e σ H Q = ((rd C a W).e σ H fun x H1 => ∀ p, H1 p = none → Isi C (upd H1 p (.tup (cs.map fun c => match c with | .ty n => V.ty n | .own x => V.ref (He.ga C.K x)))) x cs Q) := rfl
theorem e_methk {o as zs : I} {m : Str} {ks : List Str} : (rd C (.methk o m as ks zs) W).e σ H Q = ((rd C o W).e σ H fun x H1 => match x with
      | .ref a => ∃ cn dx fs key, H1 a = some (.ins (He.ga C.K cn) dx fs) ∧ C.mth cn m = some key ∧ fs.lookup m = none ∧
          (rd C as W).a σ H1 fun vs H2 => (rd C zs W).a σ H2 fun us H3 => kwRun C key ks (.ref a :: vs) us H3 Q fun cls d H' => W cls d σ H'
      | _ => False) := rfl
theorem e_smeth {as zs : I} {c m : Str} {ks : List Str} : (rd C (.smeth c m as ks zs) W).e σ H Q = (match C.smt c m with
      | some key => (rd C as W).a σ H fun vs H2 => (rd C zs W).a σ H2 fun us H3 => kwRun C key ks vs us H3 Q fun cls d H' => W cls d σ H'
      | none => False) := rfl
theorem e_cmeth {as zs : I} {c m : Str} {ks : List Str} : (rd C (.cmeth c m as ks zs) W).e σ H Q = (match C.cmt c m with
      | some key => (rd C as W).a σ H fun vs H2 => (rd C zs W).a σ H2 fun us H3 => kwRun C key ks (.ref (He.ga C.K c) :: vs) us H3 Q fun cls d H' => W cls d σ H'
      | none => False) := rfl
theorem e_mkv {cs : List Str} {a as : I} : (rd C (.mkv cs a as) W).e σ H Q = ((rd C a W).e σ H fun f H0 => ∃ c, c ∈ cs ∧ f = .ref (He.ga C.K c) ∧ (rd C as W).a σ H0 fun vs H1 => ∀ x dx, H1 x = none → H1 dx = none → dx ≠ x →
      ∃ key, C.mth c "__init__" = some key ∧ kwRun C key [] (.ref x :: vs) [] (upd (upd H1 dx (.own x)) x (.ins (He.ga C.K c) dx [])) (fun v H2 => v = .non ∧ Q (.ref x) H2) fun cls d H' => W cls d σ H') := rfl
theorem e_mkk {c : Str} {as zs : I} {ks : List Str} : (rd C (.mkk c as ks zs) W).e σ H Q = ((rd C as W).a σ H fun vs H0 => (rd C zs W).a σ H0 fun us H1 => ∀ x dx, H1 x = none → H1 dx = none → dx ≠ x →
      ∃ key, C.mth c "__init__" = some key ∧ kwRun C key ks (.ref x :: vs) us (upd (upd H1 dx (.own x)) x (.ins (He.ga C.K c) dx [])) (fun v H2 => v = .non ∧ Q (.ref x) H2) fun cls d H' => W cls d σ H') := rfl
theorem kw_nil {key : Str} {vs us : List V} {E : XK} : kwRun C key [] vs us H Q E = C.fn key vs H Q E := rfl
theorem kw_ok {key k : Str} {ks : List Str} {vs us ts : List V} {ord : List Nat} {E : XK} (hl : us.length = (k :: ks).length) (ho : C.kwo key vs.length (k :: ks) = some ord) (ht : byOrd (vs ++ (us ++ C.dfl key)) ord = some ts) (h : C.fn key ts H Q E) : kwRun C key (k :: ks) vs us H Q E := ⟨hl, ord, ts, ho, ht, h⟩
theorem e_oeq {a b : I} : (rd C (.oeq a b) W).e σ H Q = ((rd C a W).e σ H fun x H1 => (rd C b W).e σ H1 fun y H2 => rOeq C x y H2 Q) := rfl
theorem e_one {a b : I} : (rd C (.one a b) W).e σ H Q = ((rd C a W).e σ H fun x H1 => (rd C b W).e σ H1 fun y H2 => rOne C x y H2 Q) := rfl
theorem e_rep {a : I} : (rd C (.rep a) W).e σ H Q = ((rd C a W).e σ H fun x H1 => rRep C x H1 Q) := rfl
theorem e_xcmp {op : CmpOp} {a b : I} : (rd C (.xcmp op a b) W).e σ H Q = ((rd C a W).e σ H fun x H1 => (rd C b W).e σ H1 fun y H2 => rXc C op x y H2 Q) := rfl
theorem e_obin {op : Operator} {a b : I} : (rd C (.obin op a b) W).e σ H Q = ((rd C a W).e σ H fun x H1 => (rd C b W).e σ H1 fun y H2 => rObin C (fun cls d H' => W cls d σ H') op x y H2 Q) := rfl
theorem e_oinv {a : I} : (rd C (.oinv a) W).e σ H Q = ((rd C a W).e σ H fun x H1 => match x with
      | .ref p => ∃ cn dx fs key, H1 p = some (.ins (He.ga C.K cn) dx fs) ∧ C.mth cn "__invert__" = some key ∧ C.fn key [.ref p] H1 Q fun cls d H' => W cls d σ H'
      | _ => False) := rfl
theorem e_rev {a : I} : (rd C (.rev a) W).e σ H Q = ((rd C a W).e σ H fun x H1 => ∃ p xs, x = .ref p ∧ SqL C.K H1 p xs ∧ ∀ q, H1 q = none → Q (.ref q) (upd H1 q (.lst xs.reverse))) := rfl
theorem b_strS {K : PySem.W.Frag} {a : Str} {Q : VK} : rB K .str [.str a] H Q = Q (.str a) H := rfl
theorem e_rgl {t : Bool} {a : I} : (rd C (.rgl t a) W).e σ H Q = ((rd C a W).e σ H fun x H1 => ∃ n, x = .int n ∧ RgOk 0 n ∧ ∀ q, H1 q = none → Q (.ref q) (upd H1 q (match t with | true => .tup (rgV 0 n) | false => .lst (rgV 0 n)))) := rfl
theorem e_oeqs {a b : I} : (rd C (.oeqs a b) W).e σ H Q = ((rd C a W).e σ H fun x H1 => (rd C b W).e σ H1 fun y H2 => rOeqs C x y H2 Q) := rfl
theorem e_oin {a b : I} : (rd C (.oin a b) W).e σ H Q = ((rd C a W).e σ H fun x H1 => (rd C b W).e σ H1 fun y H2 => rOin C x y H2 Q) := rfl
theorem s_oaug {D : Ends} {i : Nat} {op : Operator} {e : I} : (rd C (.oaug i op e) W).s D σ H = (∃ x, σ[i]? = some (some x) ∧ (rd C e W).e σ H fun y H1 => rObin C (fun cls d H' => W cls d σ H') op x y H1 fun z H2 => D.nx (σ.set i (some z)) H2) := rfl
theorem oin_of {p : Addr} {x : V} {cn key : Str} {dx : Addr} {fs : List (Str × V)} {Q : VK} (h : H p = some (.ins (He.ga C.K cn) dx fs)) (hm : C.mth cn "__contains__" = some key)
    (k : C.fn key [.ref p, x] H (fun v H' => match v with | .bl k => Q (.bl k) H' | _ => False) fun _ _ _ => False) : rOin C x (.ref p) H Q := ⟨cn, dx, fs, key, h, hm, k⟩
theorem obin_i {E : XK} {op : Operator} {p : Addr} {i : Int} {cn key : Str} {dx : Addr} {fs : List (Str × V)} {Q : VK} (h : H p = some (.ins (He.ga C.K cn) dx fs)) (ho : C.opr cn op = true) (hm : C.mth cn (PySem.dunder op.info.2) = some key)
    (k : C.fn key [.ref p, .int i] H Q E) : rObin C E op (.ref p) (.int i) H Q := .inl ⟨p, cn, dx, fs, key, rfl, h, ho, hm, .inl ⟨i, rfl⟩, k⟩
theorem obin_o {E : XK} {op : Operator} {p q : Addr} {cn key : Str} {dx dy : Addr} {fs gs : List (Str × V)} {Q : VK} (h : H p = some (.ins (He.ga C.K cn) dx fs)) (ho : C.opr cn op = true) (hm : C.mth cn (PySem.dunder op.info.2) = some key)
    (hq : H q = some (.ins (He.ga C.K cn) dy gs)) (k : C.fn key [.ref p, .ref q] H Q E) : rObin C E op (.ref p) (.ref q) H Q := .inl ⟨p, cn, dx, fs, key, rfl, h, ho, hm, .inr ⟨q, dy, gs, rfl, hq⟩, k⟩
theorem obin_r {E : XK} {op : Operator} {p : Addr} {i : Int} {cn key : Str} {dx : Addr} {fs : List (Str × V)} {Q : VK} (h : H p = some (.ins (He.ga C.K cn) dx fs)) (ho : C.opr cn op = true) (hm : C.mth cn (PySem.dunderR op.info.2) = some key)
    (k : C.fn key [.ref p, .int i] H Q E) : rObin C E op (.int i) (.ref p) H Q := .inr ⟨p, cn, dx, fs, key, i, rfl, rfl, h, ho, hm, k⟩
theorem e_olen {a : I} : (rd C (.olen a) W).e σ H Q = ((rd C a W).e σ H fun x H1 => rOlen C x H1 Q) := rfl
theorem e_obool {a : I} : (rd C (.obool a) W).e σ H Q = ((rd C a W).e σ H fun x H1 => rObool C x H1 Q) := rfl
theorem e_cat {c f : Str} : (rd C (.cat c f) W).e σ H Q = (match C.cvl c f with
      | some v => Q v H
      | none => False) := rfl
theorem e_fo3 {a : I} : (rd C (.fo3 a) W).e σ H Q = ((rd C a W).e σ H fun x H1 => match x with
      | .int i => 0 ≤ i ∧ i < 512 ∧ Q (.str (oct3 i)) H1
      | _ => False) := rfl
theorem g_unl {gs : I} {v : V} {N : St → Hp → Prop} : (rd C (.unl gs) W).g v σ H N = (match v with
      | .ref a => ∃ xs, SqL C.K H a xs ∧ xs.length = gs.len ∧ (rd C gs W).gs xs σ H N
      | _ => False) := rfl
theorem olen_of {p : Addr} {cn key : Str} {dx : Addr} {fs : List (Str × V)} {Q : VK} (h : H p = some (.ins (He.ga C.K cn) dx fs)) (hm : C.mth cn "__len__" = some key)
    (k : C.fn key [.ref p] H (fun v H' => match v with | .int k => (0 ≤ k ∧ k < 2 ^ 63) ∧ Q (.int k) H' | _ => False) fun _ _ _ => False) : rOlen C (.ref p) H Q := ⟨cn, dx, fs, key, h, hm, k⟩
theorem obool_of {p : Addr} {cn key : Str} {dx : Addr} {fs : List (Str × V)} {Q : VK} (h : H p = some (.ins (He.ga C.K cn) dx fs)) (hm : C.mth cn "__bool__" = some key)
    (k : C.fn key [.ref p] H (fun v H' => match v with | .bl k => Q (.bl k) H' | _ => False) fun _ _ _ => False) : rObool C (.ref p) H Q := ⟨cn, dx, fs, key, h, hm, k⟩
theorem e_fmt {a : I} : (rd C (.fmt a) W).e σ H Q = ((rd C a W).e σ H fun x H1 => (∃ y : Str, x = .str y ∧ y.length ≤ sizeLine ∧ Q (.str y) H1) ∨ ∃ i : Int, x = .int i ∧ i.natAbs.log2 < 1920 ∧ Q (.str (toString i)) H1) := rfl
theorem e_callk {as zs : I} {f : Str} {ks : List Str} : (rd C (.callk f as ks zs) W).e σ H Q = ((rd C as W).a σ H fun vs H1 => (rd C zs W).a σ H1 fun us H2 => kwRun C f ks vs us H2 Q fun cls d H' => W cls d σ H') := rfl
theorem rep_d {x : V} {d : PyData} (hd : Dp C.K H x d) (h1 : d.showable = true) (h2 : d.shown.length ≤ sizeLine) (h3 : d.depth ≤ 60) (q : Q (.str d.shown) H) : rRep C x H Q := .inl ⟨d, hd, h1, h2, h3, q⟩
theorem one_of {p : Addr} {y : V} {cn key : Str} {dx : Addr} {fs : List (Str × V)} (h : H p = some (.ins (He.ga C.K cn) dx fs)) (hm : C.mth cn "__eq__" = some key) (hy : EqR C H cn y)
    (q : C.fn key [.ref p, y] H (fun v H' => match v with | .bl k => Q (.bl (!k)) H' | _ => False) fun _ _ _ => False) : rOne C (.ref p) y H Q := ⟨cn, dx, fs, key, h, hm, hy, q⟩
theorem eqR_tup {C : Ctx} {H : Hp} {cn : Str} {p : Addr} {xs : List V} (h : H p = some (.tup xs)) : EqR C H cn (.ref p) := .inr (.inr ⟨p, _, rfl, .inl h, rfl⟩)
theorem eqR_lst {C : Ctx} {H : Hp} {cn : Str} {p : Addr} {xs : List V} (h : H p = some (.lst xs)) : EqR C H cn (.ref p) := .inr (.inr ⟨p, _, rfl, .inl h, rfl⟩)
theorem eqR_ins {C : Ctx} {H : Hp} {cn : Str} {p dy : Addr} {gs : List (Str × V)} (h : H p = some (.ins (He.ga C.K cn) dy gs)) : EqR C H cn (.ref p) := .inr (.inl ⟨p, dy, gs, rfl, h⟩)
theorem e_lamc {f : Str} {b : I} : (rd C (.lamc f b) W).e σ H Q = (LamX.Tabs C.lt H ∧ ∀ H1, LamX.ExtN H H1 → LamX.Tabs C.lt H1 → C.lfn f (fun E H' Q' => (rd C b fun cls d _ H2 => E cls d H2).e σ H' Q') H1 Q) := rfl
theorem e_act {i : Nat} : (rd C (.act i) W).e σ H Q = (match C.lam with
      | some L => L.i = i ∧ σ[i]? = some (some (.ref L.f)) ∧ H L.c = some (LamX.CodeO L.c L.q) ∧ L.T (fun cls d H' => W cls d σ H') H Q
      | none => False) := rfl
theorem e_eatt {o : I} {f : Str} : (rd C (.eatt o f) W).e σ H Q = ((rd C o W).e σ H fun x H1 => match x with
      | .ref a => ∃ cn d fs, H1 a = some (errO a (.ref (He.ga C.K cn)) (some d)) ∧ H1 d = some (.xd fs) ∧ (∃ es, C.xf cn = some es ∧ f ∈ es) ∧ ∃ v, fs.lookup f = some v ∧ Q v H1
      | _ => False) := rfl
theorem e_eisi {o : I} {c : CR} : (rd C (.eisi o c) W).e σ H Q = ((rd C o W).e σ H fun x H1 => match x with
      | .ref a => ∃ cn d fs k, H1 a = some (errO a (.ref (He.ga C.K cn)) (some d)) ∧ H1 d = some (.xd fs) ∧ C.eis cn c = some k ∧ Q (.bl k) H1
      | _ => False) := rfl
theorem s_raise {c : Str} {as : I} : (rd C (.raise c as) W).s D σ H = ((rd C as W).a σ H fun vs H1 => ∃ fs, C.xf c = some fs ∧ vs.length = fs.length ∧ ∀ d, H1 d = none → W (.ref (He.ga C.K c)) (some d) σ (upd H1 d (.xd (fs.zip vs).reverse))) := rfl
theorem s_try {c : Str} {i : Nat} {b s : I} : (rd C (.try_ c i b s) W).s D σ H = ((rd C b fun cls d σ' H' => ∃ cn k, cls = .ref (He.ga C.K cn) ∧ C.exm cn c = some k ∧
      (k = true → ∀ a, H' a = none → (rd C s noW).s ⟨fun σ2 H2 => D.nx (σ2.set i none) H2, D.rt, fun σ2 H2 => D.bk (σ2.set i none) H2, fun σ2 H2 => D.ct (σ2.set i none) H2⟩ (σ'.set i (some (.ref a))) (upd H' a (errO a cls d))) ∧ (k = false → W cls d σ' H')).s D σ H) := rfl
theorem s_par3 {i j l : Nat} {as : I} : (rd C (.par3 i j l as) W).s D σ H = ((rd C as W).a σ H fun vs H1 => ∃ u v w, vs = [u, v, w] ∧ D.nx (((σ.set i (some u)).set j (some v)).set l (some w)) H1) := rfl
theorem s_while {c b : I} : (rd C (.while_ c b) W).s D σ H = tWhile (rd C c W).t (rd C b W).s D σ H := rfl
variable {T : Bool → Hp → Prop}
theorem t_methk {o as zs : I} {m : Str} {ks : List Str} : (rd C (.methk o m as ks zs) W).t σ H T = (rd C (.methk o m as ks zs) W).e σ H (trQ C.K T) := rfl
theorem t_smeth {as zs : I} {c m : Str} {ks : List Str} : (rd C (.smeth c m as ks zs) W).t σ H T = (rd C (.smeth c m as ks zs) W).e σ H (trQ C.K T) := rfl
theorem t_xcmp {op : CmpOp} {a b : I} : (rd C (.xcmp op a b) W).t σ H T = ((rd C a W).e σ H fun x H1 => (rd C b W).e σ H1 fun y H2 => rXc C op x y H2 (blQ T)) := rfl
theorem t_oeqs {a b : I} : (rd C (.oeqs a b) W).t σ H T = ((rd C a W).e σ H fun x H1 => (rd C b W).e σ H1 fun y H2 => rOeqs C x y H2 (blQ T)) := rfl
theorem t_oin {a b : I} : (rd C (.oin a b) W).t σ H T = ((rd C a W).e σ H fun x H1 => (rd C b W).e σ H1 fun y H2 => rOin C x y H2 (blQ T)) := rfl
theorem t_obin {op : Operator} {a b : I} : (rd C (.obin op a b) W).t σ H T = (rd C (.obin op a b) W).e σ H (trQ C.K T) := rfl
theorem t_oeq {a b : I} : (rd C (.oeq a b) W).t σ H T = ((rd C a W).e σ H fun x H1 => (rd C b W).e σ H1 fun y H2 => rOeq C x y H2 (blQ T)) := rfl
theorem t_one {a b : I} : (rd C (.one a b) W).t σ H T = ((rd C a W).e σ H fun x H1 => (rd C b W).e σ H1 fun y H2 => rOne C x y H2 (blQ T)) := rfl
theorem t_callk {as zs : I} {f : Str} {ks : List Str} : (rd C (.callk f as ks zs) W).t σ H T = (rd C (.callk f as ks zs) W).e σ H (trQ C.K T) := rfl
theorem t_eisi {o : I} {c : CR} : (rd C (.eisi o c) W).t σ H T = (rd C (.eisi o c) W).e σ H (trQ C.K T) := rfl
theorem t_ix {o i : I} : (rd C (.ix o i) W).t σ H T = (rd C (.ix o i) W).e σ H (trQ C.K T) := rfl
theorem t_lc {own : List (Str × Nat)} {elt tg it cond : I} {b : Bool} : (rd C (.lc own elt tg it b cond) W).t σ H T = (rd C (.lc own elt tg it b cond) W).e σ H (trQ C.K T) := rfl
theorem t_icall {o as zs : I} {ks : List Str} : (rd C (.icall o as ks zs) W).t σ H T = (rd C (.icall o as ks zs) W).e σ H (trQ C.K T) := rfl
/-- an end of a slice -/
def oQ (O : Option Int → Hp → Prop) : VK := fun x H' => match x with
      | .int i => O (some i) H'
      | _ => False
variable {O : Option Int → Hp → Prop}
theorem oQ_int {i : Int} : oQ O (.int i) H = O (some i) H := rfl
theorem o_v {i : Nat} : (rd C (.v i) W).o σ H O = (rd C (.v i) W).e σ H (oQ O) := rfl
theorem o_bop {op : Operator} {a b : I} : (rd C (.bop op a b) W).o σ H O = (rd C (.bop op a b) W).e σ H (oQ O) := rfl
theorem o_uop {op : UnaryOp} {a : I} : (rd C (.uop op a) W).o σ H O = (rd C (.uop op a) W).e σ H (oQ O) := rfl
theorem o_bi {f : B} {as : I} : (rd C (.bi f as) W).o σ H O = (rd C (.bi f as) W).e σ H (oQ O) := rfl
theorem o_ix {a b : I} : (rd C (.ix a b) W).o σ H O = (rd C (.ix a b) W).e σ H (oQ O) := rfl
/-! new objects -/
theorem new_lst {xs : List V} {Q : Addr → Hp → Prop} (hl : xs.length ≤ sizeLine) (h : ∀ p H', H p = none → Ext H H' → H' p = some (.lst xs) → Q p H') : xs.length ≤ sizeLine ∧ ∀ p, H p = none → Q p (upd H p (.lst xs)) :=
  ⟨hl, fun p hp => h p _ hp (Ext.new hp) upd_same⟩
theorem new_tup {xs : List V} {Q : Addr → Hp → Prop} (hl : xs.length ≤ sizeLine) (h : ∀ p H', H p = none → Ext H H' → H' p = some (.tup xs) → Q p H') : xs.length ≤ sizeLine ∧ ∀ p, H p = none → Q p (upd H p (.tup xs)) :=
  ⟨hl, fun p hp => h p _ hp (Ext.new hp) upd_same⟩
theorem new_of {o : HO} {Q : Addr → Hp → Prop} (h : ∀ p H', H p = none → Ext H H' → H' p = some o → Q p H') : ∀ p, H p = none → Q p (upd H p o) :=
  fun p hp => h p _ hp (Ext.new hp) upd_same
/-- isinstance against several classes -/
theorem isiM {x : V} {cs : List CR} {Q : VK} (h : ∀ H', Ext H H' → Isi C H' x cs Q) : ∀ p, H p = none → Isi C (upd H p (.tup (cs.map fun c => match c with | .ty n => V.ty n | .own x => V.ref (He.ga C.K x)))) x cs Q :=
  fun p hp => h _ (Ext.new hp)
theorem isi_rd {a : Addr} {o : HO} {t : String} {cs : List CR} (h : Rd H a o) (ht : tyHO o = some t) (q : Q (.bl (cs.any (isiT t))) H) : Isi C H (.ref a) cs Q := .inr ⟨o, h, t, ht, q⟩
/-- raise -/
theorem raise_of {fs : List Str} {c : Str} {vs : List V} {W : Value → Option Addr → Hp → Prop} (hx : C.xf c = some fs) (hl : vs.length = fs.length) (h : ∀ d H', Ext H H' → H' d = some (.xd (fs.zip vs).reverse) → W (.ref (He.ga C.K c)) (some d) H') :
    ∃ fs, C.xf c = some fs ∧ vs.length = fs.length ∧ ∀ d, H d = none → W (.ref (He.ga C.K c)) (some d) (upd H d (.xd (fs.zip vs).reverse)) :=
  ⟨fs, hx, hl, fun d hd => h d _ (Ext.new hd) upd_same⟩
theorem oeq_of {p : Addr} {y : V} {cn key : Str} {dx : Addr} {fs : List (Str × V)} (h : H p = some (.ins (He.ga C.K cn) dx fs)) (hm : C.mth cn "__eq__" = some key) (hy : EqR C H cn y)
    (q : C.fn key [.ref p, y] H (fun v H' => match v with | .bl k => Q (.bl k) H' | _ => False) fun _ _ _ => False) : rOeq C (.ref p) y H Q := ⟨cn, dx, fs, key, h, hm, hy, q⟩
theorem oeq_same {p q dx dy : Addr} {cn key : Str} {fs gs : List (Str × V)} (h : H p = some (.ins (He.ga C.K cn) dx fs)) (hm : C.mth cn "__eq__" = some key) (hq : H q = some (.ins (He.ga C.K cn) dy gs))
    (k : C.fn key [.ref p, .ref q] H (fun v H' => match v with | .bl k => Q (.bl k) H' | _ => False) fun _ _ _ => False) : rOeq C (.ref p) (.ref q) H Q := oeq_of h hm (.inr (.inl ⟨q, dy, gs, rfl, hq⟩)) k
end
section
variable {p : Pg} {K : PySem.W.Frag} {w : World} {fn : Str → Sp} {L : Option LamT}
theorem x_xf : (p.ctx K w fn).xf = p.xf := rfl
theorem x_exm : (p.ctx K w fn).exm = p.exm := rfl
theorem x_eis : (p.ctx K w fn).eis = p.eis := rfl
theorem x_lt : (p.ctx K w fn).lt = p.lt K := rfl
theorem x_lfn : (p.ctx K w fn).lfn = p.lrun K w fn := rfl
theorem x_smt : (p.ctx K w fn).smt = p.smt := rfl
theorem x_cvl : (p.ctx K w fn).cvl = p.cvl := rfl
theorem y_cvl : (p.ctx0 K w fn L).cvl = p.cvl := rfl
theorem x_opr : (p.ctx K w fn).opr = p.opr := rfl
theorem y_opr : (p.ctx0 K w fn L).opr = p.opr := rfl
theorem x_cmt : (p.ctx K w fn).cmt = p.cmt := rfl
theorem y_cmt : (p.ctx0 K w fn L).cmt = p.cmt := rfl
theorem y_K : (p.ctx0 K w fn L).K = K := rfl
theorem y_w : (p.ctx0 K w fn L).w = w := rfl
theorem y_fn : (p.ctx0 K w fn L).fn = fn := rfl
theorem y_gv : (p.ctx0 K w fn L).gv = p.gv K := rfl
theorem y_tabs : (p.ctx0 K w fn L).tabs = p.tabs := rfl
theorem y_mth : (p.ctx0 K w fn L).mth = p.mth := rfl
theorem y_prp : (p.ctx0 K w fn L).prp = p.prp := rfl
theorem y_fld : (p.ctx0 K w fn L).fld = p.fld := rfl
theorem y_isi : (p.ctx0 K w fn L).isi = p.isi := rfl
theorem y_kwo : (p.ctx0 K w fn L).kwo = p.kwo := rfl
theorem y_dfl : (p.ctx0 K w fn L).dfl = p.dfl := rfl
theorem y_xf : (p.ctx0 K w fn L).xf = p.xf := rfl
theorem y_exm : (p.ctx0 K w fn L).exm = p.exm := rfl
theorem y_eis : (p.ctx0 K w fn L).eis = p.eis := rfl
theorem y_smt : (p.ctx0 K w fn L).smt = p.smt := rfl
theorem y_lam : (p.ctx0 K w fn L).lam = L := rfl
end
section
variable {K : PySem.W.Frag} {H : Hp} {Q : VK}
theorem b_int {i : Int} : rB K .int [.int i] H Q = Q (.int i) H := rfl
theorem b_intB {b : Bool} : rB K .int [.bl b] H Q = Q (.int (if b then 1 else 0)) H := rfl
theorem b_abs {i : Int} : rB K .abs [.int i] H Q = Q (.int (if i < 0 then -i else i)) H := rfl
theorem b_lenL {p : Addr} {xs : List V} (h : SqL K H p xs) (q : Q (.int xs.length) H) : rB K .len [.ref p] H Q := .inl ⟨xs, h, q⟩
theorem b_lenT {p : Addr} {xs : List V} (h : SqT K H p xs) (q : Q (.int xs.length) H) : rB K .len [.ref p] H Q := .inr (.inl ⟨xs, h, q⟩)
theorem b_lenS {z : Str} : rB K .len [.str z] H Q = (z.length ≤ sizeLine ∧ Q (.int z.length) H) := rfl
theorem b_sum {p : Addr} {ns : List Int} (h : SqL K H p (ns.map V.int)) (q : Q (.int ns.sum) H) : rB K .sum [.ref p] H Q := ⟨ns, h, q⟩
end
section
variable {K : PySem.W.Frag} {w : World} {H : Hp} {Q : VK}
theorem it1 : [CR.ty "tuple", CR.ty "list"].any (isiT "int") = false := by decide +kernel
theorem it2 : [CR.ty "tuple", CR.ty "list"].any (isiT "str") = false := by decide +kernel
theorem it3 : [CR.ty "tuple", CR.ty "list"].any (isiT "bool") = false := by decide +kernel
theorem it4 : [CR.ty "tuple", CR.ty "list"].any (isiT "NoneType") = false := by decide +kernel
theorem it5 : [CR.ty "tuple", CR.ty "list"].any (isiT "list") = true := by decide +kernel
theorem it6 : [CR.ty "tuple", CR.ty "list"].any (isiT "tuple") = true := by decide +kernel
theorem it7 : [CR.ty "tuple"].any (isiT "list") = false := by decide +kernel
theorem it8 : [CR.ty "tuple"].any (isiT "tuple") = true := by decide +kernel
theorem it9 : [CR.ty "bool"].any (isiT "bool") = true := by decide +kernel
theorem it10 : [CR.ty "int"].any (isiT "bool") = true := by decide +kernel
theorem it11 : [CR.ty "bool"].any (isiT "NoneType") = false := by decide +kernel
theorem it12 : [CR.ty "int"].any (isiT "NoneType") = false := by decide +kernel
theorem it13 : [CR.ty "str"].any (isiT "NoneType") = false := by decide +kernel
theorem it14 : [CR.ty "int"].any (isiT "tuple") = false := by decide +kernel
theorem it15 : [CR.ty "int"].any (isiT "list") = false := by decide +kernel
theorem it16 : [CR.ty "str"].any (isiT "bool") = false := by decide +kernel
theorem it17 : [CR.ty "str"].any (isiT "tuple") = false := by decide +kernel
theorem it18 : [CR.ty "str"].any (isiT "list") = false := by decide +kernel
theorem r_addS {a b : Str} : rBin K .Add (.str a) (.str b) H Q = (a.length + b.length ≤ sizeLine ∧ Q (.str (a ++ b)) H) := rfl
theorem r_isN {T : List KTab} {x : V} : rCmp K w T .Is x .non H Q = Q (.bl (false.xor (match x with | .non => true | _ => false))) H := rfl
theorem r_eqB {T : List KTab} {x y : Bool} : rCmp K w T .Eq (.bl x) (.bl y) H Q = Q (.bl (x == y)) H := rfl
theorem r_neB {T : List KTab} {x y : Bool} : rCmp K w T .NotEq (.bl x) (.bl y) H Q = Q (.bl (!(x == y))) H := rfl
end
/-! heaps that change at one place -/
def ExtP (p : Addr) (H H' : Hp) : Prop := ∀ a o, a ≠ p → H a = some o → H' a = some o
theorem ExtP.refl {p : Addr} {H : Hp} : ExtP p H H := fun _ _ _ h => h
theorem Ext.toP {p : Addr} {H H' : Hp} (x : Ext H H') : ExtP p H H' := fun a o _ h => x a o h
theorem ExtP.trans {p : Addr} {H H' H'' : Hp} (a : ExtP p H H') (b : ExtP p H' H'') : ExtP p H H'' := fun x o n h => b x o n (a x o n h)
theorem ExtP.put {p : Addr} {H : Hp} {o : HO} : ExtP p H (upd H p o) := fun a o' n h => by rw [upd_ne n]; exact h
theorem ExtP.get {p a : Addr} {o : HO} {H H' : Hp} (x : ExtP p H H') (n : a ≠ p) (h : H a = some o) : H' a = some o := x a o n h
/-- all but dicts of a new kind, and tables -/
def ExtD (p : Addr) (H H' : Hp) : Prop := ∀ a o, a ≠ p → H a = some o → (∀ ps, o ≠ .tbl ps) → H' a = some o
theorem ExtD.refl {p : Addr} {H : Hp} : ExtD p H H := fun _ _ _ h _ => h
theorem ExtD.trans {p : Addr} {H H' H'' : Hp} (a : ExtD p H H') (b : ExtD p H' H'') : ExtD p H H'' := fun x o n h k => b x o n (a x o n h k) k
theorem Ext.toD {p : Addr} {H H' : Hp} (x : Ext H H') : ExtD p H H' := fun a o _ h _ => x a o h
theorem ExtP.toD {p : Addr} {H H' : Hp} (x : ExtP p H H') : ExtD p H H' := fun a o n h _ => x a o n h
theorem extN_D {p : Addr} {H H' : Hp} (x : LamX.ExtN H H') : ExtD p H H' := fun a o _ h k => x a o h k
theorem Ext.toN {H H' : Hp} (x : Ext H H') : LamX.ExtN H H' := fun a o h _ => x a o h
theorem tabs_ext {T : List (Addr × Str)} {H H' : Hp} (t : LamX.Tabs T H) (x : Ext H H') : LamX.Tabs T H' := fun p hp => (t p hp).ext x
theorem tabs_put {T : List (Addr × Str)} {p : Addr} {H H' : Hp} {kvs : List (Key × V)} (h : H p = some (.dK kvs)) (t : LamX.Tabs T H) (x : ExtP p H H') : LamX.Tabs T H' := by
  intro z hz
  obtain ⟨ps, h1, h2, h3⟩ := t z hz
  refine ⟨ps, x _ _ (fun e => ?_) h1, h2, fun pos cv hc => ?_⟩
  · rw [← e, h1] at h
    cases h
  · obtain ⟨c, e1, e2⟩ := h3 pos cv hc
    refine ⟨c, e1, x _ _ (fun e => ?_) e2⟩
    rw [← e, e2] at h
    cases h
theorem Rd.extU {H H' : Hp} {a : Addr} {o : HO} (x : Ext H H') (h : Rd H a o) : Rd H' a o := by
  rcases h with h | ⟨z, h⟩
  · exact .inl (x.get h)
  · exact .inr ⟨z, x.get h⟩
theorem SqL.extU {K : PySem.W.Frag} {H H' : Hp} {a : Addr} {xs : List V} (x : Ext H H') (h : SqL K H a xs) : SqL K H' a xs := by
  rcases h with h | h
  · exact .inl (Rd.extU x h)
  · exact .inr h
theorem SqT.extU {K : PySem.W.Frag} {H H' : Hp} {a : Addr} {xs : List V} (x : Ext H H') (h : SqT K H a xs) : SqT K H' a xs := by
  rcases h with h | h
  · exact .inl (Rd.extU x h)
  · exact .inr h
mutual
theorem Dp.ext {K : PySem.W.Frag} {H H' : Hp} (x : Ext H H') : ∀ {v : V} {d : PyData}, Dp K H v d → Dp K H' v d
  | _, _, .non => .non
  | _, _, .bl b => .bl b
  | _, _, .int b => .int b
  | _, _, .str b => .str b
  | _, _, .lst h hs => .lst (SqL.extU x h) (DpAll.ext x hs)
  | _, _, .tup h hs => .tup (SqT.extU x h) (DpAll.ext x hs)
theorem DpAll.ext {K : PySem.W.Frag} {H H' : Hp} (x : Ext H H') : ∀ {v : List V} {d : List PyData}, DpAll K H v d → DpAll K H' v d
  | _, _, .nil => .nil
  | _, _, .cons h hs => .cons (Dp.ext x h) (DpAll.ext x hs)
end
end U

namespace U
open PySem PySem.Spec PyProof.Rows L2
/-! ### comprehensions, item by item -/
theorem wipe_set1 {σ : St} {i : Nat} {x : Option V} : wipe ((wipe σ [i]).set i x) [i] = wipe σ [i] := by
  simp only [wipe_cons, wipe_nil, List.set_set]
theorem wipe_set2 {σ : St} {i j : Nat} {x y : Option V} : wipe (((wipe σ [i, j]).set i x).set j y) [i, j] = wipe σ [i, j] := by
  simp only [wipe_cons, wipe_nil]
  apply List.ext_getElem?
  intro k
  simp only [List.getElem?_set, List.length_set]
  by_cases h1 : i = k <;> by_cases h2 : j = k <;> simp [h1, h2]
section
variable {C : Ctx} {W : WX} {σ : St} {H : Hp} {Q : VK}
/-- [elt for x in it if cond], x in slot i -/
theorem lc_mapv {nm : Str} {i : Nat} {elt it cond : I} {b : Bool} {xs : List V} {ok : Hp → Prop} (f : V → Option V)
    (hit : ∀ R : (Hp → Prop) → List It1 → Hp → Prop, R ok (xs.map .v) H → (rd C it W).i σ H R) (hok : ∀ H', Ext H H' → ok H') (hlen : xs.length ≤ sizeLine)
    (step : ∀ x ∈ xs, ∀ (H' : Hp), Ext H H' → ∀ (P : Hp → Prop) (Pv : VK), (∀ v, f x = some v → ∀ H'', Ext H' H'' → Pv v H'') → (f x = none → ∀ H'', Ext H' H'' → P H'') →
      lcIf b (rd C cond noW).t ((wipe σ [i]).set i (some x)) H' fun bb H3 => if bb = true then (rd C elt noW).e ((wipe σ [i]).set i (some x)) H3 Pv else P H3)
    (fin : ∀ p H', Ext H H' → H' p = some (.lst (xs.filterMap f)) → Q (.ref p) H') : (rd C (.lc [(nm, i)] elt (.v i) it b cond) W).e σ H Q := by
  rw [e_lc]
  refine hit _ fun D hD => ?_
  refine lcs_inv (H := H) (f := fun | .v x => f x | _ => none) hok _ [] _ (Ext.new hD) upd_same ?_ (by simpa using hlen) ?_
  · intro y hy H' acc nx x1 e1 hl hq
    obtain ⟨x, hx, rfl⟩ := List.mem_map.mp hy
    refine ⟨wipe_set1, ?_⟩
    refine step x hx H' x1 nx _ (fun v hv H'' x2 => ?_) fun hv H'' x2 => ?_
    · refine ⟨acc, x2.get e1, hl, hq _ ((x1.trans x2).put hD) ?_⟩
      rw [upd_same]
      show _ = some (HO.lst (acc ++ (f x).toList))
      rw [hv]
      rfl
    · refine hq _ (x1.trans x2) ?_
      rw [x2.get e1]
      show _ = some (HO.lst (acc ++ (f x).toList))
      rw [hv]
      simp
  · intro H' x e
    refine fin D H' x ?_
    rw [e, List.nil_append, List.filterMap_map]
    rfl
/-- [elt for x, y in it if cond], x in slot i, y in slot j -/
theorem lc_mapt {nm nm2 : Str} {i j : Nat} {elt it cond : I} {b : Bool} {xs : List (V × V)} {ok : Hp → Prop} (f : V → V → Option V)
    (hit : ∀ R : (Hp → Prop) → List It1 → Hp → Prop, R ok (xs.map fun p => .t [p.1, p.2]) H → (rd C it W).i σ H R) (hok : ∀ H', Ext H H' → ok H') (hlen : xs.length ≤ sizeLine)
    (step : ∀ p ∈ xs, ∀ (H' : Hp), Ext H H' → ∀ (P : Hp → Prop) (Pv : VK), (∀ v, f p.1 p.2 = some v → ∀ H'', Ext H' H'' → Pv v H'') → (f p.1 p.2 = none → ∀ H'', Ext H' H'' → P H'') →
      lcIf b (rd C cond noW).t (((wipe σ [i, j]).set i (some p.1)).set j (some p.2)) H' fun bb H3 => if bb = true then (rd C elt noW).e (((wipe σ [i, j]).set i (some p.1)).set j (some p.2)) H3 Pv else P H3)
    (fin : ∀ p H', Ext H H' → H' p = some (.lst (xs.filterMap fun p => f p.1 p.2)) → Q (.ref p) H') : (rd C (.lc [(nm, i), (nm2, j)] elt (.tupG (.cons (.v i) (.cons (.v j) .nil))) it b cond) W).e σ H Q := by
  rw [e_lc]
  refine hit _ fun D hD => ?_
  refine lcs_inv (H := H) (f := fun | .t [x, y] => f x y | _ => none) hok _ [] _ (Ext.new hD) upd_same ?_ (by simpa using hlen) ?_
  · intro y hy H' acc nx x1 e1 hl hq
    obtain ⟨⟨x, y⟩, hx, rfl⟩ := List.mem_map.mp hy
    intro T hT
    have hne : D ≠ T := ne_of_none e1 hT
    have x2 : Ext H (upd H' T (.tup [x, y])) := x1.upd_of hT
    have e2 : upd H' T (.tup [x, y]) D = some (.lst acc) := by rw [upd_ne hne]; exact e1
    refine ⟨rfl, rfl, wipe_set2, ?_⟩
    refine step (x, y) hx _ x2 nx _ (fun v hv H'' x3 => ?_) fun hv H'' x3 => ?_
    · refine ⟨acc, x3.get e2, hl, hq _ ((x2.trans x3).put hD) ?_⟩
      rw [upd_same]
      show _ = some (HO.lst (acc ++ (f x y).toList))
      rw [hv]
      rfl
    · refine hq _ (x2.trans x3) ?_
      rw [x3.get e2]
      show _ = some (HO.lst (acc ++ (f x y).toList))
      rw [hv]
      simp
  · intro H' x e
    refine fin D H' x ?_
    rw [e, List.nil_append, List.filterMap_map]
    rfl
end
theorem o_att {C : Ctx} {W : WX} {σ : St} {H : Hp} {o : I} {f : Str} {O : Option Int → Hp → Prop} : (rd C (.att o f) W).o σ H O = (rd C (.att o f) W).e σ H (oQ O) := rfl
theorem o_call {C : Ctx} {W : WX} {σ : St} {H : Hp} {as : I} {f : Str} {O : Option Int → Hp → Prop} : (rd C (.call f as) W).o σ H O = (rd C (.call f as) W).e σ H (oQ O) := rfl
theorem i_R2 {C : Ctx} {W : WX} {σ : St} {H : Hp} {a b : I} {R : (Hp → Prop) → List It1 → Hp → Prop} : (rd C (.itR2 a b) W).i σ H R = ((rd C a W).e σ H fun x H1 => (rd C b W).e σ H1 fun y H2 => match x, y with
      | .int i, .int j => (-(2 ^ 62) ≤ i ∧ i < 2 ^ 62 ∧ -(2 ^ 62) ≤ j ∧ j < 2 ^ 62) ∧ R (fun _ => True) ((List.range (j - i).toNat).map fun k => .v (.int (i + (k : Nat)))) H2
      | _, _ => False) := rfl
/-- the walked tuple first -/
theorem lc_itT {C : Ctx} {W : WX} {σ : St} {H : Hp} {Q : VK} {own : List (Str × Nat)} {elt tg e cond : I} {b : Bool} : (rd C (.lc own elt tg (.itT e) b cond) W).e σ H Q = (rd C e W).e σ H fun x H1 => (rd C (.lc own elt tg (.itT (.k x)) b cond) W).e σ H1 Q := rfl
theorem lc_itL {C : Ctx} {W : WX} {σ : St} {H : Hp} {Q : VK} {own : List (Str × Nat)} {elt tg e cond : I} {b : Bool} : (rd C (.lc own elt tg (.itL e) b cond) W).e σ H Q = (rd C e W).e σ H fun x H1 => (rd C (.lc own elt tg (.itL (.k x)) b cond) W).e σ H1 Q := rfl
/-! ### all but lists and tables stay -/
def ExtL (H H' : Hp) : Prop := ∀ a o, H a = some o → (∀ xs, o ≠ .lst xs) → (∀ ps, o ≠ .tbl ps) → H' a = some o
theorem ExtL.refl {H : Hp} : ExtL H H := fun _ _ h _ _ => h
theorem ExtL.trans {H H' H'' : Hp} (a : ExtL H H') (b : ExtL H' H'') : ExtL H H'' := fun x o h k l => b x o (a x o h k l) k l
theorem Ext.toL {H H' : Hp} (x : Ext H H') : ExtL H H' := fun a o h _ _ => x a o h
theorem extN_L {H H' : Hp} (x : LamX.ExtN H H') : ExtL H H' := fun a o h _ k => x a o h k
theorem extP_L {p : Addr} {xs : List V} {H H' : Hp} (hp : H p = some (.lst xs)) (x : ExtP p H H') : ExtL H H' := fun a o h k _ => x a o (fun e => by
  rw [e, hp] at h
  cases h
  exact k _ rfl) h
theorem ExtL.tup {H H' : Hp} {a : Addr} {xs : List V} (x : ExtL H H') (h : H a = some (.tup xs)) : H' a = some (.tup xs) := x a _ h (fun _ e => by cases e) fun _ e => by cases e
theorem ExtL.ins {H H' : Hp} {a c d : Addr} {fs : List (Str × V)} (x : ExtL H H') (h : H a = some (.ins c d fs)) : H' a = some (.ins c d fs) := x a _ h (fun _ e => by cases e) fun _ e => by cases e
theorem ExtL.dK {H H' : Hp} {a : Addr} {kvs : List (Key × V)} (x : ExtL H H') (h : H a = some (.dK kvs)) : H' a = some (.dK kvs) := x a _ h (fun _ e => by cases e) fun _ e => by cases e
/-! ### small data -/
structure Sm (k j : Nat) (d : PyData) : Prop where
  sh : d.showable = true
  lf : d.leavesShort 13 = true
  cl : d.canLay0 = true
  wt : d.weight ≤ k
  dp : d.depth ≤ j
structure SmAll (k j : Nat) (ds : List PyData) : Prop where
  sh : PyData.showableAll ds = true
  lf : PyData.leavesShortAll 13 ds = true
  cl : PyData.canLayAll0 ds = true
  wt : PyData.weightAll ds ≤ k
  dp : PyData.depthAll ds ≤ j
theorem Sm.mono {k j k' j' : Nat} {d : PyData} (h : Sm k j d) (h1 : k ≤ k') (h2 : j ≤ j') : Sm k' j' d := ⟨h.sh, h.lf, h.cl, Nat.le_trans h.wt h1, Nat.le_trans h.dp h2⟩
theorem SmAll.mono {k j k' j' : Nat} {d : List PyData} (h : SmAll k j d) (h1 : k ≤ k') (h2 : j ≤ j') : SmAll k' j' d := ⟨h.sh, h.lf, h.cl, Nat.le_trans h.wt h1, Nat.le_trans h.dp h2⟩
theorem Sm.non : Sm 0 0 .none := ⟨rfl, rfl, rfl, Nat.le_refl _, Nat.le_refl _⟩
theorem Sm.bl (b : Bool) : Sm 0 0 (.bool b) := ⟨rfl, rfl, rfl, Nat.le_refl _, Nat.le_refl _⟩
theorem Sm.int {i : Int} (h : i.natAbs < 10 ^ 12) : Sm 64 0 (.int i) := by
  have hl : i.natAbs.log2 < 40 := by
    by_cases z : i.natAbs = 0
    · rw [z]; decide
    · exact (Nat.log2_lt z).mpr (Nat.lt_trans h (by decide))
  refine ⟨decide_eq_true (by omega), ?_, rfl, ?_, Nat.le_refl _⟩
  · show decide ((PyData.shown (.int i)).length ≤ 13) = true
    exact decide_eq_true (PyData.shown_int_le h)
  · show (if (i == 0) = true then 0 else i.natAbs.log2 + 1) ≤ 64
    split <;> omega
theorem Sm.str {l : List Nat} (h : ∀ c ∈ l, c < 1114112) : Sm l.length 0 (.str (S l)) := by
  refine ⟨rfl, ?_, ?_, Nat.le_refl _, Nat.le_refl _⟩
  · show (l.all fun c => decide (c < 16 ^ 8)) = true
    rw [List.all_eq_true]
    intro c hc
    have := h c hc
    exact decide_eq_true (by omega)
  · show (Array.mk l).all (fun c => decide (c < 1114112)) = true
    rw [← Array.all_toList, List.all_eq_true]
    intro c hc
    exact decide_eq_true (h c hc)
theorem SmAll.nil {j : Nat} : SmAll 0 j [] := ⟨rfl, rfl, rfl, Nat.le_refl _, Nat.zero_le _⟩
theorem SmAll.cons {a b j : Nat} {d : PyData} {ds : List PyData} (h : Sm a j d) (r : SmAll b j ds) : SmAll (a + 1 + b) j (d :: ds) := by
  refine ⟨?_, ?_, ?_, ?_, ?_⟩
  · show (PyData.showable d && PyData.showableAll ds) = true
    rw [h.sh, r.sh]; rfl
  · show (PyData.leavesShort 13 d && PyData.leavesShortAll 13 ds) = true
    rw [h.lf, r.lf]; rfl
  · show (PyData.canLay0 d && PyData.canLayAll0 ds) = true
    rw [h.cl, r.cl]; rfl
  · show PyData.weight d + 1 + PyData.weightAll ds ≤ _
    have := h.wt
    have := r.wt
    omega
  · show max (PyData.depth d) (PyData.depthAll ds) ≤ j
    have := h.dp
    have := r.dp
    omega
theorem SmAll.all {a j : Nat} : ∀ {ds : List PyData}, (∀ d ∈ ds, Sm a j d) → SmAll ((a + 1) * ds.length) j ds
  | [], _ => SmAll.nil
  | d :: ds, h => by
    have r := SmAll.cons (h d (List.mem_cons_self ..)) (SmAll.all fun e he => h e (List.mem_cons_of_mem _ he))
    exact r.mono (by rw [List.length_cons, Nat.mul_add]; omega) (Nat.le_refl _)
theorem Sm.lst {k j : Nat} {ds : List PyData} (h : SmAll k j ds) : Sm k (j + 1) (.list ds) := ⟨h.sh, h.lf, h.cl, h.wt, Nat.succ_le_succ h.dp⟩
theorem Sm.tup {k j : Nat} {ds : List PyData} (h : SmAll k j ds) : Sm k (j + 1) (.tuple ds) := ⟨h.sh, h.lf, h.cl, h.wt, Nat.succ_le_succ h.dp⟩
theorem Sm.shaped {k j : Nat} {d : PyData} (h : Sm k j d) (hj : j ≤ 64) : SeqAt.shaped d = true := by
  unfold SeqAt.shaped
  rw [h.cl, decide_eq_true (Nat.le_trans h.dp hj)]
  rfl
theorem Sm.bools {as : List Bool} : SmAll as.length 0 (as.map .bool) := by
  have := SmAll.all (a := 0) (j := 0) (ds := as.map .bool) fun d hd => by
    obtain ⟨b, _, rfl⟩ := List.mem_map.mp hd
    exact Sm.bl b
  rw [List.length_map, Nat.one_mul] at this
  exact this
theorem rep_sm {C : Ctx} {H : Hp} {Q : VK} {x : V} {d : PyData} {k j : Nat} (hd : Dp C.K H x d) (h : Sm k j d) (hk : k ≤ 1000000) (hj : j ≤ 60) (q : Q (.str d.shown) H) : rRep C x H Q :=
  rep_d hd h.sh (PyData.shown_fits (by decide) (by decide) h.lf (by have := h.wt; omega)) (Nat.le_trans h.dp hj) q
/-! parts of a body -/
def forB : I → I
  | .for_ _ _ b => b
  | i => i
def nthI : Nat → I → I
  | 0, .cons a _ => a
  | k + 1, .cons _ b => nthI k b
  | _, i => i
end U

namespace U
open PySem PySem.Spec PyProof.Rows L2
/-! names -/
abbrev s__law_pen : Str := S [95, 108, 97, 119, 95, 112, 101, 110]
abbrev s__law_names : Str := S [95, 108, 97, 119, 95, 110, 97, 109, 101, 115]
abbrev s__law_line : Str := S [95, 108, 97, 119, 95, 108, 105, 110, 101]
abbrev s__law_line_made : Str := S [95, 108, 97, 119, 95, 108, 105, 110, 101, 95, 109, 97, 100, 101]
abbrev s__law_lets_right : Str := S [95, 108, 97, 119, 95, 108, 101, 116, 115, 95, 114, 105, 103, 104, 116]
abbrev s__law_patterns_right : Str := S [95, 108, 97, 119, 95, 112, 97, 116, 116, 101, 114, 110, 115, 95, 114, 105, 103, 104, 116]
abbrev s_Line : Str := S [76, 105, 110, 101]
abbrev s_patterns : Str := S [112, 97, 116, 116, 101, 114, 110, 115]
abbrev s__law_draw : Str := S [95, 108, 97, 119, 95, 100, 114, 97, 119]
abbrev s__law_k : Str := S [95, 108, 97, 119, 95, 107]
abbrev s__law_pick : Str := S [95, 108, 97, 119, 95, 112, 105, 99, 107]
abbrev s_lets : Str := S [108, 101, 116, 115]
abbrev s_Mode : Str := S [77, 111, 100, 101]
abbrev s_group : Str := S [103, 114, 111, 117, 112]
abbrev s_owner : Str := S [111, 119, 110, 101, 114]
abbrev s_mode : Str := S [109, 111, 100, 101]
abbrev s_form : Str := S [102, 111, 114, 109]
abbrev s__law_lets : Str := S [95, 108, 97, 119, 95, 108, 101, 116, 115]
abbrev s__law_patterns : Str := S [95, 108, 97, 119, 95, 112, 97, 116, 116, 101, 114, 110, 115]
abbrev s_letter : Str := S [108, 101, 116, 116, 101, 114]
abbrev s_with_pattern : Str := S [119, 105, 116, 104, 95, 112, 97, 116, 116, 101, 114, 110]
abbrev s_FORMS : Str := S [70, 79, 82, 77, 83]
abbrev s_BadKind : Str := S [66, 97, 100, 75, 105, 110, 100]
abbrev s_is_told : Str := S [105, 115, 95, 116, 111, 108, 100]
abbrev s_is_mode : Str := S [105, 115, 95, 109, 111, 100, 101]
abbrev s_number_of : Str := S [110, 117, 109, 98, 101, 114, 95, 111, 102]
abbrev s_own_form : Str := S [111, 119, 110, 95, 102, 111, 114, 109]
abbrev s_own_owners : Str := S [111, 119, 110, 95, 111, 119, 110, 101, 114, 115]
abbrev s_kept_names : Str := S [107, 101, 112, 116, 95, 110, 97, 109, 101, 115]
abbrev s_own_groups : Str := S [111, 119, 110, 95, 103, 114, 111, 117, 112, 115]
abbrev s_own_must : Str := S [111, 119, 110, 95, 109, 117, 115, 116]
abbrev s_own_never : Str := S [111, 119, 110, 95, 110, 101, 118, 101, 114]
abbrev s_pattern : Str := S [112, 97, 116, 116, 101, 114, 110]
abbrev s_is_integer : Str := S [105, 115, 95, 105, 110, 116, 101, 103, 101, 114]
abbrev s_GREATEST : Str := S [71, 82, 69, 65, 84, 69, 83, 84]
abbrev s_BadMode : Str := S [66, 97, 100, 77, 111, 100, 101]
abbrev s_bits : Str := S [98, 105, 116, 115]
abbrev s_has_names : Str := S [104, 97, 115, 95, 110, 97, 109, 101, 115]
abbrev s_number : Str := S [110, 117, 109, 98, 101, 114]
abbrev s_place_of : Str := S [112, 108, 97, 99, 101, 95, 111, 102]
abbrev s_pattern_bits : Str := S [112, 97, 116, 116, 101, 114, 110, 95, 98, 105, 116, 115]
abbrev s_MOST_NAMES : Str := S [77, 79, 83, 84, 95, 78, 65, 77, 69, 83]
abbrev s_name : Str := S [110, 97, 109, 101]
abbrev s_is_name : Str := S [105, 115, 95, 110, 97, 109, 101]
abbrev s_at : Str := S [97, 116]
abbrev s_PLACES : Str := S [80, 76, 65, 67, 69, 83]
abbrev s_LONGEST_NAME : Str := S [76, 79, 78, 71, 69, 83, 84, 95, 78, 65, 77, 69]
abbrev s_sign : Str := S [115, 105, 103, 110]
abbrev s_LETTERS : Str := S [76, 69, 84, 84, 69, 82, 83]
abbrev s_law : Str := S [108, 97, 119]
abbrev s__law_script : Str := S [95, 108, 97, 119, 95, 115, 99, 114, 105, 112, 116]
abbrev s__law_pen_here : Str := S [95, 108, 97, 119, 95, 112, 101, 110, 95, 104, 101, 114, 101]
abbrev s__law_turn : Str := S [95, 108, 97, 119, 95, 116, 117, 114, 110]
abbrev s__law_names_here : Str := S [95, 108, 97, 119, 95, 110, 97, 109, 101, 115, 95, 104, 101, 114, 101]
abbrev s__law_told : Str := S [95, 108, 97, 119, 95, 116, 111, 108, 100]
abbrev s__law_line_here : Str := S [95, 108, 97, 119, 95, 108, 105, 110, 101, 95, 104, 101, 114, 101]
abbrev s__law_again : Str := S [95, 108, 97, 119, 95, 97, 103, 97, 105, 110]
abbrev s__law_many : Str := S [95, 108, 97, 119, 95, 109, 97, 110, 121]
abbrev s__law_letters : Str := S [95, 108, 97, 119, 95, 108, 101, 116, 116, 101, 114, 115]
abbrev s__law_stem : Str := S [95, 108, 97, 119, 95, 115, 116, 101, 109]
abbrev s__law_first : Str := S [95, 108, 97, 119, 95, 102, 105, 114, 115, 116]
abbrev s__law_hop : Str := S [95, 108, 97, 119, 95, 104, 111, 112]
abbrev s__law_found : Str := S [95, 108, 97, 119, 95, 102, 111, 117, 110, 100]
abbrev s__law_sign : Str := S [95, 108, 97, 119, 95, 115, 105, 103, 110]
abbrev s__law_owners : Str := S [95, 108, 97, 119, 95, 111, 119, 110, 101, 114, 115]
abbrev s__law_groups : Str := S [95, 108, 97, 119, 95, 103, 114, 111, 117, 112, 115]
abbrev s__law_must : Str := S [95, 108, 97, 119, 95, 109, 117, 115, 116]
abbrev s__law_never : Str := S [95, 108, 97, 119, 95, 110, 101, 118, 101, 114]
abbrev s__law_form_so : Str := S [95, 108, 97, 119, 95, 102, 111, 114, 109, 95, 115, 111]
abbrev s__law_bit : Str := S [95, 108, 97, 119, 95, 98, 105, 116]
abbrev s__law_some : Str := S [95, 108, 97, 119, 95, 115, 111, 109, 101]
abbrev s__law_number : Str := S [95, 108, 97, 119, 95, 110, 117, 109, 98, 101, 114]
abbrev s__law_sort : Str := S [95, 108, 97, 119, 95, 115, 111, 114, 116]
abbrev s__law_holder : Str := S [95, 108, 97, 119, 95, 104, 111, 108, 100, 101, 114]
abbrev s__law_team : Str := S [95, 108, 97, 119, 95, 116, 101, 97, 109]
abbrev s__law_bits : Str := S [95, 108, 97, 119, 95, 98, 105, 116, 115]
abbrev s__law_due : Str := S [95, 108, 97, 119, 95, 100, 117, 101]
abbrev s_Line___init__ : Str := S [76, 105, 110, 101, 46, 95, 95, 105, 110, 105, 116, 95, 95]
abbrev s_self : Str := S [115, 101, 108, 102]
abbrev s_owners : Str := S [111, 119, 110, 101, 114, 115]
abbrev s_groups : Str := S [103, 114, 111, 117, 112, 115]
abbrev s_must : Str := S [109, 117, 115, 116]
abbrev s_never_w : Str := S [110, 101, 118, 101, 114]
abbrev s_names : Str := S [110, 97, 109, 101, 115]
abbrev s_Line_patterns : Str := S [76, 105, 110, 101, 46, 112, 97, 116, 116, 101, 114, 110, 115]
abbrev s__law_digit : Str := S [95, 108, 97, 119, 95, 100, 105, 103, 105, 116]
abbrev s__law_at : Str := S [95, 108, 97, 119, 95, 97, 116]
abbrev s__law_cell : Str := S [95, 108, 97, 119, 95, 99, 101, 108, 108]
abbrev s__law_great : Str := S [95, 108, 97, 119, 95, 103, 114, 101, 97, 116]
abbrev s__law_mixed : Str := S [95, 108, 97, 119, 95, 109, 105, 120, 101, 100]
abbrev s_Mode___init__ : Str := S [77, 111, 100, 101, 46, 95, 95, 105, 110, 105, 116, 95, 95]
abbrev s_Line_lets : Str := S [76, 105, 110, 101, 46, 108, 101, 116, 115]
abbrev s__law_letter_so : Str := S [95, 108, 97, 119, 95, 108, 101, 116, 116, 101, 114, 95, 115, 111]
abbrev s__law_place : Str := S [95, 108, 97, 119, 95, 112, 108, 97, 99, 101]
abbrev s__law_pattern : Str := S [95, 108, 97, 119, 95, 112, 97, 116, 116, 101, 114, 110]
abbrev s__law_mask : Str := S [95, 108, 97, 119, 95, 109, 97, 115, 107]
abbrev s_Mode_with_pattern : Str := S [77, 111, 100, 101, 46, 119, 105, 116, 104, 95, 112, 97, 116, 116, 101, 114, 110]
abbrev s_place : Str := S [112, 108, 97, 99, 101]
abbrev s_rest : Str := S [114, 101, 115, 116]
abbrev s_thing : Str := S [116, 104, 105, 110, 103]
abbrev s_Mode_pattern : Str := S [77, 111, 100, 101, 46, 112, 97, 116, 116, 101, 114, 110]
abbrev s_low : Str := S [108, 111, 119]
abbrev s_high : Str := S [104, 105, 103, 104]
abbrev s_Line_has_names : Str := S [76, 105, 110, 101, 46, 104, 97, 115, 95, 110, 97, 109, 101, 115]
abbrev s_Mode_number : Str := S [77, 111, 100, 101, 46, 110, 117, 109, 98, 101, 114]
abbrev s_range : Str := S [114, 97, 110, 103, 101]
abbrev s_list : Str := S [108, 105, 115, 116]
abbrev s_int : Str := S [105, 110, 116]
abbrev s_repr : Str := S [114, 101, 112, 114]
abbrev s_len : Str := S [108, 101, 110]
abbrev s_abs : Str := S [97, 98, 115]
abbrev s_isinstance : Str := S [105, 115, 105, 110, 115, 116, 97, 110, 99, 101]
abbrev s_tuple : Str := S [116, 117, 112, 108, 101]
abbrev s_all : Str := S [97, 108, 108]
abbrev s_sorted : Str := S [115, 111, 114, 116, 101, 100]
abbrev s_str : Str := S [115, 116, 114]
abbrev s_sum : Str := S [115, 117, 109]
abbrev s_bool : Str := S [98, 111, 111, 108]
abbrev s___init__ : Str := S [95, 95, 105, 110, 105, 116, 95, 95]
abbrev s_BadKind___init__ : Str := S [66, 97, 100, 75, 105, 110, 100, 46, 95, 95, 105, 110, 105, 116, 95, 95]
abbrev s_part : Str := S [112, 97, 114, 116]
abbrev s_BadMode___init__ : Str := S [66, 97, 100, 77, 111, 100, 101, 46, 95, 95, 105, 110, 105, 116, 95, 95]
/-! the text -/
abbrev pw : Program := PySem.Challenge.pw_modesdown_k35_lines_let
def top (i : Nat) : Stmt := pw.main.body.getD i (.Pass ⟨0, 0, 0, 0⟩)
def b_law : I := (.cons (.set (.v 1) (.call s__law_pen (.cons (.v 0) .nil))) (.cons (.for_ (.v 2) (.itR1 (.k (V.int 8))) (.cons (.set (.v 3) (.call s__law_names (.cons (.v 1) (.cons (.k (V.int 4)) .nil)))) (.cons (.set (.v 4) (.call s__law_line (.cons (.v 1) (.cons (.v 3) .nil)))) (.cons (.set (.v 5) (.call s__law_line_made (.cons (.v 4) .nil))) (.cons (.for_ (.v 6) (.itR1 (.k (V.int 12))) (.cons (.if_ (.not (.call s__law_lets_right (.cons (.v 1) (.cons (.v 4) (.cons (.v 5) (.cons (.v 3) .nil)))))) (.cons (.ret (.k (V.bl false))) .nil) .nil) .nil)) (.cons (.if_ (.not (.call s__law_patterns_right (.cons (.v 1) (.cons (.v 4) (.cons (.v 5) (.cons (.v 3) .nil)))))) (.cons (.ret (.k (V.bl false))) .nil) .nil) .nil)))))) (.cons (.ret (.and (.cmp .Eq (.meth (.mk s_Line (.cons (.k (V.str (S [102, 105, 108, 101]))) .nil)) s_patterns (.cons (.k (V.str (S [119]))) .nil)) (.rgl false (.k (V.int 8)))) (.cmp .Eq (.meth (.mk s_Line (.cons (.k (V.str (S [102, 105, 108, 101]))) (.cons (.k V.non) (.cons (.k V.non) (.cons (.k (V.int 73)) .nil))))) s_patterns (.cons (.k (V.str (S [120]))) .nil)) (.lst (.cons (.k (V.int 7)) .nil))))) .nil)))
def d_law : DefI := ⟨s_law, .glo s_law, s_law, s_law, top 38, [s__law_script, s__law_pen_here, s__law_turn, s__law_names_here, s__law_told, s__law_line_here, s__law_again], [s__law_script], b_law, false, false, []⟩
def b__law_pen : I := (.cons (.ret (.lst (.cons (.bi .list (.cons (.sl (.v 0) .nil (.k (V.int 63))) .nil)) (.cons (.k (V.int 0)) (.cons (.k (V.int 0)) .nil))))) .nil)
def d__law_pen : DefI := ⟨s__law_pen, .glo s__law_pen, s__law_pen, s__law_pen, top 28, [s__law_script], [s__law_script], b__law_pen, false, false, []⟩
def b__law_names : I := (.cons (.set (.v 2) (.k (V.str (S [97, 98, 99, 100, 101, 102, 103, 104, 105, 106, 107, 108, 109, 110, 111, 112, 113, 114, 115, 116, 117, 118, 119, 120, 121, 122])))) (.cons (.set (.v 3) (.bm .join (.k (V.str (S []))) (.cons (.lc [(s__law_k, 7)] (.call s__law_pick (.cons (.v 0) (.cons (.v 2) .nil))) (.v 7) (.itR1 (.call s__law_draw (.cons (.v 0) (.cons (.k (V.int 8)) .nil)))) false .nil) .nil))) (.cons (.par 4 5 (.cons (.call s__law_draw (.cons (.v 0) (.cons (.k (V.int 26)) .nil))) (.cons (.call s__law_pick (.cons (.v 0) (.cons (.lst (.cons (.k (V.int 1)) (.cons (.k (V.int 3)) (.cons (.k (V.int 5)) (.cons (.k (V.int 7)) (.cons (.k (V.int 9)) (.cons (.k (V.int 11)) .nil))))))) .nil))) .nil))) (.cons (.set (.v 6) (.lst .nil)) (.cons (.for_ (.v 7) (.itR1 (.v 1)) (.cons (.set (.v 8) (.ix (.v 2) (.bop .Mod (.bi .int (.cons (.bop .Add (.v 4) (.bop .Mult (.v 5) (.v 7))) .nil)) (.k (V.int 26))))) (.cons (.expr (.bm .append (.v 6) (.cons (.ite (.cmp .Eq (.call s__law_draw (.cons (.v 0) (.cons (.k (V.int 3)) .nil))) (.k (V.int 0))) (.v 8) (.bop .Add (.v 3) (.v 8))) .nil))) .nil))) (.cons (.ret (.v 6)) .nil))))))
def d__law_names : DefI := ⟨s__law_names, .glo s__law_names, s__law_names, s__law_names, top 31, [s__law_pen_here, s__law_many, s__law_letters, s__law_stem, s__law_first, s__law_hop, s__law_found, s__law_k, s__law_sign], [s__law_pen_here, s__law_many], b__law_names, false, false, []⟩
def b__law_line : I := (.cons (.set (.v 2) (.call s__law_pick (.cons (.v 0) (.cons (.lst (.cons (.k V.non) (.cons (.k V.non) (.cons (.lst (.cons (.call s__law_pick (.cons (.v 0) (.cons (.v 1) .nil))) .nil)) (.cons (.sl (.v 1) .nil (.k (V.int 2))) (.cons (.sl (.v 1) (.k (V.int 1)) (.k (V.int 3))) .nil)))))) .nil)))) (.cons (.set (.v 3) (.call s__law_pick (.cons (.v 0) (.cons (.lst (.cons (.k V.non) (.cons (.k V.non) (.cons (.k V.non) (.cons (.lst (.cons (.call s__law_pick (.cons (.v 0) (.cons (.v 1) .nil))) .nil)) (.cons (.sl (.v 1) (.k (V.int 2)) (.k (V.int 4))) .nil)))))) .nil)))) (.cons (.set (.v 4) (.call s__law_pick (.cons (.v 0) (.cons (.lst (.cons (.k (V.int 0)) (.cons (.k (V.int 0)) (.cons (.k (V.int 256)) (.cons (.k (V.int 320)) (.cons (.k (V.int 448)) (.cons (.k (V.int 73)) (.cons (.k (V.int 292)) (.cons (.k (V.int 128)) (.cons (.k (V.int 7)) (.cons (.call s__law_draw (.cons (.v 0) (.cons (.k (V.int 512)) .nil))) .nil))))))))))) .nil)))) (.cons (.set (.v 5) (.bop .BitAnd (.call s__law_pick (.cons (.v 0) (.cons (.lst (.cons (.k (V.int 0)) (.cons (.k (V.int 0)) (.cons (.k (V.int 7)) (.cons (.k (V.int 18)) (.cons (.k (V.int 73)) (.cons (.k (V.int 511)) (.cons (.k (V.int 64)) (.cons (.k (V.int 146)) (.cons (.call s__law_draw (.cons (.v 0) (.cons (.k (V.int 512)) .nil))) .nil)))))))))) .nil))) (.bop .Sub (.k (V.int 511)) (.v 4)))) (.cons (.ret (.tup (.cons (.call s__law_pick (.cons (.v 0) (.cons (.lst (.cons (.k (V.str (S [102, 105, 108, 101]))) (.cons (.k (V.str (S [102, 111, 108, 100, 101, 114]))) .nil))) .nil))) (.cons (.v 2) (.cons (.v 3) (.cons (.v 4) (.cons (.v 5) .nil))))))) .nil)))))
def d__law_line : DefI := ⟨s__law_line, .glo s__law_line, s__law_line, s__law_line, top 32, [s__law_pen_here, s__law_names_here, s__law_owners, s__law_groups, s__law_must, s__law_never], [s__law_pen_here, s__law_names_here], b__law_line, false, false, []⟩
def b__law_line_made : I := (.cons (.set (.tupG (.cons (.v 1) (.cons (.v 2) (.cons (.v 3) (.cons (.v 4) (.cons (.v 5) .nil)))))) (.v 0)) (.cons (.ret (.mk s_Line (.cons (.v 1) (.cons (.v 2) (.cons (.v 3) (.cons (.v 4) (.cons (.v 5) .nil))))))) .nil))
def d__law_line_made : DefI := ⟨s__law_line_made, .glo s__law_line_made, s__law_line_made, s__law_line_made, top 33, [s__law_told, s__law_form_so, s__law_owners, s__law_groups, s__law_must, s__law_never], [s__law_told], b__law_line_made, false, false, []⟩
def b__law_lets_right : I := (.cons (.set (.v 4) (.bop .LShift (.k (V.int 1)) (.call s__law_draw (.cons (.v 0) (.cons (.k (V.int 9)) .nil))))) (.cons (.set (.v 5) (.lst (.cons (.ix (.v 1) (.k (V.int 3))) (.cons (.bop .BitXor (.ix (.v 1) (.k (V.int 3))) (.v 4)) (.cons (.bop .Sub (.k (V.int 511)) (.ix (.v 1) (.k (V.int 4)))) (.cons (.bop .BitXor (.bop .Sub (.k (V.int 511)) (.ix (.v 1) (.k (V.int 4)))) (.v 4)) (.cons (.call s__law_draw (.cons (.v 0) (.cons (.k (V.int 512)) .nil))) .nil))))))) (.cons (.par 6 7 (.cons (.call s__law_pick (.cons (.v 0) (.cons (.v 5) .nil))) (.cons (.call s__law_pick (.cons (.v 0) (.cons (.lst (.cons (.ix (.v 1) (.k (V.int 0))) (.cons (.ix (.v 1) (.k (V.int 0))) (.cons (.ix (.v 1) (.k (V.int 0))) (.cons (.k (V.str (S [102, 105, 108, 101]))) (.cons (.k (V.str (S [102, 111, 108, 100, 101, 114]))) .nil)))))) .nil))) .nil))) (.cons (.par 8 9 (.cons (.call s__law_pick (.cons (.v 0) (.cons (.v 3) .nil))) (.cons (.call s__law_pick (.cons (.v 0) (.cons (.v 3) .nil))) .nil))) (.cons (.if_ (.cmp .Eq (.call s__law_draw (.cons (.v 0) (.cons (.k (V.int 2)) .nil))) (.k (V.int 0))) (.cons (.set (.v 8) (.ite (.cmp .Is (.ix (.v 1) (.k (V.int 1))) (.k V.non)) (.v 8) (.call s__law_pick (.cons (.v 0) (.cons (.ix (.v 1) (.k (V.int 1))) .nil))))) (.cons (.set (.v 9) (.ite (.cmp .Is (.ix (.v 1) (.k (V.int 2))) (.k V.non)) (.v 9) (.call s__law_pick (.cons (.v 0) (.cons (.ix (.v 1) (.k (V.int 2))) .nil))))) .nil)) .nil) (.cons (.set (.v 10) (.lst (.cons (.meth (.v 2) s_lets (.cons (.v 7) (.cons (.v 6) (.cons (.v 8) (.cons (.v 9) .nil))))) (.cons (.meth (.v 2) s_lets (.cons (.v 7) (.cons (.mk s_Mode (.cons (.v 6) .nil)) (.cons (.v 8) (.cons (.v 9) .nil))))) .nil)))) (.cons (.expr (.bm .append (.v 10) (.cons (.methk (.v 2) s_lets .nil [s_group, s_owner, s_mode, s_form] (.cons (.v 9) (.cons (.v 8) (.cons (.v 6) (.cons (.v 7) .nil))))) .nil))) (.cons (.ret (.cmp .Eq (.rep (.v 10)) (.rep (.bop .Mult (.lst (.cons (.call s__law_lets (.cons (.v 1) (.cons (.v 7) (.cons (.v 6) (.cons (.v 8) (.cons (.v 9) .nil)))))) .nil)) (.k (V.int 3)))))) .nil))))))))
def d__law_lets_right : DefI := ⟨s__law_lets_right, .glo s__law_lets_right, s__law_lets_right, s__law_lets_right, top 36, [s__law_pen_here, s__law_told, s__law_line_here, s__law_names_here, s__law_bit, s__law_some, s__law_number, s__law_sort, s__law_holder, s__law_team, s__law_found], [s__law_pen_here, s__law_told, s__law_line_here, s__law_names_here], b__law_lets_right, false, false, []⟩
def b__law_patterns_right : I := (.cons (.set (.v 4) (.mk s_Mode (.cons (.k (V.int 0)) .nil))) (.cons (.for_ (.v 5) (.itS (.k (V.str (S [114, 119, 120])))) (.cons (.par 6 7 (.cons (.call s__law_patterns (.cons (.v 1) (.cons (.v 5) .nil))) (.cons (.meth (.v 2) s_patterns (.cons (.v 5) .nil)) .nil))) (.cons (.if_ (.cmp .NotEq (.v 7) (.v 6)) (.cons (.ret (.k (V.bl false))) .nil) .nil) (.cons (.expr (.bm .append (.v 7) (.cons (.k (V.int 9)) .nil))) (.cons (.if_ (.cmp .NotEq (.methk (.v 2) s_patterns .nil [s_letter] (.cons (.v 5) .nil)) (.v 6)) (.cons (.ret (.k (V.bl false))) .nil) .nil) (.cons (.set (.v 4) (.meth (.v 4) s_with_pattern (.cons (.v 5) (.cons (.call s__law_pick (.cons (.v 0) (.cons (.v 6) .nil))) .nil)))) .nil)))))) (.cons (.set (.v 8) (.ite (.cmp .Is (.ix (.v 1) (.k (V.int 1))) (.k V.non)) (.ix (.v 3) (.k (V.int 0))) (.ix (.ix (.v 1) (.k (V.int 1))) (.k (V.int 0))))) (.cons (.ret (.xcmp .Is (.meth (.v 2) s_lets (.cons (.ix (.v 1) (.k (V.int 0))) (.cons (.v 4) (.cons (.v 8) (.cons (.ite (.cmp .Is (.ix (.v 1) (.k (V.int 2))) (.k V.non)) (.ix (.v 3) (.k (V.int 3))) (.ix (.ix (.v 1) (.k (V.int 2))) (.k (V.int 0)))) .nil))))) (.k (V.bl true)))) .nil))))
def d__law_patterns_right : DefI := ⟨s__law_patterns_right, .glo s__law_patterns_right, s__law_patterns_right, s__law_patterns_right, top 37, [s__law_pen_here, s__law_told, s__law_line_here, s__law_names_here, s__law_bits, s__law_sign, s__law_due, s__law_found, s__law_holder], [s__law_pen_here, s__law_told, s__law_line_here, s__law_names_here], b__law_patterns_right, false, false, []⟩
def b_Line___init__ : I := (.cons (.if_ (.cmp .NotIn (.v 1) (.g s_FORMS)) (.cons (.raise s_BadKind (.cons (.k (V.int 0)) .nil)) .nil) .nil) (.cons (.for_ (.tupG (.cons (.v 6) (.cons (.v 7) .nil))) (.itT (.tup (.cons (.tup (.cons (.k (V.int 1)) (.cons (.v 2) .nil))) (.cons (.tup (.cons (.k (V.int 2)) (.cons (.v 3) .nil))) .nil)))) (.cons (.if_ (.not (.call s_is_told (.cons (.v 7) .nil))) (.cons (.raise s_BadKind (.cons (.v 6) .nil)) .nil) .nil) .nil)) (.cons (.for_ (.tupG (.cons (.v 6) (.cons (.v 8) .nil))) (.itT (.tup (.cons (.tup (.cons (.k (V.int 3)) (.cons (.v 4) .nil))) (.cons (.tup (.cons (.k (V.int 4)) (.cons (.v 5) .nil))) .nil)))) (.cons (.if_ (.not (.call s_is_mode (.cons (.v 8) .nil))) (.cons (.raise s_BadKind (.cons (.v 6) .nil)) .nil) .nil) .nil)) (.cons (.if_ (.cmp .Gt (.bop .BitAnd (.call s_number_of (.cons (.v 4) .nil)) (.call s_number_of (.cons (.v 5) .nil))) (.k (V.int 0))) (.cons (.raise s_BadKind (.cons (.k (V.int 4)) .nil)) .nil) .nil) (.cons (.set (.attG (.v 0) s_own_form) (.v 1)) (.cons (.set (.attG (.v 0) s_own_owners) (.call s_kept_names (.cons (.v 2) .nil))) (.cons (.set (.attG (.v 0) s_own_groups) (.call s_kept_names (.cons (.v 3) .nil))) (.cons (.set (.attG (.v 0) s_own_must) (.mk s_Mode (.cons (.call s_number_of (.cons (.v 4) .nil)) .nil))) (.cons (.set (.attG (.v 0) s_own_never) (.mk s_Mode (.cons (.call s_number_of (.cons (.v 5) .nil)) .nil))) .nil)))))))))
def d_Line___init__ : DefI := ⟨s_Line___init__, .meth s_Line s___init__, s___init__, s_Line___init__, inClass (top 26) 0, [s_self, s_form, s_owners, s_groups, s_must, s_never_w, s_at, s_names, s_mode], [s_self, s_form, s_owners, s_groups, s_must, s_never_w], b_Line___init__, false, false, [V.non, V.non, (V.int 0), (V.int 0)]⟩
def b_Line_patterns : I := (.cons (.set (.tupG (.cons (.v 2) (.cons (.v 3) .nil))) (.tup (.cons (.meth (.att (.v 0) s_own_must) s_pattern (.cons (.v 1) .nil)) (.cons (.meth (.att (.v 0) s_own_never) s_pattern (.cons (.v 1) .nil)) .nil)))) (.cons (.ret (.lc [(s_pattern, 4)] (.v 4) (.v 4) (.itR1 (.k (V.int 8))) true (.and (.cmp .Eq (.bop .BitAnd (.v 4) (.v 2)) (.v 2)) (.cmp .Eq (.bop .BitAnd (.v 4) (.v 3)) (.k (V.int 0)))))) .nil))
def d_Line_patterns : DefI := ⟨s_Line_patterns, .meth s_Line s_patterns, s_patterns, s_Line_patterns, inClass (top 26) 8, [s_self, s_letter, s_must, s_never_w, s_pattern], [s_self, s_letter], b_Line_patterns, false, false, []⟩
def b__law_draw : I := (.cons (.if_ (.cmp .Gt (.ix (.v 0) (.k (V.int 2))) (.k (V.int 0))) (.cons (.set (.v 2) (.bop .Mod (.bi .int (.cons (.ix (.v 0) (.k (V.int 2))) .nil)) (.v 1))) (.cons (.set (.subG (.v 0) (.k (V.int 2))) (.bop .FloorDiv (.bi .int (.cons (.ix (.v 0) (.k (V.int 2))) .nil)) (.v 1))) (.cons (.ret (.v 2)) .nil))) .nil) (.cons (.set (.v 3) (.ix (.v 0) (.k (V.int 1)))) (.cons (.set (.subG (.v 0) (.k (V.int 1))) (.bop .Add (.v 3) (.k (V.int 1)))) (.cons (.set (.v 4) (.bop .Add (.bop .Mult (.k (V.int 50423)) (.v 3)) (.k (V.int 409)))) (.cons (.if_ (.cmp .NotEq (.ix (.v 0) (.k (V.int 0))) (.lst .nil)) (.cons (.set (.v 4) (.ix (.ix (.v 0) (.k (V.int 0))) (.bop .Mod (.bi .int (.cons (.v 3) .nil)) (.bi .len (.cons (.ix (.v 0) (.k (V.int 0))) .nil))))) .nil) .nil) (.cons (.if_ (.and (.cmp .Lt (.v 3) (.bi .len (.cons (.ix (.v 0) (.k (V.int 0))) .nil))) (.cmp .GtE (.bi .abs (.cons (.v 4) .nil)) (.bop .Pow (.k (V.int 10)) (.k (V.int 18))))) (.cons (.set (.v 5) (.bop .Add (.bop .Mult (.k (V.int 2)) (.bop .Sub (.bi .abs (.cons (.v 4) .nil)) (.bop .Pow (.k (V.int 10)) (.k (V.int 18))))) (.bi .int (.cons (.cmp .Lt (.v 4) (.k (V.int 0))) .nil)))) (.cons (.set (.subG (.v 0) (.k (V.int 2))) (.bop .FloorDiv (.bi .int (.cons (.v 5) .nil)) (.v 1))) (.cons (.ret (.bop .Mod (.bi .int (.cons (.v 5) .nil)) (.v 1))) .nil))) .nil) (.cons (.set (.v 6) (.bop .Mod (.bi .int (.cons (.bop .Pow (.bop .Add (.bop .Add (.bop .Mod (.bi .int (.cons (.v 4) .nil)) (.k (V.int 2147483549))) (.bop .Mult (.k (V.int 60457)) (.v 3))) (.k (V.int 409))) (.k (V.int 5))) .nil)) (.k (V.int 2147483629)))) (.cons (.set (.v 6) (.bop .Mod (.bi .int (.cons (.bop .Pow (.bop .Add (.bop .Add (.bop .Mult (.v 6) (.bop .Add (.bop .Mult (.k (V.int 2)) (.v 3)) (.k (V.int 71)))) (.bop .Mult (.bop .Mult (.k (V.int 70439)) (.v 3)) (.v 3))) (.k (V.int 17))) (.k (V.int 3))) .nil)) (.k (V.int 2147483587)))) (.cons (.ret (.bop .Mod (.bi .int (.cons (.bop .FloorDiv (.v 6) (.k (V.int 32))) .nil)) (.v 1))) .nil)))))))))
def d__law_draw : DefI := ⟨s__law_draw, .glo s__law_draw, s__law_draw, s__law_draw, top 29, [s__law_pen_here, s__law_many, s__law_digit, s__law_at, s__law_cell, s__law_great, s__law_mixed], [s__law_pen_here, s__law_many], b__law_draw, false, false, []⟩
def b__law_pick : I := (.cons (.ret (.ix (.v 1) (.call s__law_draw (.cons (.v 0) (.cons (.bi .len (.cons (.v 1) .nil)) .nil))))) .nil)
def d__law_pick : DefI := ⟨s__law_pick, .glo s__law_pick, s__law_pick, s__law_pick, top 30, [s__law_pen_here, s__law_some], [s__law_pen_here, s__law_some], b__law_pick, false, false, []⟩
def b_Mode___init__ : I := (.cons (.if_ (.not (.call s_is_integer (.cons (.v 1) (.cons (.k (V.int 0)) (.cons (.g s_GREATEST) .nil))))) (.cons (.raise s_BadMode (.cons (.k (V.str (S [110, 117, 109, 98, 101, 114]))) .nil)) .nil) .nil) (.cons (.set (.attG (.v 0) s_bits) (.v 1)) .nil))
def d_Mode___init__ : DefI := ⟨s_Mode___init__, .meth s_Mode s___init__, s___init__, s_Mode___init__, inClass (top 20) 1, [s_self, s_number], [s_self, s_number], b_Mode___init__, false, false, []⟩
def b__law_lets : I := (.cons (.if_ (.or (.cmp .NotEq (.ix (.v 0) (.k (V.int 0))) (.v 1)) (.and (.cmp .IsNot (.ix (.v 0) (.k (V.int 1))) (.k V.non)) (.cmp .NotIn (.v 3) (.ix (.v 0) (.k (V.int 1)))))) (.cons (.ret (.k (V.bl false))) .nil) .nil) (.cons (.if_ (.and (.cmp .IsNot (.ix (.v 0) (.k (V.int 2))) (.k V.non)) (.cmp .NotIn (.v 4) (.ix (.v 0) (.k (V.int 2))))) (.cons (.ret (.k (V.bl false))) .nil) .nil) (.cons (.ret (.and (.cmp .Eq (.bop .BitAnd (.v 2) (.ix (.v 0) (.k (V.int 3)))) (.ix (.v 0) (.k (V.int 3)))) (.cmp .Eq (.bop .BitAnd (.v 2) (.ix (.v 0) (.k (V.int 4)))) (.k (V.int 0))))) .nil)))
def d__law_lets : DefI := ⟨s__law_lets, .glo s__law_lets, s__law_lets, s__law_lets, top 34, [s__law_told, s__law_sort, s__law_number, s__law_holder, s__law_team], [s__law_told, s__law_sort, s__law_number, s__law_holder, s__law_team], b__law_lets, false, false, []⟩
def b_Line_lets : I := (.cons (.set (.v 5) (.call s_number_of (.cons (.v 2) .nil))) (.cons (.if_ (.or (.cmp .NotEq (.v 1) (.att (.v 0) s_own_form)) (.not (.meth (.v 0) s_has_names (.cons (.v 3) (.cons (.v 4) .nil))))) (.cons (.ret (.k (V.bl false))) .nil) .nil) (.cons (.ret (.and (.cmp .Eq (.bop .BitAnd (.v 5) (.att (.att (.v 0) s_own_must) s_number)) (.att (.att (.v 0) s_own_must) s_number)) (.cmp .Eq (.bop .BitAnd (.v 5) (.att (.att (.v 0) s_own_never) s_number)) (.k (V.int 0))))) .nil)))
def d_Line_lets : DefI := ⟨s_Line_lets, .meth s_Line s_lets, s_lets, s_Line_lets, inClass (top 26) 7, [s_self, s_form, s_mode, s_owner, s_group, s_number], [s_self, s_form, s_mode, s_owner, s_group], b_Line_lets, false, false, []⟩
def b__law_patterns : I := (.cons (.set (.v 2) (.ix (.dic (.pair (.k (V.str (S [114]))) (.k (V.int 2)) (.pair (.k (V.str (S [119]))) (.k (V.int 1)) (.pair (.k (V.str (S [120]))) (.k (V.int 0)) .nil)))) (.v 1))) (.cons (.set (.v 3) (.lst .nil)) (.cons (.for_ (.v 4) (.itR1 (.k (V.int 8))) (.cons (.set (.v 5) (.k (V.int 0))) (.cons (.for_ (.v 6) (.itR1 (.k (V.int 3))) (.cons (.set (.v 5) (.bop .BitOr (.v 5) (.bop .LShift (.bop .BitAnd (.bop .RShift (.v 4) (.v 6)) (.k (V.int 1))) (.bop .Add (.bop .Mult (.k (V.int 3)) (.v 6)) (.v 2))))) .nil)) (.cons (.set (.v 7) (.bop .LShift (.k (V.int 73)) (.v 2))) (.cons (.if_ (.and (.cmp .Eq (.bop .BitAnd (.v 5) (.ix (.v 0) (.k (V.int 3)))) (.bop .BitAnd (.ix (.v 0) (.k (V.int 3))) (.v 7))) (.cmp .Eq (.bop .BitAnd (.v 5) (.ix (.v 0) (.k (V.int 4)))) (.k (V.int 0)))) (.cons (.expr (.bm .append (.v 3) (.cons (.v 4) .nil))) .nil) .nil) .nil))))) (.cons (.ret (.v 3)) .nil))))
def d__law_patterns : DefI := ⟨s__law_patterns, .glo s__law_patterns, s__law_patterns, s__law_patterns, top 35, [s__law_told, s__law_letter_so, s__law_place, s__law_found, s__law_pattern, s__law_bits, s__law_at, s__law_mask], [s__law_told, s__law_letter_so], b__law_patterns, false, false, []⟩
def b_Mode_with_pattern : I := (.cons (.set (.v 3) (.call s_place_of (.cons (.v 1) .nil))) (.cons (.if_ (.not (.call s_is_integer (.cons (.v 2) (.cons (.k (V.int 0)) (.cons (.k (V.int 7)) .nil))))) (.cons (.raise s_BadMode (.cons (.k (V.str (S [112, 97, 116, 116, 101, 114, 110]))) .nil)) .nil) .nil) (.cons (.set (.v 4) (.bop .BitAnd (.att (.v 0) s_bits) (.uop .Invert (.call s_pattern_bits (.cons (.v 3) (.cons (.k (V.int 7)) .nil)))))) (.cons (.ret (.mk s_Mode (.cons (.bop .BitOr (.v 4) (.call s_pattern_bits (.cons (.v 3) (.cons (.v 2) .nil)))) .nil))) .nil))))
def d_Mode_with_pattern : DefI := ⟨s_Mode_with_pattern, .meth s_Mode s_with_pattern, s_with_pattern, s_Mode_with_pattern, inClass (top 20) 8, [s_self, s_letter, s_pattern, s_place, s_rest], [s_self, s_letter, s_pattern], b_Mode_with_pattern, false, false, []⟩
def b_is_told : I := (.cons (.if_ (.cmp .Is (.v 0) (.k V.non)) (.cons (.ret (.k (V.bl true))) .nil) .nil) (.cons (.if_ (.or (.not (.isi (.v 0) [(CR.ty "list"), (CR.ty "tuple")] true)) (.not (.cmp2 .LtE .LtE (.k (V.int 1)) (.bi .len (.cons (.v 0) .nil)) (.g s_MOST_NAMES)))) (.cons (.ret (.k (V.bl false))) .nil) .nil) (.cons (.ret (.and (.bi .all (.cons (.lc [(s_name, 1)] (.call s_is_name (.cons (.v 1) .nil)) (.v 1) (.itL (.v 0)) false .nil) .nil)) (.or (.cmp .Eq (.bi .len (.cons (.v 0) .nil)) (.k (V.int 1))) (.cmp .NotEq (.ix (.v 0) (.k (V.int 0))) (.ix (.v 0) (.k (V.int 1))))))) .nil)))
def d_is_told : DefI := ⟨s_is_told, .glo s_is_told, s_is_told, s_is_told, top 24, [s_thing, s_name], [s_thing], b_is_told, false, false, []⟩
def b_is_mode : I := (.cons (.ret (.or (.isi (.v 0) [(CR.own s_Mode)] false) (.call s_is_integer (.cons (.v 0) (.cons (.k (V.int 0)) (.cons (.g s_GREATEST) .nil)))))) .nil)
def d_is_mode : DefI := ⟨s_is_mode, .glo s_is_mode, s_is_mode, s_is_mode, top 16, [s_thing], [s_thing], b_is_mode, false, false, []⟩
def b_number_of : I := (.cons (.if_ (.isi (.v 0) [(CR.own s_Mode)] false) (.cons (.ret (.att (.v 0) s_number)) .nil) .nil) (.cons (.if_ (.not (.call s_is_integer (.cons (.v 0) (.cons (.k (V.int 0)) (.cons (.g s_GREATEST) .nil))))) (.cons (.raise s_BadMode (.cons (.k (V.str (S [110, 117, 109, 98, 101, 114]))) .nil)) .nil) .nil) (.cons (.ret (.v 0)) .nil)))
def d_number_of : DefI := ⟨s_number_of, .glo s_number_of, s_number_of, s_number_of, top 17, [s_thing], [s_thing], b_number_of, false, false, []⟩
def b_kept_names : I := (.cons (.ret (.ite (.cmp .Is (.v 0) (.k V.non)) (.k V.non) (.bi .tuple (.cons (.bi .sorted (.cons (.lc [(s_name, 1)] (.bi .str (.cons (.v 1) .nil)) (.v 1) (.itL (.v 0)) false .nil) .nil)) .nil)))) .nil)
def d_kept_names : DefI := ⟨s_kept_names, .glo s_kept_names, s_kept_names, s_kept_names, top 25, [s_names, s_name], [s_names], b_kept_names, false, false, []⟩
def b_Mode_pattern : I := (.cons (.set (.v 2) (.call s_place_of (.cons (.v 1) .nil))) (.cons (.ret (.bi .sum (.cons (.lc [(s_at, 3)] (.bop .LShift (.bop .BitAnd (.bop .RShift (.att (.v 0) s_bits) (.bop .Add (.bop .Mult (.k (V.int 3)) (.v 3)) (.v 2))) (.k (V.int 1))) (.v 3)) (.v 3) (.itR1 (.k (V.int 3))) false .nil) .nil))) .nil))
def d_Mode_pattern : DefI := ⟨s_Mode_pattern, .meth s_Mode s_pattern, s_pattern, s_Mode_pattern, inClass (top 20) 7, [s_self, s_letter, s_place, s_at], [s_self, s_letter], b_Mode_pattern, false, false, []⟩
def b_is_integer : I := (.cons (.ret (.and (.isi (.v 0) [(CR.ty "int")] false) (.and (.not (.isi (.v 0) [(CR.ty "bool")] false)) (.cmp2 .LtE .LtE (.v 1) (.v 0) (.v 2))))) .nil)
def d_is_integer : DefI := ⟨s_is_integer, .glo s_is_integer, s_is_integer, s_is_integer, top 11, [s_thing, s_low, s_high], [s_thing, s_low, s_high], b_is_integer, false, false, []⟩
def b_Line_has_names : I := (.cons (.if_ (.and (.cmp .IsNot (.att (.v 0) s_own_owners) (.k V.non)) (.cmp .NotIn (.v 1) (.att (.v 0) s_own_owners))) (.cons (.ret (.k (V.bl false))) .nil) .nil) (.cons (.ret (.or (.cmp .Is (.att (.v 0) s_own_groups) (.k V.non)) (.cmp .In (.v 2) (.att (.v 0) s_own_groups)))) .nil))
def d_Line_has_names : DefI := ⟨s_Line_has_names, .meth s_Line s_has_names, s_has_names, s_Line_has_names, inClass (top 26) 6, [s_self, s_owner, s_group], [s_self, s_owner, s_group], b_Line_has_names, false, false, []⟩
def b_Mode_number : I := (.cons (.ret (.att (.v 0) s_bits)) .nil)
def d_Mode_number : DefI := ⟨s_Mode_number, .getr s_Mode s_number, s_number, s_Mode_number, inClass (top 20) 5, [s_self], [s_self], b_Mode_number, false, false, []⟩
def b_place_of : I := (.cons (.if_ (.or (.not (.isi (.v 0) [(CR.ty "str")] false)) (.cmp .NotIn (.v 0) (.g s_PLACES))) (.cons (.raise s_BadMode (.cons (.k (V.str (S [108, 101, 116, 116, 101, 114]))) .nil)) .nil) .nil) (.cons (.ret (.ix (.g s_PLACES) (.v 0))) .nil))
def d_place_of : DefI := ⟨s_place_of, .glo s_place_of, s_place_of, s_place_of, top 18, [s_letter], [s_letter], b_place_of, false, false, []⟩
def b_pattern_bits : I := (.cons (.ret (.bi .sum (.cons (.lc [(s_at, 2)] (.bop .LShift (.bop .BitAnd (.bop .RShift (.v 1) (.v 2)) (.k (V.int 1))) (.bop .Add (.bop .Mult (.k (V.int 3)) (.v 2)) (.v 0))) (.v 2) (.itR1 (.k (V.int 3))) false .nil) .nil))) .nil)
def d_pattern_bits : DefI := ⟨s_pattern_bits, .glo s_pattern_bits, s_pattern_bits, s_pattern_bits, top 19, [s_place, s_pattern, s_at], [s_place, s_pattern], b_pattern_bits, false, false, []⟩
def b_is_name : I := (.cons (.if_ (.or (.not (.isi (.v 0) [(CR.ty "str")] false)) (.not (.cmp2 .LtE .LtE (.k (V.int 1)) (.bi .len (.cons (.v 0) .nil)) (.g s_LONGEST_NAME)))) (.cons (.ret (.k (V.bl false))) .nil) .nil) (.cons (.ret (.bi .all (.cons (.lc [(s_sign, 1)] (.cmp .In (.v 1) (.g s_LETTERS)) (.v 1) (.itS (.v 0)) false .nil) .nil))) .nil))
def d_is_name : DefI := ⟨s_is_name, .glo s_is_name, s_is_name, s_is_name, top 10, [s_thing, s_sign], [s_thing], b_is_name, false, false, []⟩
def er_BadKind : ErrD := ⟨s_BadKind, [s_at], s_self, [s_at], s_BadKind___init__, inClass (top 5) 0⟩
def er_BadMode : ErrD := ⟨s_BadMode, [s_part], s_self, [s_part], s_BadMode___init__, inClass (top 4) 0⟩
def hd : Hd where
  defs := [d_law, d__law_pen, d__law_names, d__law_line, d__law_line_made, d__law_lets_right, d__law_patterns_right, d_Line___init__, d_Line_patterns, d__law_draw, d__law_pick, d_Mode___init__, d__law_lets, d_Line_lets, d__law_patterns, d_Mode_with_pattern, d_is_told, d_is_mode, d_number_of, d_kept_names, d_Mode_pattern, d_is_integer, d_Line_has_names, d_Mode_number, d_place_of, d_pattern_bits, d_is_name]
  frees := [s_range, s_list, s_int, s_repr, s_len, s_abs, s_isinstance, s_tuple, s_all, s_sorted, s_str, s_sum, s_bool]
  globs := [(s_FORMS, .glo s_FORMS), (s_GREATEST, .int 511), (s_MOST_NAMES, .int 2), (s_PLACES, .glo s_PLACES), (s_LONGEST_NAME, .int 8), (s_LETTERS, .str (S [97, 98, 99, 100, 101, 102, 103, 104, 105, 106, 107, 108, 109, 110, 111, 112, 113, 114, 115, 116, 117, 118, 119, 120, 121, 122]))]
  fns := [s_law, s__law_pen, s__law_names, s__law_line, s__law_line_made, s__law_lets_right, s__law_patterns_right, s__law_draw, s__law_pick, s__law_lets, s__law_patterns, s_is_told, s_is_mode, s_number_of, s_kept_names, s_is_integer, s_place_of, s_pattern_bits, s_is_name]
  clss := [s_Mode]
  mks := [s_Line, s_Mode]
  mth := [((s_Line, s___init__), s_Line___init__), ((s_Line, s_has_names), s_Line_has_names), ((s_Line, s_lets), s_Line_lets), ((s_Line, s_patterns), s_Line_patterns), ((s_Mode, s___init__), s_Mode___init__), ((s_Mode, s_pattern), s_Mode_pattern), ((s_Mode, s_with_pattern), s_Mode_with_pattern)]
  prp := [((s_Mode, s_number), s_Mode_number)]
  fld := [(s_Line, s_own_form), (s_Line, s_own_owners), (s_Line, s_own_groups), (s_Line, s_own_must), (s_Line, s_own_never), (s_Mode, s_bits)]
  isi := [((s_Line, CR.ty "list"), false), ((s_Line, CR.ty "tuple"), false), ((s_Line, CR.own s_Mode), false), ((s_Line, CR.ty "int"), false), ((s_Line, CR.ty "bool"), false), ((s_Line, CR.ty "str"), false), ((s_Mode, CR.ty "list"), false), ((s_Mode, CR.ty "tuple"), false), ((s_Mode, CR.own s_Mode), true), ((s_Mode, CR.ty "int"), false), ((s_Mode, CR.ty "bool"), false), ((s_Mode, CR.ty "str"), false)]
  tabs := [(s_PLACES, [(S [114], (V.int 2)), (S [119], (V.int 1)), (S [120], (V.int 0))])]
  tups := [(s_FORMS, [.str (S [102, 105, 108, 101]), .str (S [102, 111, 108, 100, 101, 114])])]
  errs := [er_BadKind, er_BadMode]
  ecls := []
  exm := []
  eis := []
  lfns := []
  smt := []
  cmt := []
  kwo := [((s_Line_lets, 1, [s_group, s_owner, s_mode, s_form]), [0, 4, 3, 2, 1]), ((s_Line_patterns, 1, [s_letter]), [0, 1])]
/-! the judgement of the text -/
theorem stat : hd.stat = true := by decide +kernel
theorem bn_law : d_law.Bnd hd := by
  refine ⟨fun _ us its hl _ => .nil rfl fun _ _ _ _ _ _ => match us, hl with | [_], _ => rfl, fun _ n h1 h2 => absurd h2 (Nat.not_le.mpr h1), (fun h => nomatch (show false = true from h)), fun l ks ord h => ?_⟩
  exact absurd h (by simp [hd, d_law])
theorem bn__law_pen : d__law_pen.Bnd hd := by
  refine ⟨fun _ us its hl _ => .nil rfl fun _ _ _ _ _ _ => match us, hl with | [_], _ => rfl, fun _ n h1 h2 => absurd h2 (Nat.not_le.mpr h1), (fun h => nomatch (show false = true from h)), fun l ks ord h => ?_⟩
  exact absurd h (by simp [hd, d__law_pen])
theorem bn__law_names : d__law_names.Bnd hd := by
  refine ⟨fun _ us its hl _ => .nil rfl fun _ _ _ _ _ _ => match us, hl with | [_, _], _ => rfl, fun _ n h1 h2 => absurd h2 (Nat.not_le.mpr h1), (fun h => nomatch (show false = true from h)), fun l ks ord h => ?_⟩
  exact absurd h (by simp [hd, d__law_names])
theorem bn__law_line : d__law_line.Bnd hd := by
  refine ⟨fun _ us its hl _ => .nil rfl fun _ _ _ _ _ _ => match us, hl with | [_, _], _ => rfl, fun _ n h1 h2 => absurd h2 (Nat.not_le.mpr h1), (fun h => nomatch (show false = true from h)), fun l ks ord h => ?_⟩
  exact absurd h (by simp [hd, d__law_line])
theorem bn__law_line_made : d__law_line_made.Bnd hd := by
  refine ⟨fun _ us its hl _ => .nil rfl fun _ _ _ _ _ _ => match us, hl with | [_], _ => rfl, fun _ n h1 h2 => absurd h2 (Nat.not_le.mpr h1), (fun h => nomatch (show false = true from h)), fun l ks ord h => ?_⟩
  exact absurd h (by simp [hd, d__law_line_made])
theorem bn__law_lets_right : d__law_lets_right.Bnd hd := by
  refine ⟨fun _ us its hl _ => .nil rfl fun _ _ _ _ _ _ => match us, hl with | [_, _, _, _], _ => rfl, fun _ n h1 h2 => absurd h2 (Nat.not_le.mpr h1), (fun h => nomatch (show false = true from h)), fun l ks ord h => ?_⟩
  exact absurd h (by simp [hd, d__law_lets_right])
theorem bn__law_patterns_right : d__law_patterns_right.Bnd hd := by
  refine ⟨fun _ us its hl _ => .nil rfl fun _ _ _ _ _ _ => match us, hl with | [_, _, _, _], _ => rfl, fun _ n h1 h2 => absurd h2 (Nat.not_le.mpr h1), (fun h => nomatch (show false = true from h)), fun l ks ord h => ?_⟩
  exact absurd h (by simp [hd, d__law_patterns_right])
theorem bn_Line___init__ : d_Line___init__.Bnd hd := by
  refine ⟨fun _ us its hl hi => .one (List.cons_ne_nil _ _) fun _ _ _ _ _ _ _ => match us, hl, its, hi with | [_, _, _, _, _, _], _, [_, _, _, _], _ => ⟨_, rfl, rfl⟩, fun _ n h1 h2 us its hl hi => ?_, (fun h => nomatch (show false = true from h)), fun l ks ord h => ?_⟩
  · have h1 : n < 6 := h1
    have h2 : 6 ≤ n + 4 := h2
    have h3 : n = 2 ∨ n = 3 ∨ n = 4 ∨ n = 5 := by omega
    rcases h3 with rfl | rfl | rfl | rfl
    · exact .one (List.cons_ne_nil _ _) fun _ _ _ _ _ _ _ => match us, hl, its, hi with | [_, _], _, [_, _, _, _], _ => ⟨_, rfl, rfl⟩
    · exact .one (List.cons_ne_nil _ _) fun _ _ _ _ _ _ _ => match us, hl, its, hi with | [_, _, _], _, [_, _, _, _], _ => ⟨_, rfl, rfl⟩
    · exact .one (List.cons_ne_nil _ _) fun _ _ _ _ _ _ _ => match us, hl, its, hi with | [_, _, _, _], _, [_, _, _, _], _ => ⟨_, rfl, rfl⟩
    · exact .one (List.cons_ne_nil _ _) fun _ _ _ _ _ _ _ => match us, hl, its, hi with | [_, _, _, _, _], _, [_, _, _, _], _ => ⟨_, rfl, rfl⟩
  exact absurd h (by simp [hd, d_Line___init__])
theorem bn_Line_patterns : d_Line_patterns.Bnd hd := by
  refine ⟨fun _ us its hl _ => .nil rfl fun _ _ _ _ _ _ => match us, hl with | [_, _], _ => rfl, fun _ n h1 h2 => absurd h2 (Nat.not_le.mpr h1), (fun h => nomatch (show false = true from h)), fun l ks ord h => ?_⟩
  simp only [hd, d_Line_patterns, List.mem_cons, List.not_mem_nil, or_false, Prod.mk.injEq] at h
  have key : (l = 1 ∧ ks = [s_letter] ∧ ord = [0, 1]) := by
    revert h; simp +decide <;> (intro a b c; exact ⟨a, b, c⟩)
  obtain ⟨rfl, rfl, rfl⟩ := key
  · exact ⟨⟨rfl, rfl⟩, fun us ws its hl hz hi => match us, hl, ws, hz, its, hi with | [a0], _, [b0], _, [], _ => ⟨[a0, b0], rfl, .nil rfl fun _ _ _ _ _ _ => rfl⟩⟩
theorem bn__law_draw : d__law_draw.Bnd hd := by
  refine ⟨fun _ us its hl _ => .nil rfl fun _ _ _ _ _ _ => match us, hl with | [_, _], _ => rfl, fun _ n h1 h2 => absurd h2 (Nat.not_le.mpr h1), (fun h => nomatch (show false = true from h)), fun l ks ord h => ?_⟩
  exact absurd h (by simp [hd, d__law_draw])
theorem bn__law_pick : d__law_pick.Bnd hd := by
  refine ⟨fun _ us its hl _ => .nil rfl fun _ _ _ _ _ _ => match us, hl with | [_, _], _ => rfl, fun _ n h1 h2 => absurd h2 (Nat.not_le.mpr h1), (fun h => nomatch (show false = true from h)), fun l ks ord h => ?_⟩
  exact absurd h (by simp [hd, d__law_pick])
theorem bn_Mode___init__ : d_Mode___init__.Bnd hd := by
  refine ⟨fun _ us its hl _ => .nil rfl fun _ _ _ _ _ _ => match us, hl with | [_, _], _ => rfl, fun _ n h1 h2 => absurd h2 (Nat.not_le.mpr h1), (fun h => nomatch (show false = true from h)), fun l ks ord h => ?_⟩
  exact absurd h (by simp [hd, d_Mode___init__])
theorem bn__law_lets : d__law_lets.Bnd hd := by
  refine ⟨fun _ us its hl _ => .nil rfl fun _ _ _ _ _ _ => match us, hl with | [_, _, _, _, _], _ => rfl, fun _ n h1 h2 => absurd h2 (Nat.not_le.mpr h1), (fun h => nomatch (show false = true from h)), fun l ks ord h => ?_⟩
  exact absurd h (by simp [hd, d__law_lets])
theorem bn_Line_lets : d_Line_lets.Bnd hd := by
  refine ⟨fun _ us its hl _ => .nil rfl fun _ _ _ _ _ _ => match us, hl with | [_, _, _, _, _], _ => rfl, fun _ n h1 h2 => absurd h2 (Nat.not_le.mpr h1), (fun h => nomatch (show false = true from h)), fun l ks ord h => ?_⟩
  simp only [hd, d_Line_lets, List.mem_cons, List.not_mem_nil, or_false, Prod.mk.injEq] at h
  have key : (l = 1 ∧ ks = [s_group, s_owner, s_mode, s_form] ∧ ord = [0, 4, 3, 2, 1]) := by
    revert h; simp +decide <;> (intro a b c; exact ⟨a, b, c⟩)
  obtain ⟨rfl, rfl, rfl⟩ := key
  · exact ⟨⟨rfl, rfl⟩, fun us ws its hl hz hi => match us, hl, ws, hz, its, hi with | [a0], _, [b0, b1, b2, b3], _, [], _ => ⟨[a0, b3, b2, b1, b0], rfl, .nil rfl fun _ _ _ _ _ _ => rfl⟩⟩
theorem bn__law_patterns : d__law_patterns.Bnd hd := by
  refine ⟨fun _ us its hl _ => .nil rfl fun _ _ _ _ _ _ => match us, hl with | [_, _], _ => rfl, fun _ n h1 h2 => absurd h2 (Nat.not_le.mpr h1), (fun h => nomatch (show false = true from h)), fun l ks ord h => ?_⟩
  exact absurd h (by simp [hd, d__law_patterns])
theorem bn_Mode_with_pattern : d_Mode_with_pattern.Bnd hd := by
  refine ⟨fun _ us its hl _ => .nil rfl fun _ _ _ _ _ _ => match us, hl with | [_, _, _], _ => rfl, fun _ n h1 h2 => absurd h2 (Nat.not_le.mpr h1), (fun h => nomatch (show false = true from h)), fun l ks ord h => ?_⟩
  exact absurd h (by simp [hd, d_Mode_with_pattern])
theorem bn_is_told : d_is_told.Bnd hd := by
  refine ⟨fun _ us its hl _ => .nil rfl fun _ _ _ _ _ _ => match us, hl with | [_], _ => rfl, fun _ n h1 h2 => absurd h2 (Nat.not_le.mpr h1), (fun h => nomatch (show false = true from h)), fun l ks ord h => ?_⟩
  exact absurd h (by simp [hd, d_is_told])
theorem bn_is_mode : d_is_mode.Bnd hd := by
  refine ⟨fun _ us its hl _ => .nil rfl fun _ _ _ _ _ _ => match us, hl with | [_], _ => rfl, fun _ n h1 h2 => absurd h2 (Nat.not_le.mpr h1), (fun h => nomatch (show false = true from h)), fun l ks ord h => ?_⟩
  exact absurd h (by simp [hd, d_is_mode])
theorem bn_number_of : d_number_of.Bnd hd := by
  refine ⟨fun _ us its hl _ => .nil rfl fun _ _ _ _ _ _ => match us, hl with | [_], _ => rfl, fun _ n h1 h2 => absurd h2 (Nat.not_le.mpr h1), (fun h => nomatch (show false = true from h)), fun l ks ord h => ?_⟩
  exact absurd h (by simp [hd, d_number_of])
theorem bn_kept_names : d_kept_names.Bnd hd := by
  refine ⟨fun _ us its hl _ => .nil rfl fun _ _ _ _ _ _ => match us, hl with | [_], _ => rfl, fun _ n h1 h2 => absurd h2 (Nat.not_le.mpr h1), (fun h => nomatch (show false = true from h)), fun l ks ord h => ?_⟩
  exact absurd h (by simp [hd, d_kept_names])
theorem bn_Mode_pattern : d_Mode_pattern.Bnd hd := by
  refine ⟨fun _ us its hl _ => .nil rfl fun _ _ _ _ _ _ => match us, hl with | [_, _], _ => rfl, fun _ n h1 h2 => absurd h2 (Nat.not_le.mpr h1), (fun h => nomatch (show false = true from h)), fun l ks ord h => ?_⟩
  exact absurd h (by simp [hd, d_Mode_pattern])
theorem bn_is_integer : d_is_integer.Bnd hd := by
  refine ⟨fun _ us its hl _ => .nil rfl fun _ _ _ _ _ _ => match us, hl with | [_, _, _], _ => rfl, fun _ n h1 h2 => absurd h2 (Nat.not_le.mpr h1), (fun h => nomatch (show false = true from h)), fun l ks ord h => ?_⟩
  exact absurd h (by simp [hd, d_is_integer])
theorem bn_Line_has_names : d_Line_has_names.Bnd hd := by
  refine ⟨fun _ us its hl _ => .nil rfl fun _ _ _ _ _ _ => match us, hl with | [_, _, _], _ => rfl, fun _ n h1 h2 => absurd h2 (Nat.not_le.mpr h1), (fun h => nomatch (show false = true from h)), fun l ks ord h => ?_⟩
  exact absurd h (by simp [hd, d_Line_has_names])
theorem bn_Mode_number : d_Mode_number.Bnd hd := by
  refine ⟨fun _ us its hl _ => .nil rfl fun _ _ _ _ _ _ => match us, hl with | [_], _ => rfl, fun _ n h1 h2 => absurd h2 (Nat.not_le.mpr h1), (fun h => nomatch (show false = true from h)), fun l ks ord h => ?_⟩
  exact absurd h (by simp [hd, d_Mode_number])
theorem bn_place_of : d_place_of.Bnd hd := by
  refine ⟨fun _ us its hl _ => .nil rfl fun _ _ _ _ _ _ => match us, hl with | [_], _ => rfl, fun _ n h1 h2 => absurd h2 (Nat.not_le.mpr h1), (fun h => nomatch (show false = true from h)), fun l ks ord h => ?_⟩
  exact absurd h (by simp [hd, d_place_of])
theorem bn_pattern_bits : d_pattern_bits.Bnd hd := by
  refine ⟨fun _ us its hl _ => .nil rfl fun _ _ _ _ _ _ => match us, hl with | [_, _], _ => rfl, fun _ n h1 h2 => absurd h2 (Nat.not_le.mpr h1), (fun h => nomatch (show false = true from h)), fun l ks ord h => ?_⟩
  exact absurd h (by simp [hd, d_pattern_bits])
theorem bn_is_name : d_is_name.Bnd hd := by
  refine ⟨fun _ us its hl _ => .nil rfl fun _ _ _ _ _ _ => match us, hl with | [_], _ => rfl, fun _ n h1 h2 => absurd h2 (Nat.not_le.mpr h1), (fun h => nomatch (show false = true from h)), fun l ks ord h => ?_⟩
  exact absurd h (by simp [hd, d_is_name])
theorem be_BadKind : er_BadKind.Bnd := by
  intro _ _ _ _ _ _ _ us x hl
  exact match us, hl with | [_], _ => rfl
theorem be_BadMode : er_BadMode.Bnd := by
  intro _ _ _ _ _ _ _ us x hl
  exact match us, hl with | [_], _ => rfl
theorem bne : ∀ e ∈ hd.errs, e.Bnd := by
  intro e h
  simp only [hd, List.mem_cons, List.not_mem_nil, or_false] at h
  rcases h with rfl | rfl
  · exact be_BadKind
  · exact be_BadMode
theorem bnd : ∀ d ∈ hd.defs, d.Bnd hd := by
  intro d h
  simp only [hd, List.mem_cons, List.not_mem_nil, or_false] at h
  rcases h with rfl | rfl | rfl | rfl | rfl | rfl | rfl | rfl | rfl | rfl | rfl | rfl | rfl | rfl | rfl | rfl | rfl | rfl | rfl | rfl | rfl | rfl | rfl | rfl | rfl | rfl | rfl
  · exact bn_law
  · exact bn__law_pen
  · exact bn__law_names
  · exact bn__law_line
  · exact bn__law_line_made
  · exact bn__law_lets_right
  · exact bn__law_patterns_right
  · exact bn_Line___init__
  · exact bn_Line_patterns
  · exact bn__law_draw
  · exact bn__law_pick
  · exact bn_Mode___init__
  · exact bn__law_lets
  · exact bn_Line_lets
  · exact bn__law_patterns
  · exact bn_Mode_with_pattern
  · exact bn_is_told
  · exact bn_is_mode
  · exact bn_number_of
  · exact bn_kept_names
  · exact bn_Mode_pattern
  · exact bn_is_integer
  · exact bn_Line_has_names
  · exact bn_Mode_number
  · exact bn_place_of
  · exact bn_pattern_bits
  · exact bn_is_name
theorem f_law : hd.pg.find s_law = some d_law := by rfl
theorem f__law_pen : hd.pg.find s__law_pen = some d__law_pen := by rfl
theorem f__law_names : hd.pg.find s__law_names = some d__law_names := by rfl
theorem f__law_line : hd.pg.find s__law_line = some d__law_line := by rfl
theorem f__law_line_made : hd.pg.find s__law_line_made = some d__law_line_made := by rfl
theorem f__law_lets_right : hd.pg.find s__law_lets_right = some d__law_lets_right := by rfl
theorem f__law_patterns_right : hd.pg.find s__law_patterns_right = some d__law_patterns_right := by rfl
theorem f_Line___init__ : hd.pg.find s_Line___init__ = some d_Line___init__ := by rfl
theorem f_Line_patterns : hd.pg.find s_Line_patterns = some d_Line_patterns := by rfl
theorem f__law_draw : hd.pg.find s__law_draw = some d__law_draw := by rfl
theorem f__law_pick : hd.pg.find s__law_pick = some d__law_pick := by rfl
theorem f_Mode___init__ : hd.pg.find s_Mode___init__ = some d_Mode___init__ := by rfl
theorem f__law_lets : hd.pg.find s__law_lets = some d__law_lets := by rfl
theorem f_Line_lets : hd.pg.find s_Line_lets = some d_Line_lets := by rfl
theorem f__law_patterns : hd.pg.find s__law_patterns = some d__law_patterns := by rfl
theorem f_Mode_with_pattern : hd.pg.find s_Mode_with_pattern = some d_Mode_with_pattern := by rfl
theorem f_is_told : hd.pg.find s_is_told = some d_is_told := by rfl
theorem f_is_mode : hd.pg.find s_is_mode = some d_is_mode := by rfl
theorem f_number_of : hd.pg.find s_number_of = some d_number_of := by rfl
theorem f_kept_names : hd.pg.find s_kept_names = some d_kept_names := by rfl
theorem f_Mode_pattern : hd.pg.find s_Mode_pattern = some d_Mode_pattern := by rfl
theorem f_is_integer : hd.pg.find s_is_integer = some d_is_integer := by rfl
theorem f_Line_has_names : hd.pg.find s_Line_has_names = some d_Line_has_names := by rfl
theorem f_Mode_number : hd.pg.find s_Mode_number = some d_Mode_number := by rfl
theorem f_place_of : hd.pg.find s_place_of = some d_place_of := by rfl
theorem f_pattern_bits : hd.pg.find s_pattern_bits = some d_pattern_bits := by rfl
theorem f_is_name : hd.pg.find s_is_name = some d_is_name := by rfl
end U

namespace U
open PySem PySem.Spec PyProof.Rows L2
abbrev R : PySem.W.OpenRow := PySem.W.OpenLaw.row PySem.Challenge.rw_modesdown_k35_lines_let
def loose : List Str := [("__name__" : Str), ("_wall" : Str), ("ModesError" : Str), ("BadInput" : Str), ("BadMode" : Str), ("BadKind" : Str), ("BadText" : Str), ("LETTERS" : Str), ("LONGEST_NAME" : Str), ("is_name" : Str), ("is_integer" : Str), ("GREATEST" : Str), ("SIGNS" : Str), ("PLACES" : Str), ("is_mode" : Str), ("number_of" : Str), ("place_of" : Str), ("pattern_bits" : Str), ("Mode" : Str), ("FORMS" : Str), ("MOST_NAMES" : Str), ("is_told" : Str), ("kept_names" : Str), ("Line" : Str), ("_law_pen" : Str), ("_law_draw" : Str), ("_law_pick" : Str), ("_law_names" : Str), ("_law_line" : Str), ("_law_line_made" : Str), ("_law_lets" : Str), ("_law_patterns" : Str), ("_law_lets_right" : Str), ("_law_patterns_right" : Str)]
abbrev fl : Str := PySem.Challenge.pw_modesdown_k35_lines_let.main.file
theorem runF (w : World) : HandSHeadRun.RunEq R (PySem.W.view R.prog [38]) (hd.hook fl 6) (hd.ob fl 6) 8000 loose (w.withFollow "special-get-raises" false) := by
  intro os
  kernel_rfl
theorem runT (w : World) : HandSHeadRun.RunEq R (PySem.W.view R.prog [38]) (hd.hook fl 6) (hd.ob fl 6) 8000 loose (w.withFollow "special-get-raises" true) := by
  intro os
  kernel_rfl
theorem runQ (w : World) : HandSHeadRun.RunEq R (PySem.W.view R.prog [38]) (hd.hook fl 6) (hd.ob fl 6) 8000 loose w := PySem.W.byRow2 "special-get-raises" runF runT w
end U

namespace U
open PySem PySem.Spec PyProof.Rows L2
variable {K : PySem.W.Frag} {w : World} {n m : Nat} {H : Hp} {Q : VK} {E : XK}
/-- the law's pen: cells, the index of the next one, what is left; m more draws -/
structure PenAt (H : Hp) (p l : Addr) (cs : List Int) (a g : Int) (m : Nat) : Prop where
  here : H p = some (.lst [.ref l, .int a, .int g])
  cells : H l = some (.lst (cs.map V.int))
  a0 : 0 ≤ a
  a1 : a + m ≤ 1000000
  len : cs.length ≤ 63
  g0 : 0 ≤ g
theorem PenAt.ne {p l : Addr} {cs : List Int} {a g : Int} (b : PenAt H p l cs a g m) : l ≠ p := fun e => by
  have h1 := b.here
  have h2 := b.cells
  rw [e] at h2
  rw [h1] at h2
  cases cs <;> cases h2
def PenL (H : Hp) (p l : Addr) (m : Nat) : Prop := ∃ cs a g, PenAt H p l cs a g m
def Pen (H : Hp) (p : Addr) (m : Nat) : Prop := ∃ l, PenL H p l m
theorem PenAt.ext {H' : Hp} {p l : Addr} {cs : List Int} {a g : Int} (b : PenAt H p l cs a g m) (x : Ext H H') : PenAt H' p l cs a g m := { b with here := x.get b.here, cells := x.get b.cells }
theorem Pen.ext {H' : Hp} {p : Addr} (b : Pen H p m) (x : Ext H H') : Pen H' p m := by
  obtain ⟨l, cs, a, g, b⟩ := b
  exact ⟨l, cs, a, g, b.ext x⟩
theorem Pen.extN {H' : Hp} {p : Addr} (b : Pen H p m) (x : LamX.ExtN H H') : Pen H' p m := by
  obtain ⟨l, cs, a, g, b⟩ := b
  exact ⟨l, cs, a, g, { b with here := x _ _ b.here (fun _ h => by cases h), cells := x _ _ b.cells (fun _ h => by cases h) }⟩
theorem Pen.mono {p : Addr} {k : Nat} (b : Pen H p m) (h : k ≤ m) : Pen H p k := by
  obtain ⟨l, cs, a, g, b⟩ := b
  exact ⟨l, cs, a, g, { b with a1 := by have := b.a1; omega }⟩
theorem PenL.pen {p l : Addr} (h : PenL H p l m) : Pen H p m := ⟨l, h⟩
theorem PenL.ext {p l : Addr} {H' : Hp} (h : PenL H p l m) (x : Ext H H') : PenL H' p l m := by
  obtain ⟨cs, a, g, b⟩ := h
  exact ⟨cs, a, g, b.ext x⟩
theorem PenL.put {p l D : Addr} {o : HO} (h : PenL H p l m) (h1 : D ≠ p) (h2 : D ≠ l) : PenL (upd H D o) p l m := by
  obtain ⟨cs, a, g, b⟩ := h
  refine ⟨cs, a, g, { b with here := ?_, cells := ?_ }⟩
  · rw [upd_ne h1.symm]; exact b.here
  · rw [upd_ne h2.symm]; exact b.cells
theorem PenL.ne {p l q : Addr} (h : PenL H p l m) (hq : H q = none) : q ≠ p ∧ q ≠ l := by
  obtain ⟨cs, a, g, b⟩ := h
  refine ⟨fun e => ?_, fun e => ?_⟩
  · rw [e, b.here] at hq; cases hq
  · rw [e, b.cells] at hq; cases hq
theorem PenAt.put {p l : Addr} {cs : List Int} {a g a' g' : Int} {k : Nat} (b : PenAt H p l cs a g m) (h : 0 ≤ a' ∧ a' + k ≤ 1000000 ∧ 0 ≤ g') : PenAt (upd H p (.lst [.ref l, .int a', .int g'])) p l cs a' g' k where
  here := upd_same
  cells := by rw [upd_ne b.ne]; exact b.cells
  a0 := h.1
  a1 := h.2.1
  len := b.len
  g0 := h.2.2
theorem Pen.lst {p : Addr} (b : Pen H p m) : ∃ xs, H p = some (.lst xs) := by
  obtain ⟨l, cs, a, g, b⟩ := b
  exact ⟨_, b.here⟩
theorem tabs_putL {T : List (Addr × Str)} {p : Addr} {H H' : Hp} {xs : List V} (h : H p = some (.lst xs)) (t : LamX.Tabs T H) (x : ExtP p H H') : LamX.Tabs T H' := by
  intro z hz
  obtain ⟨ps, h1, h2, h3⟩ := t z hz
  refine ⟨ps, x _ _ (fun e => ?_) h1, h2, fun pos cv hc => ?_⟩
  · rw [← e, h1] at h
    cases h
  · obtain ⟨c, e1, e2⟩ := h3 pos cv hc
    refine ⟨c, e1, x _ _ (fun e => ?_) e2⟩
    rw [← e, e2] at h
    cases h
theorem Pen.tabs {T : List (Addr × Str)} {H' : Hp} {p : Addr} (b : Pen H p m) (t : LamX.Tabs T H) (x : ExtP p H H') : LamX.Tabs T H' := by
  obtain ⟨xs, h⟩ := b.lst
  exact tabs_putL h t x
section
variable {T : List KTab} {p l : Addr} {cs : List Int} {a g : Int}
theorem pn_0 (b : PenAt H p l cs a g m) (q : Q (.ref l) H) : rIxU K w T (.ref p) (.int 0) H Q := x_ixL (.inl (.inl b.here)) rfl q
theorem pn_1 (b : PenAt H p l cs a g m) (q : Q (.int a) H) : rIxU K w T (.ref p) (.int 1) H Q := x_ixL (.inl (.inl b.here)) rfl q
theorem pn_2 (b : PenAt H p l cs a g m) (q : Q (.int g) H) : rIxU K w T (.ref p) (.int 2) H Q := x_ixL (.inl (.inl b.here)) rfl q
theorem sp_1 {v : Int} {N : Hp → Prop} (b : PenAt H p l cs a g m) (q : N (upd H p (.lst [.ref l, .int v, .int g]))) : rSetU (.ref p) (.int 1) (.int v) H N := .inl ⟨_, b.here, 1, rfl, q⟩
theorem sp_2 {v : Int} {N : Hp → Prop} (b : PenAt H p l cs a g m) (q : N (upd H p (.lst [.ref l, .int a, .int v]))) : rSetU (.ref p) (.int 2) (.int v) H N := .inl ⟨_, b.here, 2, rfl, q⟩
end
theorem atI_map {cs : List Int} {i : Int} (h0 : 0 ≤ i) (h1 : i < cs.length) : ∃ c : Int, atI (cs.map V.int) i = some (.int c) := by
  obtain ⟨j, rfl⟩ : ∃ j : Nat, i = j := ⟨i.toNat, by omega⟩
  exact ⟨_, atI_cell (by omega)⟩
theorem mod_lim {x l : Int} (h : 1 ≤ l) : 0 ≤ x % l ∧ x % l < l := ⟨Int.emod_nonneg _ (by omega), Int.emod_lt_of_pos _ (by omega)⟩
theorem div_lim {x l : Int} (h : 1 ≤ l ∧ l < 2 ^ 300) : CDivU x l := .inr (wide_div (by omega) (show l.natAbs < 2 ^ 300 by omega) (by decide) (by decide))
theorem cut63 {ns : List Int} (h : ns.length ≤ 63) : cutV (ns.map V.int) none (some 63) = ns.map V.int := by
  unfold cutV
  have e : (ns.map V.int).length = ns.length := List.length_map ..
  rw [List.take_of_length_le]
  · rfl
  · rw [List.length_drop, e]
    show ns.length - 0 ≤ HT.sIx ns.length ns.length (some 63) - 0
    simp [HT.sIx]
    omega
theorem cube_ok {r s t a k : Int} (h1 : 0 ≤ r ∧ r < 2147483648) (h2 : 0 ≤ s ∧ s ≤ 4194304) (h3 : 0 ≤ t ∧ t ≤ 137438953472) (h4 : 0 ≤ a ∧ a ≤ 1048576) (h5 : 0 ≤ k ∧ k ≤ 1000) : (r * s + t * a + k).natAbs < 2 ^ 64 := by
  have e1 : r * s ≤ 2147483648 * 4194304 := Int.mul_le_mul (by omega) h2.2 h2.1 (by decide)
  have e2 : t * a ≤ 137438953472 * 1048576 := Int.mul_le_mul h3.2 h4.2 h4.1 (by decide)
  have e3 : 0 ≤ r * s := Int.mul_nonneg h1.1 h2.1
  have e4 : 0 ≤ t * a := Int.mul_nonneg h3.1 h4.1
  generalize r * s = x at e1 e3 ⊢
  generalize t * a = y at e2 e4 ⊢
  omega
theorem md_ok {x k : Int} (h : 1 ≤ k ∧ k ≤ 2147483648) : 0 ≤ x % k ∧ x % k < 2147483648 := by
  have := mod_lim (x := x) h.1
  omega
theorem lay_flat : ∀ {ds : List PyData}, (∀ d ∈ ds, d.canLay0 = true ∧ d.depth = 0) → PyData.canLayAll0 ds = true ∧ PyData.depthAll ds = 0
  | [], _ => ⟨rfl, rfl⟩
  | d :: ds, h => by
    obtain ⟨h1, h2⟩ := h d (List.mem_cons_self ..)
    obtain ⟨h3, h4⟩ := lay_flat fun e he => h e (List.mem_cons_of_mem _ he)
    refine ⟨?_, ?_⟩
    · show (PyData.canLay0 d && PyData.canLayAll0 ds) = true
      rw [h1, h3]
      rfl
    · show max (PyData.depth d) (PyData.depthAll ds) = 0
      rw [h2, h4]
      rfl
theorem shaped_flat {ds : List PyData} (h : ∀ d ∈ ds, d.canLay0 = true ∧ d.depth = 0) : SeqAt.shaped (.list ds) = true ∧ SeqAt.shaped (.tuple ds) = true := by
  obtain ⟨h1, h2⟩ := lay_flat h
  have h3 : (PyData.list ds).depth = 1 := by show PyData.depthAll ds + 1 = 1; rw [h2]
  have h4 : (PyData.tuple ds).depth = 1 := by show PyData.depthAll ds + 1 = 1; rw [h2]
  have h5 : (PyData.list ds).canLay0 = true := h1
  have h6 : (PyData.tuple ds).canLay0 = true := h1
  unfold SeqAt.shaped
  rw [h3, h4, h5, h6]
  exact ⟨rfl, rfl⟩
theorem flat_ints (cs : List Int) : ∀ d ∈ cs.map PyData.int, d.canLay0 = true ∧ d.depth = 0 := fun d hd => by
  obtain ⟨c, _, rfl⟩ := List.mem_map.mp hd
  exact ⟨rfl, rfl⟩
theorem flat_bools (cs : List Bool) : ∀ d ∈ cs.map PyData.bool, d.canLay0 = true ∧ d.depth = 0 := fun d hd => by
  obtain ⟨c, _, rfl⟩ := List.mem_map.mp hd
  exact ⟨rfl, rfl⟩
theorem shaped_ints (cs : List Int) : SeqAt.shaped (.list (cs.map .int)) = true := (shaped_flat (flat_ints cs)).1
theorem c_pen {a : Addr} {ns : List Int} (ha : SqL K H a (ns.map V.int)) (hl : ns.length ≤ 63) (hn : 1 ≤ n) (h : ∀ p H', H p = none → Ext H H' → Pen H' p 1000000 → Q (.ref p) H') : run hd.pg K w n s__law_pen [.ref a] H Q E := by
  refine run_at f__law_pen hn rfl ?_
  simp only [d__law_pen, b__law_pen, L2.start, e_k, e_v, e_g, e_bop, e_uop, e_not, e_and, e_or, e_ite, e_cmp, e_cmp2, e_lst, e_tup, e_dic, e_call, e_mk, e_bi, e_isi, e_meth, e_bm, e_icall, e_ostr, e_att, e_ix, e_sl, e_lc, e_isiM, e_methk, e_smeth, e_cmeth, e_mkv, e_mkk, kw_nil, e_oeq, e_eatt, e_eisi, e_one, e_rep, e_fmt, e_callk, e_xcmp, e_obin, e_oinv, e_oin, e_olen, e_obool, e_cat, e_fo3, e_rev, e_rgl, e_oeqs, t_v, t_isi, t_call, t_meth, t_bop, t_bi, t_att, t_not, t_and, t_or, t_cmp, t_cmp2, trQ_bl, blQ_bl, t_methk, t_smeth, t_oeq, t_eisi, t_ix, t_icall, t_one, t_callk, t_oin, t_obin, t_xcmp, t_oeqs, a_nil', a_cons, s_nil, s_cons, s_set, s_setLc, s_par, s_expr, s_ret, s_retN, s_if, s_for, s_never, s_pass, s_brk, s_cont, s_par3, s_oaug, s_raise, g_v', g_tup, g_sub, g_att, gs_nil, gs_cons, gs_tup, g_unl, i_L, i_T, i_S, i_R1, i_ES, i_E, i_Z, p_nil, p_pair, o_nil, o_k, o_v, o_bop, o_uop, o_bi, o_ix, oQ_int, o_att, o_call, i_ET, i_R2, x_K, x_w, x_fn, x_gv, x_tabs, x_mth, x_prp, x_fld, x_isi, x_kwo, x_dfl, x_xf, x_exm, x_eis, x_lt, x_lfn, x_smt, x_cmt, x_cvl, y_cvl, x_opr, y_opr, y_cmt, y_K, y_w, y_fn, y_gv, y_tabs, y_mth, y_prp, y_fld, y_isi, y_kwo, y_dfl, y_xf, y_exm, y_eis, y_smt, isi_int, isi_str, isi_bl, isi_non, ii1, ii2, ii3, ii4, ii5, ii6, ii7, it1, it2, it3, it4, it5, it6, it7, it8, it9, it10, it11, it12, it13, r_add, r_sub, r_mul, r_div, r_mod, r_pow, r_shl, r_shr, r_and, r_or, r_xor, r_neg, r_inv, r_lt, r_le, r_gt, r_ge, r_eqI, r_neI, r_eqS, r_neS, r_inS, r_niS, b_int, b_intB, b_abs, b_lenS, b_strS, r_addS, r_isN, r_eqB, r_neB, List.getElem?_cons_zero, List.getElem?_cons_succ, List.set_cons_zero, List.set_cons_succ, List.map_cons, List.map_nil, List.length_cons, List.length_nil, Nat.reduceAdd, Nat.reduceSub, List.replicate_succ, List.replicate_zero, List.cons_append, List.nil_append, List.append_nil, Bool.not_true, Bool.not_false, if_true, if_false, ite_true, ite_false, Bool.false_eq_true, Bool.true_eq_false, reduceIte]
  refine x_slL ha fun l hl0 => ?_
  rw [cut63 hl]
  refine ⟨_, .inl (.inl (.inl upd_same)), fun l2 hl2 => ?_⟩
  simp only [e_k, e_v, e_g, e_bop, e_uop, e_not, e_and, e_or, e_ite, e_cmp, e_cmp2, e_lst, e_tup, e_dic, e_call, e_mk, e_bi, e_isi, e_meth, e_bm, e_icall, e_ostr, e_att, e_ix, e_sl, e_lc, e_isiM, e_methk, e_smeth, e_cmeth, e_mkv, e_mkk, kw_nil, e_oeq, e_eatt, e_eisi, e_one, e_rep, e_fmt, e_callk, e_xcmp, e_obin, e_oinv, e_oin, e_olen, e_obool, e_cat, e_fo3, e_rev, e_rgl, e_oeqs, t_v, t_isi, t_call, t_meth, t_bop, t_bi, t_att, t_not, t_and, t_or, t_cmp, t_cmp2, trQ_bl, blQ_bl, t_methk, t_smeth, t_oeq, t_eisi, t_ix, t_icall, t_one, t_callk, t_oin, t_obin, t_xcmp, t_oeqs, a_nil', a_cons, s_nil, s_cons, s_set, s_setLc, s_par, s_expr, s_ret, s_retN, s_if, s_for, s_never, s_pass, s_brk, s_cont, s_par3, s_oaug, s_raise, g_v', g_tup, g_sub, g_att, gs_nil, gs_cons, gs_tup, g_unl, i_L, i_T, i_S, i_R1, i_ES, i_E, i_Z, p_nil, p_pair, o_nil, o_k, o_v, o_bop, o_uop, o_bi, o_ix, oQ_int, o_att, o_call, i_ET, i_R2, x_K, x_w, x_fn, x_gv, x_tabs, x_mth, x_prp, x_fld, x_isi, x_kwo, x_dfl, x_xf, x_exm, x_eis, x_lt, x_lfn, x_smt, x_cmt, x_cvl, y_cvl, x_opr, y_opr, y_cmt, y_K, y_w, y_fn, y_gv, y_tabs, y_mth, y_prp, y_fld, y_isi, y_kwo, y_dfl, y_xf, y_exm, y_eis, y_smt, isi_int, isi_str, isi_bl, isi_non, ii1, ii2, ii3, ii4, ii5, ii6, ii7, it1, it2, it3, it4, it5, it6, it7, it8, it9, it10, it11, it12, it13, r_add, r_sub, r_mul, r_div, r_mod, r_pow, r_shl, r_shr, r_and, r_or, r_xor, r_neg, r_inv, r_lt, r_le, r_gt, r_ge, r_eqI, r_neI, r_eqS, r_neS, r_inS, r_niS, b_int, b_intB, b_abs, b_lenS, b_strS, r_addS, r_isN, r_eqB, r_neB, List.getElem?_cons_zero, List.getElem?_cons_succ, List.set_cons_zero, List.set_cons_succ, List.map_cons, List.map_nil, List.length_cons, List.length_nil, Nat.reduceAdd, Nat.reduceSub, List.replicate_succ, List.replicate_zero, List.cons_append, List.nil_append, List.append_nil, Bool.not_true, Bool.not_false, if_true, if_false, ite_true, ite_false, Bool.false_eq_true, Bool.true_eq_false, reduceIte]
  refine ⟨by decide, fun p hp => ?_⟩
  have hp2 : l2 ≠ p := fun e => by
    rw [e, upd_same] at hp
    cases hp
  have x : Ext H (upd (upd H l (.lst (ns.map V.int))) l2 (.lst (ns.map V.int))) := (Ext.new hl0).trans (Ext.new hl2)
  have hpH := none_of x hp
  refine h p _ hpH (x.upd_of hp) ⟨l2, ns, 0, 0, upd_same, ?_, by decide, by decide, hl, by decide⟩
  rw [upd_ne hp2, upd_same]
theorem c_drawL {p l : Addr} {lim : Int} (hP : PenL H p l (m + 1)) (hn : 1 ≤ n) (hl : 1 ≤ lim ∧ lim < 2 ^ 300) (h : ∀ i H', 0 ≤ i → i < lim → PenL H' p l m → ExtP p H H' → Q (.int i) H') : run hd.pg K w n s__law_draw [.ref p, .int lim] H Q E := by
  refine run_at f__law_draw hn rfl ?_
  obtain ⟨cs, a, g, b⟩ := hP
  have A0 := b.a0
  have A1 := b.a1
  have A2 := b.g0
  have A3 := b.len
  simp only [d__law_draw, b__law_draw, L2.start, e_k, e_v, e_g, e_bop, e_uop, e_not, e_and, e_or, e_ite, e_cmp, e_cmp2, e_lst, e_tup, e_dic, e_call, e_mk, e_bi, e_isi, e_meth, e_bm, e_icall, e_ostr, e_att, e_ix, e_sl, e_lc, e_isiM, e_methk, e_smeth, e_cmeth, e_mkv, e_mkk, kw_nil, e_oeq, e_eatt, e_eisi, e_one, e_rep, e_fmt, e_callk, e_xcmp, e_obin, e_oinv, e_oin, e_olen, e_obool, e_cat, e_fo3, e_rev, e_rgl, e_oeqs, t_v, t_isi, t_call, t_meth, t_bop, t_bi, t_att, t_not, t_and, t_or, t_cmp, t_cmp2, trQ_bl, blQ_bl, t_methk, t_smeth, t_oeq, t_eisi, t_ix, t_icall, t_one, t_callk, t_oin, t_obin, t_xcmp, t_oeqs, a_nil', a_cons, s_nil, s_cons, s_set, s_setLc, s_par, s_expr, s_ret, s_retN, s_if, s_for, s_never, s_pass, s_brk, s_cont, s_par3, s_oaug, s_raise, g_v', g_tup, g_sub, g_att, gs_nil, gs_cons, gs_tup, g_unl, i_L, i_T, i_S, i_R1, i_ES, i_E, i_Z, p_nil, p_pair, o_nil, o_k, o_v, o_bop, o_uop, o_bi, o_ix, oQ_int, o_att, o_call, i_ET, i_R2, x_K, x_w, x_fn, x_gv, x_tabs, x_mth, x_prp, x_fld, x_isi, x_kwo, x_dfl, x_xf, x_exm, x_eis, x_lt, x_lfn, x_smt, x_cmt, x_cvl, y_cvl, x_opr, y_opr, y_cmt, y_K, y_w, y_fn, y_gv, y_tabs, y_mth, y_prp, y_fld, y_isi, y_kwo, y_dfl, y_xf, y_exm, y_eis, y_smt, isi_int, isi_str, isi_bl, isi_non, ii1, ii2, ii3, ii4, ii5, ii6, ii7, it1, it2, it3, it4, it5, it6, it7, it8, it9, it10, it11, it12, it13, r_add, r_sub, r_mul, r_div, r_mod, r_pow, r_shl, r_shr, r_and, r_or, r_xor, r_neg, r_inv, r_lt, r_le, r_gt, r_ge, r_eqI, r_neI, r_eqS, r_neS, r_inS, r_niS, b_int, b_intB, b_abs, b_lenS, b_strS, r_addS, r_isN, r_eqB, r_neB, List.getElem?_cons_zero, List.getElem?_cons_succ, List.set_cons_zero, List.set_cons_succ, List.map_cons, List.map_nil, List.length_cons, List.length_nil, Nat.reduceAdd, Nat.reduceSub, List.replicate_succ, List.replicate_zero, List.cons_append, List.nil_append, List.append_nil, Bool.not_true, Bool.not_false, if_true, if_false, ite_true, ite_false, Bool.false_eq_true, Bool.true_eq_false, reduceIte]
  refine pn_2 b ?_
  simp only [e_k, e_v, e_g, e_bop, e_uop, e_not, e_and, e_or, e_ite, e_cmp, e_cmp2, e_lst, e_tup, e_dic, e_call, e_mk, e_bi, e_isi, e_meth, e_bm, e_icall, e_ostr, e_att, e_ix, e_sl, e_lc, e_isiM, e_methk, e_smeth, e_cmeth, e_mkv, e_mkk, kw_nil, e_oeq, e_eatt, e_eisi, e_one, e_rep, e_fmt, e_callk, e_xcmp, e_obin, e_oinv, e_oin, e_olen, e_obool, e_cat, e_fo3, e_rev, e_rgl, e_oeqs, t_v, t_isi, t_call, t_meth, t_bop, t_bi, t_att, t_not, t_and, t_or, t_cmp, t_cmp2, trQ_bl, blQ_bl, t_methk, t_smeth, t_oeq, t_eisi, t_ix, t_icall, t_one, t_callk, t_oin, t_obin, t_xcmp, t_oeqs, a_nil', a_cons, s_nil, s_cons, s_set, s_setLc, s_par, s_expr, s_ret, s_retN, s_if, s_for, s_never, s_pass, s_brk, s_cont, s_par3, s_oaug, s_raise, g_v', g_tup, g_sub, g_att, gs_nil, gs_cons, gs_tup, g_unl, i_L, i_T, i_S, i_R1, i_ES, i_E, i_Z, p_nil, p_pair, o_nil, o_k, o_v, o_bop, o_uop, o_bi, o_ix, oQ_int, o_att, o_call, i_ET, i_R2, x_K, x_w, x_fn, x_gv, x_tabs, x_mth, x_prp, x_fld, x_isi, x_kwo, x_dfl, x_xf, x_exm, x_eis, x_lt, x_lfn, x_smt, x_cmt, x_cvl, y_cvl, x_opr, y_opr, y_cmt, y_K, y_w, y_fn, y_gv, y_tabs, y_mth, y_prp, y_fld, y_isi, y_kwo, y_dfl, y_xf, y_exm, y_eis, y_smt, isi_int, isi_str, isi_bl, isi_non, ii1, ii2, ii3, ii4, ii5, ii6, ii7, it1, it2, it3, it4, it5, it6, it7, it8, it9, it10, it11, it12, it13, r_add, r_sub, r_mul, r_div, r_mod, r_pow, r_shl, r_shr, r_and, r_or, r_xor, r_neg, r_inv, r_lt, r_le, r_gt, r_ge, r_eqI, r_neI, r_eqS, r_neS, r_inS, r_niS, b_int, b_intB, b_abs, b_lenS, b_strS, r_addS, r_isN, r_eqB, r_neB, List.getElem?_cons_zero, List.getElem?_cons_succ, List.set_cons_zero, List.set_cons_succ, List.map_cons, List.map_nil, List.length_cons, List.length_nil, Nat.reduceAdd, Nat.reduceSub, List.replicate_succ, List.replicate_zero, List.cons_append, List.nil_append, List.append_nil, Bool.not_true, Bool.not_false, if_true, if_false, ite_true, ite_false, Bool.false_eq_true, Bool.true_eq_false, reduceIte]
  by_cases hg : 0 < g
  · simp only [hg, decide_true, e_k, e_v, e_g, e_bop, e_uop, e_not, e_and, e_or, e_ite, e_cmp, e_cmp2, e_lst, e_tup, e_dic, e_call, e_mk, e_bi, e_isi, e_meth, e_bm, e_icall, e_ostr, e_att, e_ix, e_sl, e_lc, e_isiM, e_methk, e_smeth, e_cmeth, e_mkv, e_mkk, kw_nil, e_oeq, e_eatt, e_eisi, e_one, e_rep, e_fmt, e_callk, e_xcmp, e_obin, e_oinv, e_oin, e_olen, e_obool, e_cat, e_fo3, e_rev, e_rgl, e_oeqs, t_v, t_isi, t_call, t_meth, t_bop, t_bi, t_att, t_not, t_and, t_or, t_cmp, t_cmp2, trQ_bl, blQ_bl, t_methk, t_smeth, t_oeq, t_eisi, t_ix, t_icall, t_one, t_callk, t_oin, t_obin, t_xcmp, t_oeqs, a_nil', a_cons, s_nil, s_cons, s_set, s_setLc, s_par, s_expr, s_ret, s_retN, s_if, s_for, s_never, s_pass, s_brk, s_cont, s_par3, s_oaug, s_raise, g_v', g_tup, g_sub, g_att, gs_nil, gs_cons, gs_tup, g_unl, i_L, i_T, i_S, i_R1, i_ES, i_E, i_Z, p_nil, p_pair, o_nil, o_k, o_v, o_bop, o_uop, o_bi, o_ix, oQ_int, o_att, o_call, i_ET, i_R2, x_K, x_w, x_fn, x_gv, x_tabs, x_mth, x_prp, x_fld, x_isi, x_kwo, x_dfl, x_xf, x_exm, x_eis, x_lt, x_lfn, x_smt, x_cmt, x_cvl, y_cvl, x_opr, y_opr, y_cmt, y_K, y_w, y_fn, y_gv, y_tabs, y_mth, y_prp, y_fld, y_isi, y_kwo, y_dfl, y_xf, y_exm, y_eis, y_smt, isi_int, isi_str, isi_bl, isi_non, ii1, ii2, ii3, ii4, ii5, ii6, ii7, it1, it2, it3, it4, it5, it6, it7, it8, it9, it10, it11, it12, it13, r_add, r_sub, r_mul, r_div, r_mod, r_pow, r_shl, r_shr, r_and, r_or, r_xor, r_neg, r_inv, r_lt, r_le, r_gt, r_ge, r_eqI, r_neI, r_eqS, r_neS, r_inS, r_niS, b_int, b_intB, b_abs, b_lenS, b_strS, r_addS, r_isN, r_eqB, r_neB, List.getElem?_cons_zero, List.getElem?_cons_succ, List.set_cons_zero, List.set_cons_succ, List.map_cons, List.map_nil, List.length_cons, List.length_nil, Nat.reduceAdd, Nat.reduceSub, List.replicate_succ, List.replicate_zero, List.cons_append, List.nil_append, List.append_nil, Bool.not_true, Bool.not_false, if_true, if_false, ite_true, ite_false, Bool.false_eq_true, Bool.true_eq_false, reduceIte]
    refine pn_2 b ?_
    simp only [e_k, e_v, e_g, e_bop, e_uop, e_not, e_and, e_or, e_ite, e_cmp, e_cmp2, e_lst, e_tup, e_dic, e_call, e_mk, e_bi, e_isi, e_meth, e_bm, e_icall, e_ostr, e_att, e_ix, e_sl, e_lc, e_isiM, e_methk, e_smeth, e_cmeth, e_mkv, e_mkk, kw_nil, e_oeq, e_eatt, e_eisi, e_one, e_rep, e_fmt, e_callk, e_xcmp, e_obin, e_oinv, e_oin, e_olen, e_obool, e_cat, e_fo3, e_rev, e_rgl, e_oeqs, t_v, t_isi, t_call, t_meth, t_bop, t_bi, t_att, t_not, t_and, t_or, t_cmp, t_cmp2, trQ_bl, blQ_bl, t_methk, t_smeth, t_oeq, t_eisi, t_ix, t_icall, t_one, t_callk, t_oin, t_obin, t_xcmp, t_oeqs, a_nil', a_cons, s_nil, s_cons, s_set, s_setLc, s_par, s_expr, s_ret, s_retN, s_if, s_for, s_never, s_pass, s_brk, s_cont, s_par3, s_oaug, s_raise, g_v', g_tup, g_sub, g_att, gs_nil, gs_cons, gs_tup, g_unl, i_L, i_T, i_S, i_R1, i_ES, i_E, i_Z, p_nil, p_pair, o_nil, o_k, o_v, o_bop, o_uop, o_bi, o_ix, oQ_int, o_att, o_call, i_ET, i_R2, x_K, x_w, x_fn, x_gv, x_tabs, x_mth, x_prp, x_fld, x_isi, x_kwo, x_dfl, x_xf, x_exm, x_eis, x_lt, x_lfn, x_smt, x_cmt, x_cvl, y_cvl, x_opr, y_opr, y_cmt, y_K, y_w, y_fn, y_gv, y_tabs, y_mth, y_prp, y_fld, y_isi, y_kwo, y_dfl, y_xf, y_exm, y_eis, y_smt, isi_int, isi_str, isi_bl, isi_non, ii1, ii2, ii3, ii4, ii5, ii6, ii7, it1, it2, it3, it4, it5, it6, it7, it8, it9, it10, it11, it12, it13, r_add, r_sub, r_mul, r_div, r_mod, r_pow, r_shl, r_shr, r_and, r_or, r_xor, r_neg, r_inv, r_lt, r_le, r_gt, r_ge, r_eqI, r_neI, r_eqS, r_neS, r_inS, r_niS, b_int, b_intB, b_abs, b_lenS, b_strS, r_addS, r_isN, r_eqB, r_neB, List.getElem?_cons_zero, List.getElem?_cons_succ, List.set_cons_zero, List.set_cons_succ, List.map_cons, List.map_nil, List.length_cons, List.length_nil, Nat.reduceAdd, Nat.reduceSub, List.replicate_succ, List.replicate_zero, List.cons_append, List.nil_append, List.append_nil, Bool.not_true, Bool.not_false, if_true, if_false, ite_true, ite_false, Bool.false_eq_true, Bool.true_eq_false, reduceIte]
    refine ⟨by omega, ?_⟩
    refine pn_2 b ?_
    simp only [e_k, e_v, e_g, e_bop, e_uop, e_not, e_and, e_or, e_ite, e_cmp, e_cmp2, e_lst, e_tup, e_dic, e_call, e_mk, e_bi, e_isi, e_meth, e_bm, e_icall, e_ostr, e_att, e_ix, e_sl, e_lc, e_isiM, e_methk, e_smeth, e_cmeth, e_mkv, e_mkk, kw_nil, e_oeq, e_eatt, e_eisi, e_one, e_rep, e_fmt, e_callk, e_xcmp, e_obin, e_oinv, e_oin, e_olen, e_obool, e_cat, e_fo3, e_rev, e_rgl, e_oeqs, t_v, t_isi, t_call, t_meth, t_bop, t_bi, t_att, t_not, t_and, t_or, t_cmp, t_cmp2, trQ_bl, blQ_bl, t_methk, t_smeth, t_oeq, t_eisi, t_ix, t_icall, t_one, t_callk, t_oin, t_obin, t_xcmp, t_oeqs, a_nil', a_cons, s_nil, s_cons, s_set, s_setLc, s_par, s_expr, s_ret, s_retN, s_if, s_for, s_never, s_pass, s_brk, s_cont, s_par3, s_oaug, s_raise, g_v', g_tup, g_sub, g_att, gs_nil, gs_cons, gs_tup, g_unl, i_L, i_T, i_S, i_R1, i_ES, i_E, i_Z, p_nil, p_pair, o_nil, o_k, o_v, o_bop, o_uop, o_bi, o_ix, oQ_int, o_att, o_call, i_ET, i_R2, x_K, x_w, x_fn, x_gv, x_tabs, x_mth, x_prp, x_fld, x_isi, x_kwo, x_dfl, x_xf, x_exm, x_eis, x_lt, x_lfn, x_smt, x_cmt, x_cvl, y_cvl, x_opr, y_opr, y_cmt, y_K, y_w, y_fn, y_gv, y_tabs, y_mth, y_prp, y_fld, y_isi, y_kwo, y_dfl, y_xf, y_exm, y_eis, y_smt, isi_int, isi_str, isi_bl, isi_non, ii1, ii2, ii3, ii4, ii5, ii6, ii7, it1, it2, it3, it4, it5, it6, it7, it8, it9, it10, it11, it12, it13, r_add, r_sub, r_mul, r_div, r_mod, r_pow, r_shl, r_shr, r_and, r_or, r_xor, r_neg, r_inv, r_lt, r_le, r_gt, r_ge, r_eqI, r_neI, r_eqS, r_neS, r_inS, r_niS, b_int, b_intB, b_abs, b_lenS, b_strS, r_addS, r_isN, r_eqB, r_neB, List.getElem?_cons_zero, List.getElem?_cons_succ, List.set_cons_zero, List.set_cons_succ, List.map_cons, List.map_nil, List.length_cons, List.length_nil, Nat.reduceAdd, Nat.reduceSub, List.replicate_succ, List.replicate_zero, List.cons_append, List.nil_append, List.append_nil, Bool.not_true, Bool.not_false, if_true, if_false, ite_true, ite_false, Bool.false_eq_true, Bool.true_eq_false, reduceIte]
    refine ⟨div_lim hl, ?_⟩
    refine sp_2 b ?_
    have hm := mod_lim (x := g) (l := lim) hl.1
    exact h _ _ hm.1 hm.2 ⟨_, _, _, b.put ⟨A0, by omega, Int.ediv_nonneg A2 (by omega)⟩⟩ ExtP.put
  simp only [hg, decide_false, e_k, e_v, e_g, e_bop, e_uop, e_not, e_and, e_or, e_ite, e_cmp, e_cmp2, e_lst, e_tup, e_dic, e_call, e_mk, e_bi, e_isi, e_meth, e_bm, e_icall, e_ostr, e_att, e_ix, e_sl, e_lc, e_isiM, e_methk, e_smeth, e_cmeth, e_mkv, e_mkk, kw_nil, e_oeq, e_eatt, e_eisi, e_one, e_rep, e_fmt, e_callk, e_xcmp, e_obin, e_oinv, e_oin, e_olen, e_obool, e_cat, e_fo3, e_rev, e_rgl, e_oeqs, t_v, t_isi, t_call, t_meth, t_bop, t_bi, t_att, t_not, t_and, t_or, t_cmp, t_cmp2, trQ_bl, blQ_bl, t_methk, t_smeth, t_oeq, t_eisi, t_ix, t_icall, t_one, t_callk, t_oin, t_obin, t_xcmp, t_oeqs, a_nil', a_cons, s_nil, s_cons, s_set, s_setLc, s_par, s_expr, s_ret, s_retN, s_if, s_for, s_never, s_pass, s_brk, s_cont, s_par3, s_oaug, s_raise, g_v', g_tup, g_sub, g_att, gs_nil, gs_cons, gs_tup, g_unl, i_L, i_T, i_S, i_R1, i_ES, i_E, i_Z, p_nil, p_pair, o_nil, o_k, o_v, o_bop, o_uop, o_bi, o_ix, oQ_int, o_att, o_call, i_ET, i_R2, x_K, x_w, x_fn, x_gv, x_tabs, x_mth, x_prp, x_fld, x_isi, x_kwo, x_dfl, x_xf, x_exm, x_eis, x_lt, x_lfn, x_smt, x_cmt, x_cvl, y_cvl, x_opr, y_opr, y_cmt, y_K, y_w, y_fn, y_gv, y_tabs, y_mth, y_prp, y_fld, y_isi, y_kwo, y_dfl, y_xf, y_exm, y_eis, y_smt, isi_int, isi_str, isi_bl, isi_non, ii1, ii2, ii3, ii4, ii5, ii6, ii7, it1, it2, it3, it4, it5, it6, it7, it8, it9, it10, it11, it12, it13, r_add, r_sub, r_mul, r_div, r_mod, r_pow, r_shl, r_shr, r_and, r_or, r_xor, r_neg, r_inv, r_lt, r_le, r_gt, r_ge, r_eqI, r_neI, r_eqS, r_neS, r_inS, r_niS, b_int, b_intB, b_abs, b_lenS, b_strS, r_addS, r_isN, r_eqB, r_neB, List.getElem?_cons_zero, List.getElem?_cons_succ, List.set_cons_zero, List.set_cons_succ, List.map_cons, List.map_nil, List.length_cons, List.length_nil, Nat.reduceAdd, Nat.reduceSub, List.replicate_succ, List.replicate_zero, List.cons_append, List.nil_append, List.append_nil, Bool.not_true, Bool.not_false, if_true, if_false, ite_true, ite_false, Bool.false_eq_true, Bool.true_eq_false, reduceIte]
  refine pn_1 b ?_
  simp only [e_k, e_v, e_g, e_bop, e_uop, e_not, e_and, e_or, e_ite, e_cmp, e_cmp2, e_lst, e_tup, e_dic, e_call, e_mk, e_bi, e_isi, e_meth, e_bm, e_icall, e_ostr, e_att, e_ix, e_sl, e_lc, e_isiM, e_methk, e_smeth, e_cmeth, e_mkv, e_mkk, kw_nil, e_oeq, e_eatt, e_eisi, e_one, e_rep, e_fmt, e_callk, e_xcmp, e_obin, e_oinv, e_oin, e_olen, e_obool, e_cat, e_fo3, e_rev, e_rgl, e_oeqs, t_v, t_isi, t_call, t_meth, t_bop, t_bi, t_att, t_not, t_and, t_or, t_cmp, t_cmp2, trQ_bl, blQ_bl, t_methk, t_smeth, t_oeq, t_eisi, t_ix, t_icall, t_one, t_callk, t_oin, t_obin, t_xcmp, t_oeqs, a_nil', a_cons, s_nil, s_cons, s_set, s_setLc, s_par, s_expr, s_ret, s_retN, s_if, s_for, s_never, s_pass, s_brk, s_cont, s_par3, s_oaug, s_raise, g_v', g_tup, g_sub, g_att, gs_nil, gs_cons, gs_tup, g_unl, i_L, i_T, i_S, i_R1, i_ES, i_E, i_Z, p_nil, p_pair, o_nil, o_k, o_v, o_bop, o_uop, o_bi, o_ix, oQ_int, o_att, o_call, i_ET, i_R2, x_K, x_w, x_fn, x_gv, x_tabs, x_mth, x_prp, x_fld, x_isi, x_kwo, x_dfl, x_xf, x_exm, x_eis, x_lt, x_lfn, x_smt, x_cmt, x_cvl, y_cvl, x_opr, y_opr, y_cmt, y_K, y_w, y_fn, y_gv, y_tabs, y_mth, y_prp, y_fld, y_isi, y_kwo, y_dfl, y_xf, y_exm, y_eis, y_smt, isi_int, isi_str, isi_bl, isi_non, ii1, ii2, ii3, ii4, ii5, ii6, ii7, it1, it2, it3, it4, it5, it6, it7, it8, it9, it10, it11, it12, it13, r_add, r_sub, r_mul, r_div, r_mod, r_pow, r_shl, r_shr, r_and, r_or, r_xor, r_neg, r_inv, r_lt, r_le, r_gt, r_ge, r_eqI, r_neI, r_eqS, r_neS, r_inS, r_niS, b_int, b_intB, b_abs, b_lenS, b_strS, r_addS, r_isN, r_eqB, r_neB, List.getElem?_cons_zero, List.getElem?_cons_succ, List.set_cons_zero, List.set_cons_succ, List.map_cons, List.map_nil, List.length_cons, List.length_nil, Nat.reduceAdd, Nat.reduceSub, List.replicate_succ, List.replicate_zero, List.cons_append, List.nil_append, List.append_nil, Bool.not_true, Bool.not_false, if_true, if_false, ite_true, ite_false, Bool.false_eq_true, Bool.true_eq_false, reduceIte]
  refine sp_1 b ?_
  refine ⟨.inl (by unfold CMul; omega), ?_⟩
  have b1 := b.put (a' := a + 1) (g' := g) (k := m) ⟨by omega, by omega, A2⟩
  refine pn_0 b1 ?_
  have fin : ∀ (c : Int) (H1 : Hp), PenAt H1 p l cs (a + 1) g m → ExtP p H H1 → (rd (hd.pg.ctx K w (run hd.pg K w (n - 1))) (tailI 5 b__law_draw) fun cls dd _ H' => E cls dd H').s { nx := fun _ H' => Q .non H', rt := Q } [some (.ref p), some (.int lim), none, some (.int a), some (.int c), none, none] H1 := by
    intro c H1 b1 x1
    simp only [tailI, b__law_draw, e_k, e_v, e_g, e_bop, e_uop, e_not, e_and, e_or, e_ite, e_cmp, e_cmp2, e_lst, e_tup, e_dic, e_call, e_mk, e_bi, e_isi, e_meth, e_bm, e_icall, e_ostr, e_att, e_ix, e_sl, e_lc, e_isiM, e_methk, e_smeth, e_cmeth, e_mkv, e_mkk, kw_nil, e_oeq, e_eatt, e_eisi, e_one, e_rep, e_fmt, e_callk, e_xcmp, e_obin, e_oinv, e_oin, e_olen, e_obool, e_cat, e_fo3, e_rev, e_rgl, e_oeqs, t_v, t_isi, t_call, t_meth, t_bop, t_bi, t_att, t_not, t_and, t_or, t_cmp, t_cmp2, trQ_bl, blQ_bl, t_methk, t_smeth, t_oeq, t_eisi, t_ix, t_icall, t_one, t_callk, t_oin, t_obin, t_xcmp, t_oeqs, a_nil', a_cons, s_nil, s_cons, s_set, s_setLc, s_par, s_expr, s_ret, s_retN, s_if, s_for, s_never, s_pass, s_brk, s_cont, s_par3, s_oaug, s_raise, g_v', g_tup, g_sub, g_att, gs_nil, gs_cons, gs_tup, g_unl, i_L, i_T, i_S, i_R1, i_ES, i_E, i_Z, p_nil, p_pair, o_nil, o_k, o_v, o_bop, o_uop, o_bi, o_ix, oQ_int, o_att, o_call, i_ET, i_R2, x_K, x_w, x_fn, x_gv, x_tabs, x_mth, x_prp, x_fld, x_isi, x_kwo, x_dfl, x_xf, x_exm, x_eis, x_lt, x_lfn, x_smt, x_cmt, x_cvl, y_cvl, x_opr, y_opr, y_cmt, y_K, y_w, y_fn, y_gv, y_tabs, y_mth, y_prp, y_fld, y_isi, y_kwo, y_dfl, y_xf, y_exm, y_eis, y_smt, isi_int, isi_str, isi_bl, isi_non, ii1, ii2, ii3, ii4, ii5, ii6, ii7, it1, it2, it3, it4, it5, it6, it7, it8, it9, it10, it11, it12, it13, r_add, r_sub, r_mul, r_div, r_mod, r_pow, r_shl, r_shr, r_and, r_or, r_xor, r_neg, r_inv, r_lt, r_le, r_gt, r_ge, r_eqI, r_neI, r_eqS, r_neS, r_inS, r_niS, b_int, b_intB, b_abs, b_lenS, b_strS, r_addS, r_isN, r_eqB, r_neB, List.getElem?_cons_zero, List.getElem?_cons_succ, List.set_cons_zero, List.set_cons_succ, List.map_cons, List.map_nil, List.length_cons, List.length_nil, Nat.reduceAdd, Nat.reduceSub, List.replicate_succ, List.replicate_zero, List.cons_append, List.nil_append, List.append_nil, Bool.not_true, Bool.not_false, if_true, if_false, ite_true, ite_false, Bool.false_eq_true, Bool.true_eq_false, reduceIte]
    have ret : ∀ d : Int, Q (.int (d % lim)) H1 := fun d => h _ _ (mod_lim hl.1).1 (mod_lim hl.1).2 ⟨_, _, _, b1⟩ x1
    refine pn_0 b1 ?_
    refine b_lenL (.inl (.inl b1.cells)) ?_
    simp only [r_lt, blQ_bl, List.length_map]
    have hmx : ∀ k : Int, 1 ≤ k → 0 ≤ c % k ∧ c % k < k := fun k hk => mod_lim hk
    by_cases h1 : a < cs.length
    · simp only [h1, decide_true, e_k, e_v, e_g, e_bop, e_uop, e_not, e_and, e_or, e_ite, e_cmp, e_cmp2, e_lst, e_tup, e_dic, e_call, e_mk, e_bi, e_isi, e_meth, e_bm, e_icall, e_ostr, e_att, e_ix, e_sl, e_lc, e_isiM, e_methk, e_smeth, e_cmeth, e_mkv, e_mkk, kw_nil, e_oeq, e_eatt, e_eisi, e_one, e_rep, e_fmt, e_callk, e_xcmp, e_obin, e_oinv, e_oin, e_olen, e_obool, e_cat, e_fo3, e_rev, e_rgl, e_oeqs, t_v, t_isi, t_call, t_meth, t_bop, t_bi, t_att, t_not, t_and, t_or, t_cmp, t_cmp2, trQ_bl, blQ_bl, t_methk, t_smeth, t_oeq, t_eisi, t_ix, t_icall, t_one, t_callk, t_oin, t_obin, t_xcmp, t_oeqs, a_nil', a_cons, s_nil, s_cons, s_set, s_setLc, s_par, s_expr, s_ret, s_retN, s_if, s_for, s_never, s_pass, s_brk, s_cont, s_par3, s_oaug, s_raise, g_v', g_tup, g_sub, g_att, gs_nil, gs_cons, gs_tup, g_unl, i_L, i_T, i_S, i_R1, i_ES, i_E, i_Z, p_nil, p_pair, o_nil, o_k, o_v, o_bop, o_uop, o_bi, o_ix, oQ_int, o_att, o_call, i_ET, i_R2, x_K, x_w, x_fn, x_gv, x_tabs, x_mth, x_prp, x_fld, x_isi, x_kwo, x_dfl, x_xf, x_exm, x_eis, x_lt, x_lfn, x_smt, x_cmt, x_cvl, y_cvl, x_opr, y_opr, y_cmt, y_K, y_w, y_fn, y_gv, y_tabs, y_mth, y_prp, y_fld, y_isi, y_kwo, y_dfl, y_xf, y_exm, y_eis, y_smt, isi_int, isi_str, isi_bl, isi_non, ii1, ii2, ii3, ii4, ii5, ii6, ii7, it1, it2, it3, it4, it5, it6, it7, it8, it9, it10, it11, it12, it13, r_add, r_sub, r_mul, r_div, r_mod, r_pow, r_shl, r_shr, r_and, r_or, r_xor, r_neg, r_inv, r_lt, r_le, r_gt, r_ge, r_eqI, r_neI, r_eqS, r_neS, r_inS, r_niS, b_int, b_intB, b_abs, b_lenS, b_strS, r_addS, r_isN, r_eqB, r_neB, List.getElem?_cons_zero, List.getElem?_cons_succ, List.set_cons_zero, List.set_cons_succ, List.map_cons, List.map_nil, List.length_cons, List.length_nil, Nat.reduceAdd, Nat.reduceSub, List.replicate_succ, List.replicate_zero, List.cons_append, List.nil_append, List.append_nil, Bool.not_true, Bool.not_false, if_true, if_false, ite_true, ite_false, Bool.false_eq_true, Bool.true_eq_false, reduceIte]
      refine ⟨⟨by decide, by decide, by decide⟩, ?_⟩
      by_cases h2 : (10 : Int) ^ (18 : Int).toNat ≤ (if c < 0 then -c else c)
      · simp only [h2, decide_true, e_k, e_v, e_g, e_bop, e_uop, e_not, e_and, e_or, e_ite, e_cmp, e_cmp2, e_lst, e_tup, e_dic, e_call, e_mk, e_bi, e_isi, e_meth, e_bm, e_icall, e_ostr, e_att, e_ix, e_sl, e_lc, e_isiM, e_methk, e_smeth, e_cmeth, e_mkv, e_mkk, kw_nil, e_oeq, e_eatt, e_eisi, e_one, e_rep, e_fmt, e_callk, e_xcmp, e_obin, e_oinv, e_oin, e_olen, e_obool, e_cat, e_fo3, e_rev, e_rgl, e_oeqs, t_v, t_isi, t_call, t_meth, t_bop, t_bi, t_att, t_not, t_and, t_or, t_cmp, t_cmp2, trQ_bl, blQ_bl, t_methk, t_smeth, t_oeq, t_eisi, t_ix, t_icall, t_one, t_callk, t_oin, t_obin, t_xcmp, t_oeqs, a_nil', a_cons, s_nil, s_cons, s_set, s_setLc, s_par, s_expr, s_ret, s_retN, s_if, s_for, s_never, s_pass, s_brk, s_cont, s_par3, s_oaug, s_raise, g_v', g_tup, g_sub, g_att, gs_nil, gs_cons, gs_tup, g_unl, i_L, i_T, i_S, i_R1, i_ES, i_E, i_Z, p_nil, p_pair, o_nil, o_k, o_v, o_bop, o_uop, o_bi, o_ix, oQ_int, o_att, o_call, i_ET, i_R2, x_K, x_w, x_fn, x_gv, x_tabs, x_mth, x_prp, x_fld, x_isi, x_kwo, x_dfl, x_xf, x_exm, x_eis, x_lt, x_lfn, x_smt, x_cmt, x_cvl, y_cvl, x_opr, y_opr, y_cmt, y_K, y_w, y_fn, y_gv, y_tabs, y_mth, y_prp, y_fld, y_isi, y_kwo, y_dfl, y_xf, y_exm, y_eis, y_smt, isi_int, isi_str, isi_bl, isi_non, ii1, ii2, ii3, ii4, ii5, ii6, ii7, it1, it2, it3, it4, it5, it6, it7, it8, it9, it10, it11, it12, it13, r_add, r_sub, r_mul, r_div, r_mod, r_pow, r_shl, r_shr, r_and, r_or, r_xor, r_neg, r_inv, r_lt, r_le, r_gt, r_ge, r_eqI, r_neI, r_eqS, r_neS, r_inS, r_niS, b_int, b_intB, b_abs, b_lenS, b_strS, r_addS, r_isN, r_eqB, r_neB, List.getElem?_cons_zero, List.getElem?_cons_succ, List.set_cons_zero, List.set_cons_succ, List.map_cons, List.map_nil, List.length_cons, List.length_nil, Nat.reduceAdd, Nat.reduceSub, List.replicate_succ, List.replicate_zero, List.cons_append, List.nil_append, List.append_nil, Bool.not_true, Bool.not_false, if_true, if_false, ite_true, ite_false, Bool.false_eq_true, Bool.true_eq_false, reduceIte]
        refine ⟨⟨by decide, by decide, by decide⟩, .inl (by unfold CMul; omega), ?_⟩
        have h3 : (10 : Int) ^ (18 : Int).toNat = 1000000000000000000 := by decide
        rw [h3] at h2 ⊢
        generalize hk : (if decide (c < 0) = true then (1 : Int) else 0) = k
        have hk2 : 0 ≤ k := by rw [← hk]; split <;> omega
        generalize (if c < 0 then -c else c) = cc at h2
        refine ⟨div_lim hl, ?_⟩
        refine sp_2 b1 ?_
        refine ⟨by omega, ?_⟩
        exact h _ _ (mod_lim hl.1).1 (mod_lim hl.1).2 ⟨_, _, _, b1.put ⟨by omega, by omega, Int.ediv_nonneg (by omega) (by omega)⟩⟩ (x1.trans ExtP.put)
      · simp only [h2, decide_false, e_k, e_v, e_g, e_bop, e_uop, e_not, e_and, e_or, e_ite, e_cmp, e_cmp2, e_lst, e_tup, e_dic, e_call, e_mk, e_bi, e_isi, e_meth, e_bm, e_icall, e_ostr, e_att, e_ix, e_sl, e_lc, e_isiM, e_methk, e_smeth, e_cmeth, e_mkv, e_mkk, kw_nil, e_oeq, e_eatt, e_eisi, e_one, e_rep, e_fmt, e_callk, e_xcmp, e_obin, e_oinv, e_oin, e_olen, e_obool, e_cat, e_fo3, e_rev, e_rgl, e_oeqs, t_v, t_isi, t_call, t_meth, t_bop, t_bi, t_att, t_not, t_and, t_or, t_cmp, t_cmp2, trQ_bl, blQ_bl, t_methk, t_smeth, t_oeq, t_eisi, t_ix, t_icall, t_one, t_callk, t_oin, t_obin, t_xcmp, t_oeqs, a_nil', a_cons, s_nil, s_cons, s_set, s_setLc, s_par, s_expr, s_ret, s_retN, s_if, s_for, s_never, s_pass, s_brk, s_cont, s_par3, s_oaug, s_raise, g_v', g_tup, g_sub, g_att, gs_nil, gs_cons, gs_tup, g_unl, i_L, i_T, i_S, i_R1, i_ES, i_E, i_Z, p_nil, p_pair, o_nil, o_k, o_v, o_bop, o_uop, o_bi, o_ix, oQ_int, o_att, o_call, i_ET, i_R2, x_K, x_w, x_fn, x_gv, x_tabs, x_mth, x_prp, x_fld, x_isi, x_kwo, x_dfl, x_xf, x_exm, x_eis, x_lt, x_lfn, x_smt, x_cmt, x_cvl, y_cvl, x_opr, y_opr, y_cmt, y_K, y_w, y_fn, y_gv, y_tabs, y_mth, y_prp, y_fld, y_isi, y_kwo, y_dfl, y_xf, y_exm, y_eis, y_smt, isi_int, isi_str, isi_bl, isi_non, ii1, ii2, ii3, ii4, ii5, ii6, ii7, it1, it2, it3, it4, it5, it6, it7, it8, it9, it10, it11, it12, it13, r_add, r_sub, r_mul, r_div, r_mod, r_pow, r_shl, r_shr, r_and, r_or, r_xor, r_neg, r_inv, r_lt, r_le, r_gt, r_ge, r_eqI, r_neI, r_eqS, r_neS, r_inS, r_niS, b_int, b_intB, b_abs, b_lenS, b_strS, r_addS, r_isN, r_eqB, r_neB, List.getElem?_cons_zero, List.getElem?_cons_succ, List.set_cons_zero, List.set_cons_succ, List.map_cons, List.map_nil, List.length_cons, List.length_nil, Nat.reduceAdd, Nat.reduceSub, List.replicate_succ, List.replicate_zero, List.cons_append, List.nil_append, List.append_nil, Bool.not_true, Bool.not_false, if_true, if_false, ite_true, ite_false, Bool.false_eq_true, Bool.true_eq_false, reduceIte]
        exact ⟨by decide, .inl (.inl ⟨by decide, by decide⟩), ⟨by decide, by decide, by omega⟩, by decide, .inl (.inl ⟨by decide, by decide⟩), .inl (.inr ⟨by omega, by omega⟩), .inl (.inl ⟨by decide, by decide⟩), .inl (.inr ⟨by omega, by omega⟩), ⟨by decide, by decide, cube_ok (md_ok (by decide)) ⟨by omega, by omega⟩ ⟨by omega, by omega⟩ ⟨by omega, by omega⟩ (by decide)⟩, by decide, .inl ⟨by decide, by decide⟩, by omega, ret _⟩
    · simp only [h1, decide_false, e_k, e_v, e_g, e_bop, e_uop, e_not, e_and, e_or, e_ite, e_cmp, e_cmp2, e_lst, e_tup, e_dic, e_call, e_mk, e_bi, e_isi, e_meth, e_bm, e_icall, e_ostr, e_att, e_ix, e_sl, e_lc, e_isiM, e_methk, e_smeth, e_cmeth, e_mkv, e_mkk, kw_nil, e_oeq, e_eatt, e_eisi, e_one, e_rep, e_fmt, e_callk, e_xcmp, e_obin, e_oinv, e_oin, e_olen, e_obool, e_cat, e_fo3, e_rev, e_rgl, e_oeqs, t_v, t_isi, t_call, t_meth, t_bop, t_bi, t_att, t_not, t_and, t_or, t_cmp, t_cmp2, trQ_bl, blQ_bl, t_methk, t_smeth, t_oeq, t_eisi, t_ix, t_icall, t_one, t_callk, t_oin, t_obin, t_xcmp, t_oeqs, a_nil', a_cons, s_nil, s_cons, s_set, s_setLc, s_par, s_expr, s_ret, s_retN, s_if, s_for, s_never, s_pass, s_brk, s_cont, s_par3, s_oaug, s_raise, g_v', g_tup, g_sub, g_att, gs_nil, gs_cons, gs_tup, g_unl, i_L, i_T, i_S, i_R1, i_ES, i_E, i_Z, p_nil, p_pair, o_nil, o_k, o_v, o_bop, o_uop, o_bi, o_ix, oQ_int, o_att, o_call, i_ET, i_R2, x_K, x_w, x_fn, x_gv, x_tabs, x_mth, x_prp, x_fld, x_isi, x_kwo, x_dfl, x_xf, x_exm, x_eis, x_lt, x_lfn, x_smt, x_cmt, x_cvl, y_cvl, x_opr, y_opr, y_cmt, y_K, y_w, y_fn, y_gv, y_tabs, y_mth, y_prp, y_fld, y_isi, y_kwo, y_dfl, y_xf, y_exm, y_eis, y_smt, isi_int, isi_str, isi_bl, isi_non, ii1, ii2, ii3, ii4, ii5, ii6, ii7, it1, it2, it3, it4, it5, it6, it7, it8, it9, it10, it11, it12, it13, r_add, r_sub, r_mul, r_div, r_mod, r_pow, r_shl, r_shr, r_and, r_or, r_xor, r_neg, r_inv, r_lt, r_le, r_gt, r_ge, r_eqI, r_neI, r_eqS, r_neS, r_inS, r_niS, b_int, b_intB, b_abs, b_lenS, b_strS, r_addS, r_isN, r_eqB, r_neB, List.getElem?_cons_zero, List.getElem?_cons_succ, List.set_cons_zero, List.set_cons_succ, List.map_cons, List.map_nil, List.length_cons, List.length_nil, Nat.reduceAdd, Nat.reduceSub, List.replicate_succ, List.replicate_zero, List.cons_append, List.nil_append, List.append_nil, Bool.not_true, Bool.not_false, if_true, if_false, ite_true, ite_false, Bool.false_eq_true, Bool.true_eq_false, reduceIte]
      exact ⟨by decide, .inl (.inl ⟨by decide, by decide⟩), ⟨by decide, by decide, by omega⟩, by decide, .inl (.inl ⟨by decide, by decide⟩), .inl (.inr ⟨by omega, by omega⟩), .inl (.inl ⟨by decide, by decide⟩), .inl (.inr ⟨by omega, by omega⟩), ⟨by decide, by decide, cube_ok (md_ok (by decide)) ⟨by omega, by omega⟩ ⟨by omega, by omega⟩ ⟨by omega, by omega⟩ (by decide)⟩, by decide, .inl ⟨by decide, by decide⟩, by omega, ret _⟩
  simp only [tailI, b__law_draw, e_k, e_v, e_g, e_bop, e_uop, e_not, e_and, e_or, e_ite, e_cmp, e_cmp2, e_lst, e_tup, e_dic, e_call, e_mk, e_bi, e_isi, e_meth, e_bm, e_icall, e_ostr, e_att, e_ix, e_sl, e_lc, e_isiM, e_methk, e_smeth, e_cmeth, e_mkv, e_mkk, kw_nil, e_oeq, e_eatt, e_eisi, e_one, e_rep, e_fmt, e_callk, e_xcmp, e_obin, e_oinv, e_oin, e_olen, e_obool, e_cat, e_fo3, e_rev, e_rgl, e_oeqs, t_v, t_isi, t_call, t_meth, t_bop, t_bi, t_att, t_not, t_and, t_or, t_cmp, t_cmp2, trQ_bl, blQ_bl, t_methk, t_smeth, t_oeq, t_eisi, t_ix, t_icall, t_one, t_callk, t_oin, t_obin, t_xcmp, t_oeqs, a_nil', a_cons, s_nil, s_cons, s_set, s_setLc, s_par, s_expr, s_ret, s_retN, s_if, s_for, s_never, s_pass, s_brk, s_cont, s_par3, s_oaug, s_raise, g_v', g_tup, g_sub, g_att, gs_nil, gs_cons, gs_tup, g_unl, i_L, i_T, i_S, i_R1, i_ES, i_E, i_Z, p_nil, p_pair, o_nil, o_k, o_v, o_bop, o_uop, o_bi, o_ix, oQ_int, o_att, o_call, i_ET, i_R2, x_K, x_w, x_fn, x_gv, x_tabs, x_mth, x_prp, x_fld, x_isi, x_kwo, x_dfl, x_xf, x_exm, x_eis, x_lt, x_lfn, x_smt, x_cmt, x_cvl, y_cvl, x_opr, y_opr, y_cmt, y_K, y_w, y_fn, y_gv, y_tabs, y_mth, y_prp, y_fld, y_isi, y_kwo, y_dfl, y_xf, y_exm, y_eis, y_smt, isi_int, isi_str, isi_bl, isi_non, ii1, ii2, ii3, ii4, ii5, ii6, ii7, it1, it2, it3, it4, it5, it6, it7, it8, it9, it10, it11, it12, it13, r_add, r_sub, r_mul, r_div, r_mod, r_pow, r_shl, r_shr, r_and, r_or, r_xor, r_neg, r_inv, r_lt, r_le, r_gt, r_ge, r_eqI, r_neI, r_eqS, r_neS, r_inS, r_niS, b_int, b_intB, b_abs, b_lenS, b_strS, r_addS, r_isN, r_eqB, r_neB, List.getElem?_cons_zero, List.getElem?_cons_succ, List.set_cons_zero, List.set_cons_succ, List.map_cons, List.map_nil, List.length_cons, List.length_nil, Nat.reduceAdd, Nat.reduceSub, List.replicate_succ, List.replicate_zero, List.cons_append, List.nil_append, List.append_nil, Bool.not_true, Bool.not_false, if_true, if_false, ite_true, ite_false, Bool.false_eq_true, Bool.true_eq_false, reduceIte] at fin
  refine ⟨by decide, fun e he => ?_⟩
  have b2 := b1.ext (Ext.new he (o := .lst []))
  have x2 : ExtP p H (upd (upd H p (.lst [.ref l, .int (a + 1), .int g])) e (.lst [])) := ExtP.put.trans (Ext.new he).toP
  have hd : ∀ r : List Int, DpAll K (upd (upd H p (.lst [.ref l, .int (a + 1), .int g])) e (.lst [])) (r.map V.int) (r.map .int) := fun r => by
    induction r with
    | nil => exact .nil
    | cons c r ih => exact .cons (.int c) ih
  refine r_neD (d := .list (cs.map .int)) (e := .list []) rfl (.lst (.inl (.inl b2.cells)) (hd _)) (.lst (.inl (.inl upd_same)) .nil) (shaped_ints cs) rfl ?_
  cases hc : cs with
  | nil =>
    subst hc
    exact fin _ _ b2 x2
  | cons c0 r =>
    rw [← hc]
    rw [show PyData.eqv (.list (cs.map .int)) (.list []) = false from by rw [hc]; rfl]
    simp only [Bool.not_false, e_k, e_v, e_g, e_bop, e_uop, e_not, e_and, e_or, e_ite, e_cmp, e_cmp2, e_lst, e_tup, e_dic, e_call, e_mk, e_bi, e_isi, e_meth, e_bm, e_icall, e_ostr, e_att, e_ix, e_sl, e_lc, e_isiM, e_methk, e_smeth, e_cmeth, e_mkv, e_mkk, kw_nil, e_oeq, e_eatt, e_eisi, e_one, e_rep, e_fmt, e_callk, e_xcmp, e_obin, e_oinv, e_oin, e_olen, e_obool, e_cat, e_fo3, e_rev, e_rgl, e_oeqs, t_v, t_isi, t_call, t_meth, t_bop, t_bi, t_att, t_not, t_and, t_or, t_cmp, t_cmp2, trQ_bl, blQ_bl, t_methk, t_smeth, t_oeq, t_eisi, t_ix, t_icall, t_one, t_callk, t_oin, t_obin, t_xcmp, t_oeqs, a_nil', a_cons, s_nil, s_cons, s_set, s_setLc, s_par, s_expr, s_ret, s_retN, s_if, s_for, s_never, s_pass, s_brk, s_cont, s_par3, s_oaug, s_raise, g_v', g_tup, g_sub, g_att, gs_nil, gs_cons, gs_tup, g_unl, i_L, i_T, i_S, i_R1, i_ES, i_E, i_Z, p_nil, p_pair, o_nil, o_k, o_v, o_bop, o_uop, o_bi, o_ix, oQ_int, o_att, o_call, i_ET, i_R2, x_K, x_w, x_fn, x_gv, x_tabs, x_mth, x_prp, x_fld, x_isi, x_kwo, x_dfl, x_xf, x_exm, x_eis, x_lt, x_lfn, x_smt, x_cmt, x_cvl, y_cvl, x_opr, y_opr, y_cmt, y_K, y_w, y_fn, y_gv, y_tabs, y_mth, y_prp, y_fld, y_isi, y_kwo, y_dfl, y_xf, y_exm, y_eis, y_smt, isi_int, isi_str, isi_bl, isi_non, ii1, ii2, ii3, ii4, ii5, ii6, ii7, it1, it2, it3, it4, it5, it6, it7, it8, it9, it10, it11, it12, it13, r_add, r_sub, r_mul, r_div, r_mod, r_pow, r_shl, r_shr, r_and, r_or, r_xor, r_neg, r_inv, r_lt, r_le, r_gt, r_ge, r_eqI, r_neI, r_eqS, r_neS, r_inS, r_niS, b_int, b_intB, b_abs, b_lenS, b_strS, r_addS, r_isN, r_eqB, r_neB, List.getElem?_cons_zero, List.getElem?_cons_succ, List.set_cons_zero, List.set_cons_succ, List.map_cons, List.map_nil, List.length_cons, List.length_nil, Nat.reduceAdd, Nat.reduceSub, List.replicate_succ, List.replicate_zero, List.cons_append, List.nil_append, List.append_nil, Bool.not_true, Bool.not_false, if_true, if_false, ite_true, ite_false, Bool.false_eq_true, Bool.true_eq_false, reduceIte]
    refine pn_0 b2 ?_
    refine pn_0 b2 ?_
    refine b_lenL (.inl (.inl b2.cells)) ?_
    have hpos : 0 < cs.length := by rw [hc]; exact Nat.succ_pos _
    simp only [r_mod, List.length_map]
    have hm := mod_lim (x := a) (l := (cs.length : Int)) (by omega)
    refine ⟨by omega, ?_⟩
    obtain ⟨c, e5⟩ := atI_map (cs := cs) hm.1 hm.2
    refine x_ixL (.inl (.inl b2.cells)) e5 ?_
    exact fin _ _ b2 x2
theorem c_draw {p : Addr} {lim : Int} (hP : Pen H p (m + 1)) (hn : 1 ≤ n) (hl : 1 ≤ lim ∧ lim < 2 ^ 300) (h : ∀ i H', 0 ≤ i → i < lim → Pen H' p m → ExtP p H H' → Q (.int i) H') : run hd.pg K w n s__law_draw [.ref p, .int lim] H Q E := by
  obtain ⟨l, hP⟩ := hP
  exact c_drawL hP hn hl fun i H' a b P x => h i H' a b ⟨l, P⟩ x
/-- one of some things -/
theorem c_pick {p q : Addr} {xs : List V} (hP : Pen H p (m + 1)) (hn : 2 ≤ n) (hq : SqL K H q xs) (hne : q ≠ p) (hl : 1 ≤ xs.length ∧ xs.length ≤ 100000) (h : ∀ (i : Nat) (v : V) H', xs[i]? = some v → Pen H' p m → ExtP p H H' → Q v H') : run hd.pg K w n s__law_pick [.ref p, .ref q] H Q E := by
  refine run_at f__law_pick (by omega) rfl ?_
  simp only [d__law_pick, b__law_pick, L2.start, e_k, e_v, e_g, e_bop, e_uop, e_not, e_and, e_or, e_ite, e_cmp, e_cmp2, e_lst, e_tup, e_dic, e_call, e_mk, e_bi, e_isi, e_meth, e_bm, e_icall, e_ostr, e_att, e_ix, e_sl, e_lc, e_isiM, e_methk, e_smeth, e_cmeth, e_mkv, e_mkk, kw_nil, e_oeq, e_eatt, e_eisi, e_one, e_rep, e_fmt, e_callk, e_xcmp, e_obin, e_oinv, e_oin, e_olen, e_obool, e_cat, e_fo3, e_rev, e_rgl, e_oeqs, t_v, t_isi, t_call, t_meth, t_bop, t_bi, t_att, t_not, t_and, t_or, t_cmp, t_cmp2, trQ_bl, blQ_bl, t_methk, t_smeth, t_oeq, t_eisi, t_ix, t_icall, t_one, t_callk, t_oin, t_obin, t_xcmp, t_oeqs, a_nil', a_cons, s_nil, s_cons, s_set, s_setLc, s_par, s_expr, s_ret, s_retN, s_if, s_for, s_never, s_pass, s_brk, s_cont, s_par3, s_oaug, s_raise, g_v', g_tup, g_sub, g_att, gs_nil, gs_cons, gs_tup, g_unl, i_L, i_T, i_S, i_R1, i_ES, i_E, i_Z, p_nil, p_pair, o_nil, o_k, o_v, o_bop, o_uop, o_bi, o_ix, oQ_int, o_att, o_call, i_ET, i_R2, x_K, x_w, x_fn, x_gv, x_tabs, x_mth, x_prp, x_fld, x_isi, x_kwo, x_dfl, x_xf, x_exm, x_eis, x_lt, x_lfn, x_smt, x_cmt, x_cvl, y_cvl, x_opr, y_opr, y_cmt, y_K, y_w, y_fn, y_gv, y_tabs, y_mth, y_prp, y_fld, y_isi, y_kwo, y_dfl, y_xf, y_exm, y_eis, y_smt, isi_int, isi_str, isi_bl, isi_non, ii1, ii2, ii3, ii4, ii5, ii6, ii7, it1, it2, it3, it4, it5, it6, it7, it8, it9, it10, it11, it12, it13, r_add, r_sub, r_mul, r_div, r_mod, r_pow, r_shl, r_shr, r_and, r_or, r_xor, r_neg, r_inv, r_lt, r_le, r_gt, r_ge, r_eqI, r_neI, r_eqS, r_neS, r_inS, r_niS, b_int, b_intB, b_abs, b_lenS, b_strS, r_addS, r_isN, r_eqB, r_neB, List.getElem?_cons_zero, List.getElem?_cons_succ, List.set_cons_zero, List.set_cons_succ, List.map_cons, List.map_nil, List.length_cons, List.length_nil, Nat.reduceAdd, Nat.reduceSub, List.replicate_succ, List.replicate_zero, List.cons_append, List.nil_append, List.append_nil, Bool.not_true, Bool.not_false, if_true, if_false, ite_true, ite_false, Bool.false_eq_true, Bool.true_eq_false, reduceIte]
  refine b_lenL hq ?_
  refine c_draw hP (by omega) ⟨by omega, by omega⟩ fun i H1 h0 h1 P1 x1 => ?_
  obtain ⟨j, rfl⟩ : ∃ j : Nat, i = j := ⟨i.toNat, by omega⟩
  have hq1 : SqL K H1 q xs := by
    rcases hq with (hq | ⟨z, hq⟩) | hq
    · exact .inl (.inl (x1.get hne hq))
    · exact .inl (.inr ⟨z, x1.get hne hq⟩)
    · exact .inr hq
  have hj : j < xs.length := by omega
  refine x_ixL hq1 (atI_nat (List.getElem?_eq_getElem hj)) ?_
  exact h j _ H1 (List.getElem?_eq_getElem hj) P1 x1
theorem c_pickS {p : Addr} {z : Str} (hP : Pen H p (m + 1)) (hn : 2 ≤ n) (hl : 1 ≤ z.cps.toList.length ∧ z.cps.toList.length ≤ 100000) (h : ∀ (i c : Nat) H', z.cps.toList[i]? = some c → Pen H' p m → ExtP p H H' → Q (.str (S [c])) H') : run hd.pg K w n s__law_pick [.ref p, .str z] H Q E := by
  have hz : z.length = z.cps.toList.length := by show z.cps.size = _; simp
  have hs : z.length ≤ sizeLine := by rw [sizeLine_eq]; omega
  refine run_at f__law_pick (by omega) rfl ?_
  simp only [d__law_pick, b__law_pick, L2.start, e_k, e_v, e_g, e_bop, e_uop, e_not, e_and, e_or, e_ite, e_cmp, e_cmp2, e_lst, e_tup, e_dic, e_call, e_mk, e_bi, e_isi, e_meth, e_bm, e_icall, e_ostr, e_att, e_ix, e_sl, e_lc, e_isiM, e_methk, e_smeth, e_cmeth, e_mkv, e_mkk, kw_nil, e_oeq, e_eatt, e_eisi, e_one, e_rep, e_fmt, e_callk, e_xcmp, e_obin, e_oinv, e_oin, e_olen, e_obool, e_cat, e_fo3, e_rev, e_rgl, e_oeqs, t_v, t_isi, t_call, t_meth, t_bop, t_bi, t_att, t_not, t_and, t_or, t_cmp, t_cmp2, trQ_bl, blQ_bl, t_methk, t_smeth, t_oeq, t_eisi, t_ix, t_icall, t_one, t_callk, t_oin, t_obin, t_xcmp, t_oeqs, a_nil', a_cons, s_nil, s_cons, s_set, s_setLc, s_par, s_expr, s_ret, s_retN, s_if, s_for, s_never, s_pass, s_brk, s_cont, s_par3, s_oaug, s_raise, g_v', g_tup, g_sub, g_att, gs_nil, gs_cons, gs_tup, g_unl, i_L, i_T, i_S, i_R1, i_ES, i_E, i_Z, p_nil, p_pair, o_nil, o_k, o_v, o_bop, o_uop, o_bi, o_ix, oQ_int, o_att, o_call, i_ET, i_R2, x_K, x_w, x_fn, x_gv, x_tabs, x_mth, x_prp, x_fld, x_isi, x_kwo, x_dfl, x_xf, x_exm, x_eis, x_lt, x_lfn, x_smt, x_cmt, x_cvl, y_cvl, x_opr, y_opr, y_cmt, y_K, y_w, y_fn, y_gv, y_tabs, y_mth, y_prp, y_fld, y_isi, y_kwo, y_dfl, y_xf, y_exm, y_eis, y_smt, isi_int, isi_str, isi_bl, isi_non, ii1, ii2, ii3, ii4, ii5, ii6, ii7, it1, it2, it3, it4, it5, it6, it7, it8, it9, it10, it11, it12, it13, r_add, r_sub, r_mul, r_div, r_mod, r_pow, r_shl, r_shr, r_and, r_or, r_xor, r_neg, r_inv, r_lt, r_le, r_gt, r_ge, r_eqI, r_neI, r_eqS, r_neS, r_inS, r_niS, b_int, b_intB, b_abs, b_lenS, b_strS, r_addS, r_isN, r_eqB, r_neB, List.getElem?_cons_zero, List.getElem?_cons_succ, List.set_cons_zero, List.set_cons_succ, List.map_cons, List.map_nil, List.length_cons, List.length_nil, Nat.reduceAdd, Nat.reduceSub, List.replicate_succ, List.replicate_zero, List.cons_append, List.nil_append, List.append_nil, Bool.not_true, Bool.not_false, if_true, if_false, ite_true, ite_false, Bool.false_eq_true, Bool.true_eq_false, reduceIte]
  refine ⟨hs, ?_⟩
  refine c_draw hP (by omega) ⟨by omega, by omega⟩ fun i H1 h0 h1 P1 x1 => ?_
  obtain ⟨j, rfl⟩ : ∃ j : Nat, i = j := ⟨i.toNat, by omega⟩
  have hj : j < z.cps.toList.length := by omega
  refine ⟨hs, _, atI_nat (List.getElem?_eq_getElem hj), ?_⟩
  exact h j _ H1 (List.getElem?_eq_getElem hj) P1 x1
end U

namespace U
open PySem PySem.Spec PyProof.Rows L2
variable {K : PySem.W.Frag} {w : World} {n m : Nat} {H : Hp} {Q : VK} {E : XK}
theorem tl_S (l : List Nat) : (S l).cps.toList = l := rfl
theorem Pen.ne {p q : Addr} (b : Pen H p m) (h : H q = none) : q ≠ p := fun e => by
  obtain ⟨xs, z⟩ := b.lst
  rw [e, z] at h
  cases h
theorem Pen.neo {p q : Addr} {o : HO} (b : Pen H p m) (h : H q = some o) (ho : ∀ xs, o ≠ .lst xs) : q ≠ p := fun e => by
  obtain ⟨xs, z⟩ := b.lst
  rw [e, z] at h
  cases h
  exact ho _ rfl
theorem PenL.mono {p l : Addr} {k : Nat} (b : PenL H p l m) (h : k ≤ m) : PenL H p l k := by
  obtain ⟨cs, a, g, b⟩ := b
  exact ⟨cs, a, g, { b with a1 := by have := b.a1; omega }⟩
abbrev abc : List Nat := [97, 98, 99, 100, 101, 102, 103, 104, 105, 106, 107, 108, 109, 110, 111, 112, 113, 114, 115, 116, 117, 118, 119, 120, 121, 122]
def nameL (l : List Nat) : Bool := decide (1 ≤ l.length) && (decide (l.length ≤ 8) && l.all fun c => decide (c ∈ abc))
theorem gvA : hd.pg.gv K s_LETTERS = some (.str (S abc)) := rfl
theorem gvN : hd.pg.gv K s_LONGEST_NAME = some (.int 8) := rfl
theorem gvM : hd.pg.gv K s_MOST_NAMES = some (.int 2) := rfl
def fIn (l : List Nat) : V → Option V
  | .str ⟨⟨[c]⟩⟩ => some (.bl (decide (c ∈ l)))
  | _ => none
theorem len_le {l : List Nat} : (decide ((1 : Int) ≤ (l.length : Nat)) = decide (1 ≤ l.length)) ∧ (decide (((l.length : Nat) : Int) ≤ 8) = decide (l.length ≤ 8)) := by
  constructor <;> exact decide_eq_decide.mpr (by omega)
theorem c_is_name {l : List Nat} (hl : nameL l = true) (hn : 1 ≤ n) (h : ∀ H', Ext H H' → Q (.bl true) H') : run hd.pg K w n s_is_name [.str (S l)] H Q E := by
  refine run_at f_is_name hn rfl ?_
  unfold nameL at hl
  rw [Bool.and_eq_true, Bool.and_eq_true] at hl
  obtain ⟨h1, h2, h3⟩ := hl
  have h8 : l.length ≤ 8 := of_decide_eq_true h2
  have sz : (S l).length ≤ sizeLine := by rw [SX.S_len, sizeLine_eq]; omega
  simp only [d_is_name, b_is_name, L2.start, gvA, gvN, e_k, e_v, e_g, e_bop, e_uop, e_not, e_and, e_or, e_ite, e_cmp, e_cmp2, e_lst, e_tup, e_call, e_mk, e_bi, e_isi, e_meth, e_bm, e_icall, e_ostr, e_att, e_ix, e_sl, e_isiM, e_methk, e_smeth, e_cmeth, e_mkv, e_mkk, kw_nil, e_oeq, e_eatt, e_eisi, e_one, e_rep, e_fmt, e_callk, e_xcmp, e_obin, e_oinv, e_oin, e_olen, e_obool, e_cat, e_fo3, e_rev, e_rgl, e_oeqs, t_v, t_isi, t_call, t_meth, t_bop, t_bi, t_att, t_not, t_and, t_or, t_cmp, t_cmp2, trQ_bl, blQ_bl, t_methk, t_smeth, t_oeq, t_eisi, t_ix, t_icall, t_one, t_callk, t_oin, t_obin, t_xcmp, t_oeqs, a_nil', a_cons, s_nil, s_cons, s_set, s_setLc, s_par, s_expr, s_ret, s_retN, s_if, s_never, s_pass, s_brk, s_cont, s_par3, s_oaug, s_raise, g_v', g_tup, g_sub, g_att, gs_nil, gs_cons, gs_tup, g_unl, i_L, i_T, i_S, i_R1, i_ES, i_E, i_Z, p_nil, p_pair, o_nil, o_k, o_v, o_bop, o_uop, o_bi, o_ix, oQ_int, o_att, o_call, i_ET, i_R2, x_K, x_w, x_fn, x_gv, x_tabs, x_mth, x_prp, x_fld, x_isi, x_kwo, x_dfl, x_xf, x_exm, x_eis, x_lt, x_lfn, x_smt, x_cmt, x_cvl, y_cvl, x_opr, y_opr, y_cmt, y_K, y_w, y_fn, y_gv, y_tabs, y_mth, y_prp, y_fld, y_isi, y_kwo, y_dfl, y_xf, y_exm, y_eis, y_smt, isi_int, isi_str, isi_bl, isi_non, ii1, ii2, ii3, ii4, ii5, ii6, ii7, it1, it2, it3, it4, it5, it6, it7, it8, it9, it10, it11, it12, it13, r_add, r_sub, r_mul, r_div, r_mod, r_pow, r_shl, r_shr, r_and, r_or, r_xor, r_neg, r_inv, r_lt, r_le, r_gt, r_ge, r_eqI, r_neI, r_eqS, r_neS, r_inS, r_niS, b_int, b_intB, b_abs, b_lenS, b_strS, r_addS, r_isN, r_eqB, r_neB, List.getElem?_cons_zero, List.getElem?_cons_succ, List.set_cons_zero, List.set_cons_succ, List.map_cons, List.map_nil, List.length_cons, List.length_nil, Nat.reduceAdd, Nat.reduceSub, List.replicate_succ, List.replicate_zero, List.cons_append, List.nil_append, List.append_nil, Bool.not_true, Bool.not_false, if_true, if_false, ite_true, ite_false, Bool.false_eq_true, Bool.true_eq_false, reduceIte]
  refine ⟨sz, ?_⟩
  rw [SX.S_len]
  try dsimp only
  rw [len_le.1, len_le.2, h1, h2]
  try simp only [e_k, e_v, e_g, e_bop, e_uop, e_not, e_and, e_or, e_ite, e_cmp, e_cmp2, e_lst, e_tup, e_call, e_mk, e_bi, e_isi, e_meth, e_bm, e_icall, e_ostr, e_att, e_ix, e_sl, e_isiM, e_methk, e_smeth, e_cmeth, e_mkv, e_mkk, kw_nil, e_oeq, e_eatt, e_eisi, e_one, e_rep, e_fmt, e_callk, e_xcmp, e_obin, e_oinv, e_oin, e_olen, e_obool, e_cat, e_fo3, e_rev, e_rgl, e_oeqs, t_v, t_isi, t_call, t_meth, t_bop, t_bi, t_att, t_not, t_and, t_or, t_cmp, t_cmp2, trQ_bl, blQ_bl, t_methk, t_smeth, t_oeq, t_eisi, t_ix, t_icall, t_one, t_callk, t_oin, t_obin, t_xcmp, t_oeqs, a_nil', a_cons, s_nil, s_cons, s_set, s_setLc, s_par, s_expr, s_ret, s_retN, s_if, s_never, s_pass, s_brk, s_cont, s_par3, s_oaug, s_raise, g_v', g_tup, g_sub, g_att, gs_nil, gs_cons, gs_tup, g_unl, i_L, i_T, i_S, i_R1, i_ES, i_E, i_Z, p_nil, p_pair, o_nil, o_k, o_v, o_bop, o_uop, o_bi, o_ix, oQ_int, o_att, o_call, i_ET, i_R2, x_K, x_w, x_fn, x_gv, x_tabs, x_mth, x_prp, x_fld, x_isi, x_kwo, x_dfl, x_xf, x_exm, x_eis, x_lt, x_lfn, x_smt, x_cmt, x_cvl, y_cvl, x_opr, y_opr, y_cmt, y_K, y_w, y_fn, y_gv, y_tabs, y_mth, y_prp, y_fld, y_isi, y_kwo, y_dfl, y_xf, y_exm, y_eis, y_smt, isi_int, isi_str, isi_bl, isi_non, ii1, ii2, ii3, ii4, ii5, ii6, ii7, it1, it2, it3, it4, it5, it6, it7, it8, it9, it10, it11, it12, it13, r_add, r_sub, r_mul, r_div, r_mod, r_pow, r_shl, r_shr, r_and, r_or, r_xor, r_neg, r_inv, r_lt, r_le, r_gt, r_ge, r_eqI, r_neI, r_eqS, r_neS, r_inS, r_niS, b_int, b_intB, b_abs, b_lenS, b_strS, r_addS, r_isN, r_eqB, r_neB, List.getElem?_cons_zero, List.getElem?_cons_succ, List.set_cons_zero, List.set_cons_succ, List.map_cons, List.map_nil, List.length_cons, List.length_nil, Nat.reduceAdd, Nat.reduceSub, List.replicate_succ, List.replicate_zero, List.cons_append, List.nil_append, List.append_nil, Bool.not_true, Bool.not_false, if_true, if_false, ite_true, ite_false, Bool.false_eq_true, Bool.true_eq_false, reduceIte]
  refine lc_mapv (xs := l.map fun c => V.str (S [c])) (ok := fun _ => True) (fIn abc) (fun R r => ?_) (fun H' x => trivial) (by rw [List.length_map, sizeLine_eq]; omega) ?_ ?_
  · rw [i_S, e_v]
    try simp only [e_k, e_v, e_g, e_bop, e_uop, e_not, e_and, e_or, e_ite, e_cmp, e_cmp2, e_lst, e_tup, e_call, e_mk, e_bi, e_isi, e_meth, e_bm, e_icall, e_ostr, e_att, e_ix, e_sl, e_isiM, e_methk, e_smeth, e_cmeth, e_mkv, e_mkk, kw_nil, e_oeq, e_eatt, e_eisi, e_one, e_rep, e_fmt, e_callk, e_xcmp, e_obin, e_oinv, e_oin, e_olen, e_obool, e_cat, e_fo3, e_rev, e_rgl, e_oeqs, t_v, t_isi, t_call, t_meth, t_bop, t_bi, t_att, t_not, t_and, t_or, t_cmp, t_cmp2, trQ_bl, blQ_bl, t_methk, t_smeth, t_oeq, t_eisi, t_ix, t_icall, t_one, t_callk, t_oin, t_obin, t_xcmp, t_oeqs, a_nil', a_cons, s_nil, s_cons, s_set, s_setLc, s_par, s_expr, s_ret, s_retN, s_if, s_never, s_pass, s_brk, s_cont, s_par3, s_oaug, s_raise, g_v', g_tup, g_sub, g_att, gs_nil, gs_cons, gs_tup, g_unl, i_L, i_T, i_S, i_R1, i_ES, i_E, i_Z, p_nil, p_pair, o_nil, o_k, o_v, o_bop, o_uop, o_bi, o_ix, oQ_int, o_att, o_call, i_ET, i_R2, x_K, x_w, x_fn, x_gv, x_tabs, x_mth, x_prp, x_fld, x_isi, x_kwo, x_dfl, x_xf, x_exm, x_eis, x_lt, x_lfn, x_smt, x_cmt, x_cvl, y_cvl, x_opr, y_opr, y_cmt, y_K, y_w, y_fn, y_gv, y_tabs, y_mth, y_prp, y_fld, y_isi, y_kwo, y_dfl, y_xf, y_exm, y_eis, y_smt, isi_int, isi_str, isi_bl, isi_non, ii1, ii2, ii3, ii4, ii5, ii6, ii7, it1, it2, it3, it4, it5, it6, it7, it8, it9, it10, it11, it12, it13, r_add, r_sub, r_mul, r_div, r_mod, r_pow, r_shl, r_shr, r_and, r_or, r_xor, r_neg, r_inv, r_lt, r_le, r_gt, r_ge, r_eqI, r_neI, r_eqS, r_neS, r_inS, r_niS, b_int, b_intB, b_abs, b_lenS, b_strS, r_addS, r_isN, r_eqB, r_neB, List.getElem?_cons_zero, List.getElem?_cons_succ, List.set_cons_zero, List.set_cons_succ, List.map_cons, List.map_nil, List.length_cons, List.length_nil, Nat.reduceAdd, Nat.reduceSub, List.replicate_succ, List.replicate_zero, List.cons_append, List.nil_append, List.append_nil, Bool.not_true, Bool.not_false, if_true, if_false, ite_true, ite_false, Bool.false_eq_true, Bool.true_eq_false, reduceIte]
    rw [List.map_map] at r
    exact r
  · intro x hx H' x1 P Pv h1 h2
    obtain ⟨c, _, rfl⟩ := List.mem_map.mp hx
    simp only [lcIf, gvA, for_nil, for_v, for_t, lc_nil, lc_v, lc_t, lc_turn0, lc_turn1, wipe_nil, wipe_cons, e_k, e_v, e_g, e_bop, e_uop, e_not, e_and, e_or, e_ite, e_cmp, e_cmp2, e_lst, e_tup, e_dic, e_call, e_mk, e_bi, e_isi, e_meth, e_bm, e_icall, e_ostr, e_att, e_ix, e_sl, e_lc, e_isiM, e_methk, e_smeth, e_cmeth, e_mkv, e_mkk, kw_nil, e_oeq, e_eatt, e_eisi, e_one, e_rep, e_fmt, e_callk, e_xcmp, e_obin, e_oinv, e_oin, e_olen, e_obool, e_cat, e_fo3, e_rev, e_rgl, e_oeqs, t_v, t_isi, t_call, t_meth, t_bop, t_bi, t_att, t_not, t_and, t_or, t_cmp, t_cmp2, trQ_bl, blQ_bl, t_methk, t_smeth, t_oeq, t_eisi, t_ix, t_icall, t_one, t_callk, t_oin, t_obin, t_xcmp, t_oeqs, a_nil', a_cons, s_nil, s_cons, s_set, s_setLc, s_par, s_expr, s_ret, s_retN, s_if, s_for, s_never, s_pass, s_brk, s_cont, s_par3, s_oaug, s_raise, g_v', g_tup, g_sub, g_att, gs_nil, gs_cons, gs_tup, g_unl, i_L, i_T, i_S, i_R1, i_ES, i_E, i_Z, p_nil, p_pair, o_nil, o_k, o_v, o_bop, o_uop, o_bi, o_ix, oQ_int, o_att, o_call, i_ET, i_R2, x_K, x_w, x_fn, x_gv, x_tabs, x_mth, x_prp, x_fld, x_isi, x_kwo, x_dfl, x_xf, x_exm, x_eis, x_lt, x_lfn, x_smt, x_cmt, x_cvl, y_cvl, x_opr, y_opr, y_cmt, y_K, y_w, y_fn, y_gv, y_tabs, y_mth, y_prp, y_fld, y_isi, y_kwo, y_dfl, y_xf, y_exm, y_eis, y_smt, isi_int, isi_str, isi_bl, isi_non, ii1, ii2, ii3, ii4, ii5, ii6, ii7, it1, it2, it3, it4, it5, it6, it7, it8, it9, it10, it11, it12, it13, r_add, r_sub, r_mul, r_div, r_mod, r_pow, r_shl, r_shr, r_and, r_or, r_xor, r_neg, r_inv, r_lt, r_le, r_gt, r_ge, r_eqI, r_neI, r_eqS, r_neS, r_inS, r_niS, b_int, b_intB, b_abs, b_lenS, b_strS, r_addS, r_isN, r_eqB, r_neB, List.getElem?_cons_zero, List.getElem?_cons_succ, List.set_cons_zero, List.set_cons_succ, List.map_cons, List.map_nil, List.length_cons, List.length_nil, Nat.reduceAdd, Nat.reduceSub, List.replicate_succ, List.replicate_zero, List.cons_append, List.nil_append, List.append_nil, Bool.not_true, Bool.not_false, if_true, if_false, ite_true, ite_false, Bool.false_eq_true, Bool.true_eq_false, reduceIte]
    rw [show inS (S [c]) (S abc) = decide (c ∈ abc) from rfl, Bool.false_xor]
    exact h1 _ rfl H' Ext.refl
  · intro p H1 x1 e1
    have e : (l.map fun c => V.str (S [c])).filterMap (fIn abc) = (l.map fun c => decide (c ∈ abc)).map V.bl := by
      rw [List.filterMap_map, List.map_map, ← List.filterMap_eq_map]
      rfl
    rw [e] at e1
    refine ⟨_, .inl (.inl e1), ?_⟩
    have e2 : (l.map fun c => decide (c ∈ abc)).all id = true := by rw [List.all_map]; exact h3
    rw [e2]
    exact h H1 x1
abbrev stV (gs : List (List Nat)) : List V := gs.map fun l => V.str (S l)
theorem flat_strs (l : List (List Nat)) : (stV l).all flatV = true := by
  rw [List.all_eq_true]
  intro x hx
  obtain ⟨i, _, rfl⟩ := List.mem_map.mp hx
  rfl
theorem inV_strs {z : List Nat} : ∀ {l : List (List Nat)}, inV (.str (S z)) (stV l) = l.contains z
  | [] => rfl
  | a :: l => by
    show (eqV (V.str (S a)) (V.str (S z)) || inV (.str (S z)) (stV l)) = _
    rw [inV_strs, List.contains_cons]
    show ((S a == S z) || _) = _
    rw [SX.S_beq, show (a == z) = (z == a) from BEq.comm]
theorem c_pickL {p l q : Addr} {xs : List V} (hP : PenL H p l (m + 1)) (hn : 2 ≤ n) (hq : SqL K H q xs) (hne : q ≠ p) (hl : 1 ≤ xs.length ∧ xs.length ≤ 100000) (h : ∀ (i : Nat) (v : V) H', xs[i]? = some v → PenL H' p l m → ExtP p H H' → Q v H') : run hd.pg K w n s__law_pick [.ref p, .ref q] H Q E := by
  refine run_at f__law_pick (by omega) rfl ?_
  simp only [d__law_pick, b__law_pick, L2.start, e_k, e_v, e_g, e_bop, e_uop, e_not, e_and, e_or, e_ite, e_cmp, e_cmp2, e_lst, e_tup, e_dic, e_call, e_mk, e_bi, e_isi, e_meth, e_bm, e_icall, e_ostr, e_att, e_ix, e_sl, e_lc, e_isiM, e_methk, e_smeth, e_cmeth, e_mkv, e_mkk, kw_nil, e_oeq, e_eatt, e_eisi, e_one, e_rep, e_fmt, e_callk, e_xcmp, e_obin, e_oinv, e_oin, e_olen, e_obool, e_cat, e_fo3, e_rev, e_rgl, e_oeqs, t_v, t_isi, t_call, t_meth, t_bop, t_bi, t_att, t_not, t_and, t_or, t_cmp, t_cmp2, trQ_bl, blQ_bl, t_methk, t_smeth, t_oeq, t_eisi, t_ix, t_icall, t_one, t_callk, t_oin, t_obin, t_xcmp, t_oeqs, a_nil', a_cons, s_nil, s_cons, s_set, s_setLc, s_par, s_expr, s_ret, s_retN, s_if, s_for, s_never, s_pass, s_brk, s_cont, s_par3, s_oaug, s_raise, g_v', g_tup, g_sub, g_att, gs_nil, gs_cons, gs_tup, g_unl, i_L, i_T, i_S, i_R1, i_ES, i_E, i_Z, p_nil, p_pair, o_nil, o_k, o_v, o_bop, o_uop, o_bi, o_ix, oQ_int, o_att, o_call, i_ET, i_R2, x_K, x_w, x_fn, x_gv, x_tabs, x_mth, x_prp, x_fld, x_isi, x_kwo, x_dfl, x_xf, x_exm, x_eis, x_lt, x_lfn, x_smt, x_cmt, x_cvl, y_cvl, x_opr, y_opr, y_cmt, y_K, y_w, y_fn, y_gv, y_tabs, y_mth, y_prp, y_fld, y_isi, y_kwo, y_dfl, y_xf, y_exm, y_eis, y_smt, isi_int, isi_str, isi_bl, isi_non, ii1, ii2, ii3, ii4, ii5, ii6, ii7, it1, it2, it3, it4, it5, it6, it7, it8, it9, it10, it11, it12, it13, r_add, r_sub, r_mul, r_div, r_mod, r_pow, r_shl, r_shr, r_and, r_or, r_xor, r_neg, r_inv, r_lt, r_le, r_gt, r_ge, r_eqI, r_neI, r_eqS, r_neS, r_inS, r_niS, b_int, b_intB, b_abs, b_lenS, b_strS, r_addS, r_isN, r_eqB, r_neB, List.getElem?_cons_zero, List.getElem?_cons_succ, List.set_cons_zero, List.set_cons_succ, List.map_cons, List.map_nil, List.length_cons, List.length_nil, Nat.reduceAdd, Nat.reduceSub, List.replicate_succ, List.replicate_zero, List.cons_append, List.nil_append, List.append_nil, Bool.not_true, Bool.not_false, if_true, if_false, ite_true, ite_false, Bool.false_eq_true, Bool.true_eq_false, reduceIte]
  refine b_lenL hq ?_
  refine c_drawL hP (by omega) ⟨by omega, by omega⟩ fun i H1 h0 h1 P1 x1 => ?_
  obtain ⟨j, rfl⟩ : ∃ j : Nat, i = j := ⟨i.toNat, by omega⟩
  have hq1 : SqL K H1 q xs := by
    rcases hq with (hq | ⟨z, hq⟩) | hq
    · exact .inl (.inl (x1.get hne hq))
    · exact .inl (.inr ⟨z, x1.get hne hq⟩)
    · exact .inr hq
  have hj : j < xs.length := by omega
  refine x_ixL hq1 (atI_nat (List.getElem?_eq_getElem hj)) ?_
  exact h j _ H1 (List.getElem?_eq_getElem hj) P1 x1
theorem gv1 : hd.pg.gv K s_GREATEST = some (.int 511) := rfl
theorem xf1 : hd.pg.xf s_BadMode = some [s_part] := rfl
abbrev tNumber : List Nat := [110, 117, 109, 98, 101, 114]
theorem c_is_integer {t lo hi : Int} (hn : 1 ≤ n) (h : Q (.bl (decide (lo ≤ t ∧ t ≤ hi))) H) : run hd.pg K w n s_is_integer [.int t, .int lo, .int hi] H Q E := by
  refine run_at f_is_integer hn rfl ?_
  simp only [d_is_integer, b_is_integer, L2.start, e_k, e_v, e_g, e_bop, e_uop, e_not, e_and, e_or, e_ite, e_cmp, e_cmp2, e_lst, e_tup, e_dic, e_call, e_mk, e_bi, e_isi, e_meth, e_bm, e_icall, e_ostr, e_att, e_ix, e_sl, e_lc, e_isiM, e_methk, e_smeth, e_cmeth, e_mkv, e_mkk, kw_nil, e_oeq, e_eatt, e_eisi, e_one, e_rep, e_fmt, e_callk, e_xcmp, e_obin, e_oinv, e_oin, e_olen, e_obool, e_cat, e_fo3, e_rev, e_rgl, e_oeqs, t_v, t_isi, t_call, t_meth, t_bop, t_bi, t_att, t_not, t_and, t_or, t_cmp, t_cmp2, trQ_bl, blQ_bl, t_methk, t_smeth, t_oeq, t_eisi, t_ix, t_icall, t_one, t_callk, t_oin, t_obin, t_xcmp, t_oeqs, a_nil', a_cons, s_nil, s_cons, s_set, s_setLc, s_par, s_expr, s_ret, s_retN, s_if, s_for, s_never, s_pass, s_brk, s_cont, s_par3, s_oaug, s_raise, g_v', g_tup, g_sub, g_att, gs_nil, gs_cons, gs_tup, g_unl, i_L, i_T, i_S, i_R1, i_ES, i_E, i_Z, p_nil, p_pair, o_nil, o_k, o_v, o_bop, o_uop, o_bi, o_ix, oQ_int, o_att, o_call, i_ET, i_R2, x_K, x_w, x_fn, x_gv, x_tabs, x_mth, x_prp, x_fld, x_isi, x_kwo, x_dfl, x_xf, x_exm, x_eis, x_lt, x_lfn, x_smt, x_cmt, x_cvl, y_cvl, x_opr, y_opr, y_cmt, y_K, y_w, y_fn, y_gv, y_tabs, y_mth, y_prp, y_fld, y_isi, y_kwo, y_dfl, y_xf, y_exm, y_eis, y_smt, isi_int, isi_str, isi_bl, isi_non, ii1, ii2, ii3, ii4, ii5, ii6, ii7, it1, it2, it3, it4, it5, it6, it7, it8, it9, it10, it11, it12, it13, r_add, r_sub, r_mul, r_div, r_mod, r_pow, r_shl, r_shr, r_and, r_or, r_xor, r_neg, r_inv, r_lt, r_le, r_gt, r_ge, r_eqI, r_neI, r_eqS, r_neS, r_inS, r_niS, b_int, b_intB, b_abs, b_lenS, b_strS, r_addS, r_isN, r_eqB, r_neB, List.getElem?_cons_zero, List.getElem?_cons_succ, List.set_cons_zero, List.set_cons_succ, List.map_cons, List.map_nil, List.length_cons, List.length_nil, Nat.reduceAdd, Nat.reduceSub, List.replicate_succ, List.replicate_zero, List.cons_append, List.nil_append, List.append_nil, Bool.not_true, Bool.not_false, if_true, if_false, ite_true, ite_false, Bool.false_eq_true, Bool.true_eq_false, reduceIte]
  by_cases h1 : lo ≤ t <;> by_cases h2 : t ≤ hi <;> simp [h1, h2] at h ⊢ <;> exact h
theorem c_Mode_number {m dx : Addr} {v : V} (hn : 1 ≤ n) (hm : H m = some (.ins (He.ga K s_Mode) dx [(s_bits, v)])) (h : Q v H) : run hd.pg K w n s_Mode_number [.ref m] H Q E := by
  refine run_at f_Mode_number hn rfl ?_
  simp only [d_Mode_number, b_Mode_number, L2.start, e_k, e_v, e_g, e_bop, e_uop, e_not, e_and, e_or, e_ite, e_cmp, e_cmp2, e_lst, e_tup, e_dic, e_call, e_mk, e_bi, e_isi, e_meth, e_bm, e_icall, e_ostr, e_att, e_ix, e_sl, e_lc, e_isiM, e_methk, e_smeth, e_cmeth, e_mkv, e_mkk, kw_nil, e_oeq, e_eatt, e_eisi, e_one, e_rep, e_fmt, e_callk, e_xcmp, e_obin, e_oinv, e_oin, e_olen, e_obool, e_cat, e_fo3, e_rev, e_rgl, e_oeqs, t_v, t_isi, t_call, t_meth, t_bop, t_bi, t_att, t_not, t_and, t_or, t_cmp, t_cmp2, trQ_bl, blQ_bl, t_methk, t_smeth, t_oeq, t_eisi, t_ix, t_icall, t_one, t_callk, t_oin, t_obin, t_xcmp, t_oeqs, a_nil', a_cons, s_nil, s_cons, s_set, s_setLc, s_par, s_expr, s_ret, s_retN, s_if, s_for, s_never, s_pass, s_brk, s_cont, s_par3, s_oaug, s_raise, g_v', g_tup, g_sub, g_att, gs_nil, gs_cons, gs_tup, g_unl, i_L, i_T, i_S, i_R1, i_ES, i_E, i_Z, p_nil, p_pair, o_nil, o_k, o_v, o_bop, o_uop, o_bi, o_ix, oQ_int, o_att, o_call, i_ET, i_R2, x_K, x_w, x_fn, x_gv, x_tabs, x_mth, x_prp, x_fld, x_isi, x_kwo, x_dfl, x_xf, x_exm, x_eis, x_lt, x_lfn, x_smt, x_cmt, x_cvl, y_cvl, x_opr, y_opr, y_cmt, y_K, y_w, y_fn, y_gv, y_tabs, y_mth, y_prp, y_fld, y_isi, y_kwo, y_dfl, y_xf, y_exm, y_eis, y_smt, isi_int, isi_str, isi_bl, isi_non, ii1, ii2, ii3, ii4, ii5, ii6, ii7, it1, it2, it3, it4, it5, it6, it7, it8, it9, it10, it11, it12, it13, r_add, r_sub, r_mul, r_div, r_mod, r_pow, r_shl, r_shr, r_and, r_or, r_xor, r_neg, r_inv, r_lt, r_le, r_gt, r_ge, r_eqI, r_neI, r_eqS, r_neS, r_inS, r_niS, b_int, b_intB, b_abs, b_lenS, b_strS, r_addS, r_isN, r_eqB, r_neB, List.getElem?_cons_zero, List.getElem?_cons_succ, List.set_cons_zero, List.set_cons_succ, List.map_cons, List.map_nil, List.length_cons, List.length_nil, Nat.reduceAdd, Nat.reduceSub, List.replicate_succ, List.replicate_zero, List.cons_append, List.nil_append, List.append_nil, Bool.not_true, Bool.not_false, if_true, if_false, ite_true, ite_false, Bool.false_eq_true, Bool.true_eq_false, reduceIte]
  exact x_fldv hm rfl rfl h
def IsM (K : PySem.W.Frag) (H : Hp) (m : Addr) (b : Int) : Prop := ∃ dx, H m = some (.ins (He.ga K s_Mode) dx [(s_bits, .int b)])
theorem mth1 : hd.pg.mth s_Mode "__init__" = some s_Mode___init__ := by decide +kernel
theorem mk_Mode {Q' : Addr → Hp → Prop} {b : Int} (hn : 2 ≤ n) (hb : 0 ≤ b ∧ b ≤ 511) (h : ∀ x H', Ext H H' → IsM K H' x b → Q' x H') :
    ∀ x dx, H x = none → H dx = none → dx ≠ x → ∃ key, hd.pg.mth s_Mode "__init__" = some key ∧ run hd.pg K w n key [.ref x, .int b] (upd (upd H dx (.own x)) x (.ins (He.ga K s_Mode) dx [])) (fun v H2 => v = .non ∧ Q' x H2) E := by
  intro x dx hx hdx hne
  refine ⟨_, mth1, ?_⟩
  refine run_at f_Mode___init__ (by omega) rfl ?_
  simp only [d_Mode___init__, b_Mode___init__, L2.start, gv1, e_k, e_v, e_g, e_bop, e_uop, e_not, e_and, e_or, e_ite, e_cmp, e_cmp2, e_lst, e_tup, e_dic, e_call, e_mk, e_bi, e_isi, e_meth, e_bm, e_icall, e_ostr, e_att, e_ix, e_sl, e_lc, e_isiM, e_methk, e_smeth, e_cmeth, e_mkv, e_mkk, kw_nil, e_oeq, e_eatt, e_eisi, e_one, e_rep, e_fmt, e_callk, e_xcmp, e_obin, e_oinv, e_oin, e_olen, e_obool, e_cat, e_fo3, e_rev, e_rgl, e_oeqs, t_v, t_isi, t_call, t_meth, t_bop, t_bi, t_att, t_not, t_and, t_or, t_cmp, t_cmp2, trQ_bl, blQ_bl, t_methk, t_smeth, t_oeq, t_eisi, t_ix, t_icall, t_one, t_callk, t_oin, t_obin, t_xcmp, t_oeqs, a_nil', a_cons, s_nil, s_cons, s_set, s_setLc, s_par, s_expr, s_ret, s_retN, s_if, s_for, s_never, s_pass, s_brk, s_cont, s_par3, s_oaug, s_raise, g_v', g_tup, g_sub, g_att, gs_nil, gs_cons, gs_tup, g_unl, i_L, i_T, i_S, i_R1, i_ES, i_E, i_Z, p_nil, p_pair, o_nil, o_k, o_v, o_bop, o_uop, o_bi, o_ix, oQ_int, o_att, o_call, i_ET, i_R2, x_K, x_w, x_fn, x_gv, x_tabs, x_mth, x_prp, x_fld, x_isi, x_kwo, x_dfl, x_xf, x_exm, x_eis, x_lt, x_lfn, x_smt, x_cmt, x_cvl, y_cvl, x_opr, y_opr, y_cmt, y_K, y_w, y_fn, y_gv, y_tabs, y_mth, y_prp, y_fld, y_isi, y_kwo, y_dfl, y_xf, y_exm, y_eis, y_smt, isi_int, isi_str, isi_bl, isi_non, ii1, ii2, ii3, ii4, ii5, ii6, ii7, it1, it2, it3, it4, it5, it6, it7, it8, it9, it10, it11, it12, it13, r_add, r_sub, r_mul, r_div, r_mod, r_pow, r_shl, r_shr, r_and, r_or, r_xor, r_neg, r_inv, r_lt, r_le, r_gt, r_ge, r_eqI, r_neI, r_eqS, r_neS, r_inS, r_niS, b_int, b_intB, b_abs, b_lenS, b_strS, r_addS, r_isN, r_eqB, r_neB, List.getElem?_cons_zero, List.getElem?_cons_succ, List.set_cons_zero, List.set_cons_succ, List.map_cons, List.map_nil, List.length_cons, List.length_nil, Nat.reduceAdd, Nat.reduceSub, List.replicate_succ, List.replicate_zero, List.cons_append, List.nil_append, List.append_nil, Bool.not_true, Bool.not_false, if_true, if_false, ite_true, ite_false, Bool.false_eq_true, Bool.true_eq_false, reduceIte]
  refine c_is_integer (by omega) ?_
  simp only [hb, decide_true, true_and, and_true, upd_same, upd_upd, Option.some.injEq, HO.lst.injEq, HO.tup.injEq, HO.dK.injEq, exists_eq_left', List.singleton_append, Int.cast_ofNat_Int, e_k, e_v, e_g, e_bop, e_uop, e_not, e_and, e_or, e_ite, e_cmp, e_cmp2, e_lst, e_tup, e_dic, e_call, e_mk, e_bi, e_isi, e_meth, e_bm, e_icall, e_ostr, e_att, e_ix, e_sl, e_lc, e_isiM, e_methk, e_smeth, e_cmeth, e_mkv, e_mkk, kw_nil, e_oeq, e_eatt, e_eisi, e_one, e_rep, e_fmt, e_callk, e_xcmp, e_obin, e_oinv, e_oin, e_olen, e_obool, e_cat, e_fo3, e_rev, e_rgl, e_oeqs, t_v, t_isi, t_call, t_meth, t_bop, t_bi, t_att, t_not, t_and, t_or, t_cmp, t_cmp2, trQ_bl, blQ_bl, t_methk, t_smeth, t_oeq, t_eisi, t_ix, t_icall, t_one, t_callk, t_oin, t_obin, t_xcmp, t_oeqs, a_nil', a_cons, s_nil, s_cons, s_set, s_setLc, s_par, s_expr, s_ret, s_retN, s_if, s_for, s_never, s_pass, s_brk, s_cont, s_par3, s_oaug, s_raise, g_v', g_tup, g_sub, g_att, gs_nil, gs_cons, gs_tup, g_unl, i_L, i_T, i_S, i_R1, i_ES, i_E, i_Z, p_nil, p_pair, o_nil, o_k, o_v, o_bop, o_uop, o_bi, o_ix, oQ_int, o_att, o_call, i_ET, i_R2, x_K, x_w, x_fn, x_gv, x_tabs, x_mth, x_prp, x_fld, x_isi, x_kwo, x_dfl, x_xf, x_exm, x_eis, x_lt, x_lfn, x_smt, x_cmt, x_cvl, y_cvl, x_opr, y_opr, y_cmt, y_K, y_w, y_fn, y_gv, y_tabs, y_mth, y_prp, y_fld, y_isi, y_kwo, y_dfl, y_xf, y_exm, y_eis, y_smt, isi_int, isi_str, isi_bl, isi_non, ii1, ii2, ii3, ii4, ii5, ii6, ii7, it1, it2, it3, it4, it5, it6, it7, it8, it9, it10, it11, it12, it13, r_add, r_sub, r_mul, r_div, r_mod, r_pow, r_shl, r_shr, r_and, r_or, r_xor, r_neg, r_inv, r_lt, r_le, r_gt, r_ge, r_eqI, r_neI, r_eqS, r_neS, r_inS, r_niS, b_int, b_intB, b_abs, b_lenS, b_strS, r_addS, r_isN, r_eqB, r_neB, List.getElem?_cons_zero, List.getElem?_cons_succ, List.set_cons_zero, List.set_cons_succ, List.map_cons, List.map_nil, List.length_cons, List.length_nil, Nat.reduceAdd, Nat.reduceSub, List.replicate_succ, List.replicate_zero, List.cons_append, List.nil_append, List.append_nil, Bool.not_true, Bool.not_false, if_true, if_false, ite_true, ite_false, Bool.false_eq_true, Bool.true_eq_false, reduceIte]
  refine ⟨s_Mode, dx, [], rfl, rfl, by decide, ?_⟩
  refine h x _ ?_ ⟨dx, upd_same⟩
  exact fun a o e => by
    rw [upd_ne (ne_of_none e hx), upd_ne (ne_of_none e hdx)]
    exact e
/-- a mode or its number -/
def AsN (K : PySem.W.Frag) (H : Hp) (v : V) (b : Int) : Prop := (∃ m, v = .ref m ∧ IsM K H m b) ∨ v = .int b
theorem c_number_of {v : V} {b : Int} (hb : 0 ≤ b ∧ b ≤ 511) (hv : AsN K H v b) (hn : 2 ≤ n) (h : Q (.int b) H) : run hd.pg K w n s_number_of [v] H Q E := by
  refine run_at f_number_of (by omega) rfl ?_
  simp only [d_number_of, b_number_of, L2.start, gv1, e_k, e_v, e_g, e_bop, e_uop, e_not, e_and, e_or, e_ite, e_cmp, e_cmp2, e_lst, e_tup, e_dic, e_call, e_mk, e_bi, e_isi, e_meth, e_bm, e_icall, e_ostr, e_att, e_ix, e_sl, e_lc, e_isiM, e_methk, e_smeth, e_cmeth, e_mkv, e_mkk, kw_nil, e_oeq, e_eatt, e_eisi, e_one, e_rep, e_fmt, e_callk, e_xcmp, e_obin, e_oinv, e_oin, e_olen, e_obool, e_cat, e_fo3, e_rev, e_rgl, e_oeqs, t_v, t_isi, t_call, t_meth, t_bop, t_bi, t_att, t_not, t_and, t_or, t_cmp, t_cmp2, trQ_bl, blQ_bl, t_methk, t_smeth, t_oeq, t_eisi, t_ix, t_icall, t_one, t_callk, t_oin, t_obin, t_xcmp, t_oeqs, a_nil', a_cons, s_nil, s_cons, s_set, s_setLc, s_par, s_expr, s_ret, s_retN, s_if, s_for, s_never, s_pass, s_brk, s_cont, s_par3, s_oaug, s_raise, g_v', g_tup, g_sub, g_att, gs_nil, gs_cons, gs_tup, g_unl, i_L, i_T, i_S, i_R1, i_ES, i_E, i_Z, p_nil, p_pair, o_nil, o_k, o_v, o_bop, o_uop, o_bi, o_ix, oQ_int, o_att, o_call, i_ET, i_R2, x_K, x_w, x_fn, x_gv, x_tabs, x_mth, x_prp, x_fld, x_isi, x_kwo, x_dfl, x_xf, x_exm, x_eis, x_lt, x_lfn, x_smt, x_cmt, x_cvl, y_cvl, x_opr, y_opr, y_cmt, y_K, y_w, y_fn, y_gv, y_tabs, y_mth, y_prp, y_fld, y_isi, y_kwo, y_dfl, y_xf, y_exm, y_eis, y_smt, isi_int, isi_str, isi_bl, isi_non, ii1, ii2, ii3, ii4, ii5, ii6, ii7, it1, it2, it3, it4, it5, it6, it7, it8, it9, it10, it11, it12, it13, r_add, r_sub, r_mul, r_div, r_mod, r_pow, r_shl, r_shr, r_and, r_or, r_xor, r_neg, r_inv, r_lt, r_le, r_gt, r_ge, r_eqI, r_neI, r_eqS, r_neS, r_inS, r_niS, b_int, b_intB, b_abs, b_lenS, b_strS, r_addS, r_isN, r_eqB, r_neB, List.getElem?_cons_zero, List.getElem?_cons_succ, List.set_cons_zero, List.set_cons_succ, List.map_cons, List.map_nil, List.length_cons, List.length_nil, Nat.reduceAdd, Nat.reduceSub, List.replicate_succ, List.replicate_zero, List.cons_append, List.nil_append, List.append_nil, Bool.not_true, Bool.not_false, if_true, if_false, ite_true, ite_false, Bool.false_eq_true, Bool.true_eq_false, reduceIte]
  rcases hv with ⟨m, rfl, hm⟩ | rfl
  · obtain ⟨dx, hmr⟩ := id hm
    refine isi_own (cn := s_Mode) (b := true) hmr rfl ?_
    simp only [e_k, e_v, e_g, e_bop, e_uop, e_not, e_and, e_or, e_ite, e_cmp, e_cmp2, e_lst, e_tup, e_dic, e_call, e_mk, e_bi, e_isi, e_meth, e_bm, e_icall, e_ostr, e_att, e_ix, e_sl, e_lc, e_isiM, e_methk, e_smeth, e_cmeth, e_mkv, e_mkk, kw_nil, e_oeq, e_eatt, e_eisi, e_one, e_rep, e_fmt, e_callk, e_xcmp, e_obin, e_oinv, e_oin, e_olen, e_obool, e_cat, e_fo3, e_rev, e_rgl, e_oeqs, t_v, t_isi, t_call, t_meth, t_bop, t_bi, t_att, t_not, t_and, t_or, t_cmp, t_cmp2, trQ_bl, blQ_bl, t_methk, t_smeth, t_oeq, t_eisi, t_ix, t_icall, t_one, t_callk, t_oin, t_obin, t_xcmp, t_oeqs, a_nil', a_cons, s_nil, s_cons, s_set, s_setLc, s_par, s_expr, s_ret, s_retN, s_if, s_for, s_never, s_pass, s_brk, s_cont, s_par3, s_oaug, s_raise, g_v', g_tup, g_sub, g_att, gs_nil, gs_cons, gs_tup, g_unl, i_L, i_T, i_S, i_R1, i_ES, i_E, i_Z, p_nil, p_pair, o_nil, o_k, o_v, o_bop, o_uop, o_bi, o_ix, oQ_int, o_att, o_call, i_ET, i_R2, x_K, x_w, x_fn, x_gv, x_tabs, x_mth, x_prp, x_fld, x_isi, x_kwo, x_dfl, x_xf, x_exm, x_eis, x_lt, x_lfn, x_smt, x_cmt, x_cvl, y_cvl, x_opr, y_opr, y_cmt, y_K, y_w, y_fn, y_gv, y_tabs, y_mth, y_prp, y_fld, y_isi, y_kwo, y_dfl, y_xf, y_exm, y_eis, y_smt, isi_int, isi_str, isi_bl, isi_non, ii1, ii2, ii3, ii4, ii5, ii6, ii7, it1, it2, it3, it4, it5, it6, it7, it8, it9, it10, it11, it12, it13, r_add, r_sub, r_mul, r_div, r_mod, r_pow, r_shl, r_shr, r_and, r_or, r_xor, r_neg, r_inv, r_lt, r_le, r_gt, r_ge, r_eqI, r_neI, r_eqS, r_neS, r_inS, r_niS, b_int, b_intB, b_abs, b_lenS, b_strS, r_addS, r_isN, r_eqB, r_neB, List.getElem?_cons_zero, List.getElem?_cons_succ, List.set_cons_zero, List.set_cons_succ, List.map_cons, List.map_nil, List.length_cons, List.length_nil, Nat.reduceAdd, Nat.reduceSub, List.replicate_succ, List.replicate_zero, List.cons_append, List.nil_append, List.append_nil, Bool.not_true, Bool.not_false, if_true, if_false, ite_true, ite_false, Bool.false_eq_true, Bool.true_eq_false, reduceIte]
    exact x_prpv hmr rfl (c_Mode_number (by omega) hmr h)
  · simp only [show [CR.own s_Mode].any (isiT "int") = false by decide +kernel, e_k, e_v, e_g, e_bop, e_uop, e_not, e_and, e_or, e_ite, e_cmp, e_cmp2, e_lst, e_tup, e_dic, e_call, e_mk, e_bi, e_isi, e_meth, e_bm, e_icall, e_ostr, e_att, e_ix, e_sl, e_lc, e_isiM, e_methk, e_smeth, e_cmeth, e_mkv, e_mkk, kw_nil, e_oeq, e_eatt, e_eisi, e_one, e_rep, e_fmt, e_callk, e_xcmp, e_obin, e_oinv, e_oin, e_olen, e_obool, e_cat, e_fo3, e_rev, e_rgl, e_oeqs, t_v, t_isi, t_call, t_meth, t_bop, t_bi, t_att, t_not, t_and, t_or, t_cmp, t_cmp2, trQ_bl, blQ_bl, t_methk, t_smeth, t_oeq, t_eisi, t_ix, t_icall, t_one, t_callk, t_oin, t_obin, t_xcmp, t_oeqs, a_nil', a_cons, s_nil, s_cons, s_set, s_setLc, s_par, s_expr, s_ret, s_retN, s_if, s_for, s_never, s_pass, s_brk, s_cont, s_par3, s_oaug, s_raise, g_v', g_tup, g_sub, g_att, gs_nil, gs_cons, gs_tup, g_unl, i_L, i_T, i_S, i_R1, i_ES, i_E, i_Z, p_nil, p_pair, o_nil, o_k, o_v, o_bop, o_uop, o_bi, o_ix, oQ_int, o_att, o_call, i_ET, i_R2, x_K, x_w, x_fn, x_gv, x_tabs, x_mth, x_prp, x_fld, x_isi, x_kwo, x_dfl, x_xf, x_exm, x_eis, x_lt, x_lfn, x_smt, x_cmt, x_cvl, y_cvl, x_opr, y_opr, y_cmt, y_K, y_w, y_fn, y_gv, y_tabs, y_mth, y_prp, y_fld, y_isi, y_kwo, y_dfl, y_xf, y_exm, y_eis, y_smt, isi_int, isi_str, isi_bl, isi_non, ii1, ii2, ii3, ii4, ii5, ii6, ii7, it1, it2, it3, it4, it5, it6, it7, it8, it9, it10, it11, it12, it13, r_add, r_sub, r_mul, r_div, r_mod, r_pow, r_shl, r_shr, r_and, r_or, r_xor, r_neg, r_inv, r_lt, r_le, r_gt, r_ge, r_eqI, r_neI, r_eqS, r_neS, r_inS, r_niS, b_int, b_intB, b_abs, b_lenS, b_strS, r_addS, r_isN, r_eqB, r_neB, List.getElem?_cons_zero, List.getElem?_cons_succ, List.set_cons_zero, List.set_cons_succ, List.map_cons, List.map_nil, List.length_cons, List.length_nil, Nat.reduceAdd, Nat.reduceSub, List.replicate_succ, List.replicate_zero, List.cons_append, List.nil_append, List.append_nil, Bool.not_true, Bool.not_false, if_true, if_false, ite_true, ite_false, Bool.false_eq_true, Bool.true_eq_false, reduceIte]
    refine c_is_integer (by omega) ?_
    simp only [hb, and_self, decide_true, e_k, e_v, e_g, e_bop, e_uop, e_not, e_and, e_or, e_ite, e_cmp, e_cmp2, e_lst, e_tup, e_dic, e_call, e_mk, e_bi, e_isi, e_meth, e_bm, e_icall, e_ostr, e_att, e_ix, e_sl, e_lc, e_isiM, e_methk, e_smeth, e_cmeth, e_mkv, e_mkk, kw_nil, e_oeq, e_eatt, e_eisi, e_one, e_rep, e_fmt, e_callk, e_xcmp, e_obin, e_oinv, e_oin, e_olen, e_obool, e_cat, e_fo3, e_rev, e_rgl, e_oeqs, t_v, t_isi, t_call, t_meth, t_bop, t_bi, t_att, t_not, t_and, t_or, t_cmp, t_cmp2, trQ_bl, blQ_bl, t_methk, t_smeth, t_oeq, t_eisi, t_ix, t_icall, t_one, t_callk, t_oin, t_obin, t_xcmp, t_oeqs, a_nil', a_cons, s_nil, s_cons, s_set, s_setLc, s_par, s_expr, s_ret, s_retN, s_if, s_for, s_never, s_pass, s_brk, s_cont, s_par3, s_oaug, s_raise, g_v', g_tup, g_sub, g_att, gs_nil, gs_cons, gs_tup, g_unl, i_L, i_T, i_S, i_R1, i_ES, i_E, i_Z, p_nil, p_pair, o_nil, o_k, o_v, o_bop, o_uop, o_bi, o_ix, oQ_int, o_att, o_call, i_ET, i_R2, x_K, x_w, x_fn, x_gv, x_tabs, x_mth, x_prp, x_fld, x_isi, x_kwo, x_dfl, x_xf, x_exm, x_eis, x_lt, x_lfn, x_smt, x_cmt, x_cvl, y_cvl, x_opr, y_opr, y_cmt, y_K, y_w, y_fn, y_gv, y_tabs, y_mth, y_prp, y_fld, y_isi, y_kwo, y_dfl, y_xf, y_exm, y_eis, y_smt, isi_int, isi_str, isi_bl, isi_non, ii1, ii2, ii3, ii4, ii5, ii6, ii7, it1, it2, it3, it4, it5, it6, it7, it8, it9, it10, it11, it12, it13, r_add, r_sub, r_mul, r_div, r_mod, r_pow, r_shl, r_shr, r_and, r_or, r_xor, r_neg, r_inv, r_lt, r_le, r_gt, r_ge, r_eqI, r_neI, r_eqS, r_neS, r_inS, r_niS, b_int, b_intB, b_abs, b_lenS, b_strS, r_addS, r_isN, r_eqB, r_neB, List.getElem?_cons_zero, List.getElem?_cons_succ, List.set_cons_zero, List.set_cons_succ, List.map_cons, List.map_nil, List.length_cons, List.length_nil, Nat.reduceAdd, Nat.reduceSub, List.replicate_succ, List.replicate_zero, List.cons_append, List.nil_append, List.append_nil, Bool.not_true, Bool.not_false, if_true, if_false, ite_true, ite_false, Bool.false_eq_true, Bool.true_eq_false, reduceIte]
    exact h
theorem gv2 : hd.pg.gv K s_PLACES = some (.ref (He.ga K s_PLACES)) := rfl
theorem tb1 : (⟨fun K => He.ga K s_PLACES, [(S [114], V.int 2), (S [119], V.int 1), (S [120], V.int 0)]⟩ : KTab) ∈ hd.pg.tabs := by first | exact List.Mem.head _ | exact List.Mem.tail _ (List.Mem.head _) | exact List.Mem.tail _ (List.Mem.tail _ (List.Mem.head _))
theorem c_place_of {c : Nat} {p : Int} (hn : 1 ≤ n) (hc : (c, p) ∈ [(114, 2), (119, 1), (120, (0 : Int))]) (h : Q (.int p) H) : run hd.pg K w n s_place_of [.str (S [c])] H Q E := by
  refine run_at f_place_of hn rfl ?_
  simp only [d_place_of, b_place_of, L2.start, gv2, e_k, e_v, e_g, e_bop, e_uop, e_not, e_and, e_or, e_ite, e_cmp, e_cmp2, e_lst, e_tup, e_dic, e_call, e_mk, e_bi, e_isi, e_meth, e_bm, e_icall, e_ostr, e_att, e_ix, e_sl, e_lc, e_isiM, e_methk, e_smeth, e_cmeth, e_mkv, e_mkk, kw_nil, e_oeq, e_eatt, e_eisi, e_one, e_rep, e_fmt, e_callk, e_xcmp, e_obin, e_oinv, e_oin, e_olen, e_obool, e_cat, e_fo3, e_rev, e_rgl, e_oeqs, t_v, t_isi, t_call, t_meth, t_bop, t_bi, t_att, t_not, t_and, t_or, t_cmp, t_cmp2, trQ_bl, blQ_bl, t_methk, t_smeth, t_oeq, t_eisi, t_ix, t_icall, t_one, t_callk, t_oin, t_obin, t_xcmp, t_oeqs, a_nil', a_cons, s_nil, s_cons, s_set, s_setLc, s_par, s_expr, s_ret, s_retN, s_if, s_for, s_never, s_pass, s_brk, s_cont, s_par3, s_oaug, s_raise, g_v', g_tup, g_sub, g_att, gs_nil, gs_cons, gs_tup, g_unl, i_L, i_T, i_S, i_R1, i_ES, i_E, i_Z, p_nil, p_pair, o_nil, o_k, o_v, o_bop, o_uop, o_bi, o_ix, oQ_int, o_att, o_call, i_ET, i_R2, x_K, x_w, x_fn, x_gv, x_tabs, x_mth, x_prp, x_fld, x_isi, x_kwo, x_dfl, x_xf, x_exm, x_eis, x_lt, x_lfn, x_smt, x_cmt, x_cvl, y_cvl, x_opr, y_opr, y_cmt, y_K, y_w, y_fn, y_gv, y_tabs, y_mth, y_prp, y_fld, y_isi, y_kwo, y_dfl, y_xf, y_exm, y_eis, y_smt, isi_int, isi_str, isi_bl, isi_non, ii1, ii2, ii3, ii4, ii5, ii6, ii7, it1, it2, it3, it4, it5, it6, it7, it8, it9, it10, it11, it12, it13, r_add, r_sub, r_mul, r_div, r_mod, r_pow, r_shl, r_shr, r_and, r_or, r_xor, r_neg, r_inv, r_lt, r_le, r_gt, r_ge, r_eqI, r_neI, r_eqS, r_neS, r_inS, r_niS, b_int, b_intB, b_abs, b_lenS, b_strS, r_addS, r_isN, r_eqB, r_neB, List.getElem?_cons_zero, List.getElem?_cons_succ, List.set_cons_zero, List.set_cons_succ, List.map_cons, List.map_nil, List.length_cons, List.length_nil, Nat.reduceAdd, Nat.reduceSub, List.replicate_succ, List.replicate_zero, List.cons_append, List.nil_append, List.append_nil, Bool.not_true, Bool.not_false, if_true, if_false, ite_true, ite_false, Bool.false_eq_true, Bool.true_eq_false, reduceIte]
  refine r_niK tb1 rfl ?_
  simp at hc
  rcases hc with ⟨rfl, rfl⟩ | ⟨rfl, rfl⟩ | ⟨rfl, rfl⟩
  all_goals
    rw [show (List.lookup _ _).isSome = true from rfl]
    simp only [e_k, e_v, e_g, e_bop, e_uop, e_not, e_and, e_or, e_ite, e_cmp, e_cmp2, e_lst, e_tup, e_dic, e_call, e_mk, e_bi, e_isi, e_meth, e_bm, e_icall, e_ostr, e_att, e_ix, e_sl, e_lc, e_isiM, e_methk, e_smeth, e_cmeth, e_mkv, e_mkk, kw_nil, e_oeq, e_eatt, e_eisi, e_one, e_rep, e_fmt, e_callk, e_xcmp, e_obin, e_oinv, e_oin, e_olen, e_obool, e_cat, e_fo3, e_rev, e_rgl, e_oeqs, t_v, t_isi, t_call, t_meth, t_bop, t_bi, t_att, t_not, t_and, t_or, t_cmp, t_cmp2, trQ_bl, blQ_bl, t_methk, t_smeth, t_oeq, t_eisi, t_ix, t_icall, t_one, t_callk, t_oin, t_obin, t_xcmp, t_oeqs, a_nil', a_cons, s_nil, s_cons, s_set, s_setLc, s_par, s_expr, s_ret, s_retN, s_if, s_for, s_never, s_pass, s_brk, s_cont, s_par3, s_oaug, s_raise, g_v', g_tup, g_sub, g_att, gs_nil, gs_cons, gs_tup, g_unl, i_L, i_T, i_S, i_R1, i_ES, i_E, i_Z, p_nil, p_pair, o_nil, o_k, o_v, o_bop, o_uop, o_bi, o_ix, oQ_int, o_att, o_call, i_ET, i_R2, x_K, x_w, x_fn, x_gv, x_tabs, x_mth, x_prp, x_fld, x_isi, x_kwo, x_dfl, x_xf, x_exm, x_eis, x_lt, x_lfn, x_smt, x_cmt, x_cvl, y_cvl, x_opr, y_opr, y_cmt, y_K, y_w, y_fn, y_gv, y_tabs, y_mth, y_prp, y_fld, y_isi, y_kwo, y_dfl, y_xf, y_exm, y_eis, y_smt, isi_int, isi_str, isi_bl, isi_non, ii1, ii2, ii3, ii4, ii5, ii6, ii7, it1, it2, it3, it4, it5, it6, it7, it8, it9, it10, it11, it12, it13, r_add, r_sub, r_mul, r_div, r_mod, r_pow, r_shl, r_shr, r_and, r_or, r_xor, r_neg, r_inv, r_lt, r_le, r_gt, r_ge, r_eqI, r_neI, r_eqS, r_neS, r_inS, r_niS, b_int, b_intB, b_abs, b_lenS, b_strS, r_addS, r_isN, r_eqB, r_neB, List.getElem?_cons_zero, List.getElem?_cons_succ, List.set_cons_zero, List.set_cons_succ, List.map_cons, List.map_nil, List.length_cons, List.length_nil, Nat.reduceAdd, Nat.reduceSub, List.replicate_succ, List.replicate_zero, List.cons_append, List.nil_append, List.append_nil, Bool.not_true, Bool.not_false, if_true, if_false, ite_true, ite_false, Bool.false_eq_true, Bool.true_eq_false, reduceIte]
    exact x_ixK tb1 rfl rfl h
/-- what pattern_bits adds up -/
def pbI (pl pat : Int) : Int := Builtin.bitAnd pat 1 * 2 ^ pl.toNat + (Builtin.bitAnd (pat / 2) 1 * 2 ^ (3 + pl).toNat + Builtin.bitAnd (pat / 4) 1 * 2 ^ (6 + pl).toNat)
theorem and1 (x : Int) : CPow (Builtin.bitAnd x 1) y ↔ 0 ≤ y ∧ y ≤ 1000000 := by
  have h := bitAnd_range x (show (0 : Int) ≤ 1 by decide)
  unfold CPow
  constructor
  · exact fun h => ⟨h.1, h.2.1⟩
  · exact fun k => ⟨k.1, k.2, by omega⟩
theorem c_pattern_bits {pl pat : Int} (hn : 1 ≤ n) (hp : 0 ≤ pl ∧ pl ≤ 2) (h : ∀ H', Ext H H' → Q (.int (pbI pl pat)) H') : run hd.pg K w n s_pattern_bits [.int pl, .int pat] H Q E := by
  refine run_at f_pattern_bits hn rfl ?_
  simp only [d_pattern_bits, b_pattern_bits, L2.start, e_k, e_v, e_g, e_bop, e_uop, e_not, e_and, e_or, e_ite, e_cmp, e_cmp2, e_lst, e_tup, e_dic, e_call, e_mk, e_bi, e_isi, e_meth, e_bm, e_icall, e_ostr, e_att, e_ix, e_sl, e_lc, e_isiM, e_methk, e_smeth, e_cmeth, e_mkv, e_mkk, kw_nil, e_oeq, e_eatt, e_eisi, e_one, e_rep, e_fmt, e_callk, e_xcmp, e_obin, e_oinv, e_oin, e_olen, e_obool, e_cat, e_fo3, e_rev, e_rgl, e_oeqs, t_v, t_isi, t_call, t_meth, t_bop, t_bi, t_att, t_not, t_and, t_or, t_cmp, t_cmp2, trQ_bl, blQ_bl, t_methk, t_smeth, t_oeq, t_eisi, t_ix, t_icall, t_one, t_callk, t_oin, t_obin, t_xcmp, t_oeqs, a_nil', a_cons, s_nil, s_cons, s_set, s_setLc, s_par, s_expr, s_ret, s_retN, s_if, s_for, s_never, s_pass, s_brk, s_cont, s_par3, s_oaug, s_raise, g_v', g_tup, g_sub, g_att, gs_nil, gs_cons, gs_tup, g_unl, i_L, i_T, i_S, i_R1, i_ES, i_E, i_Z, p_nil, p_pair, o_nil, o_k, o_v, o_bop, o_uop, o_bi, o_ix, oQ_int, o_att, o_call, i_ET, i_R2, x_K, x_w, x_fn, x_gv, x_tabs, x_mth, x_prp, x_fld, x_isi, x_kwo, x_dfl, x_xf, x_exm, x_eis, x_lt, x_lfn, x_smt, x_cmt, x_cvl, y_cvl, x_opr, y_opr, y_cmt, y_K, y_w, y_fn, y_gv, y_tabs, y_mth, y_prp, y_fld, y_isi, y_kwo, y_dfl, y_xf, y_exm, y_eis, y_smt, isi_int, isi_str, isi_bl, isi_non, ii1, ii2, ii3, ii4, ii5, ii6, ii7, it1, it2, it3, it4, it5, it6, it7, it8, it9, it10, it11, it12, it13, r_add, r_sub, r_mul, r_div, r_mod, r_pow, r_shl, r_shr, r_and, r_or, r_xor, r_neg, r_inv, r_lt, r_le, r_gt, r_ge, r_eqI, r_neI, r_eqS, r_neS, r_inS, r_niS, b_int, b_intB, b_abs, b_lenS, b_strS, r_addS, r_isN, r_eqB, r_neB, List.getElem?_cons_zero, List.getElem?_cons_succ, List.set_cons_zero, List.set_cons_succ, List.map_cons, List.map_nil, List.length_cons, List.length_nil, Nat.reduceAdd, Nat.reduceSub, List.replicate_succ, List.replicate_zero, List.cons_append, List.nil_append, List.append_nil, Bool.not_true, Bool.not_false, if_true, if_false, ite_true, ite_false, Bool.false_eq_true, Bool.true_eq_false, reduceIte]
  refine ⟨by decide, by decide, fun Dl hD => ?_⟩
  rw [show (List.range (3 : Int).toNat) = [0, 1, 2] from rfl]
  simp only [for_nil, for_v, for_t, lc_nil, lc_v, lc_t, lc_turn0, lc_turn1, wipe_nil, wipe_cons, true_and, and_true, upd_same, upd_upd, Option.some.injEq, HO.lst.injEq, HO.tup.injEq, HO.dK.injEq, exists_eq_left', List.singleton_append, Int.cast_ofNat_Int, and1, e_k, e_v, e_g, e_bop, e_uop, e_not, e_and, e_or, e_ite, e_cmp, e_cmp2, e_lst, e_tup, e_dic, e_call, e_mk, e_bi, e_isi, e_meth, e_bm, e_icall, e_ostr, e_att, e_ix, e_sl, e_lc, e_isiM, e_methk, e_smeth, e_cmeth, e_mkv, e_mkk, kw_nil, e_oeq, e_eatt, e_eisi, e_one, e_rep, e_fmt, e_callk, e_xcmp, e_obin, e_oinv, e_oin, e_olen, e_obool, e_cat, e_fo3, e_rev, e_rgl, e_oeqs, t_v, t_isi, t_call, t_meth, t_bop, t_bi, t_att, t_not, t_and, t_or, t_cmp, t_cmp2, trQ_bl, blQ_bl, t_methk, t_smeth, t_oeq, t_eisi, t_ix, t_icall, t_one, t_callk, t_oin, t_obin, t_xcmp, t_oeqs, a_nil', a_cons, s_nil, s_cons, s_set, s_setLc, s_par, s_expr, s_ret, s_retN, s_if, s_for, s_never, s_pass, s_brk, s_cont, s_par3, s_oaug, s_raise, g_v', g_tup, g_sub, g_att, gs_nil, gs_cons, gs_tup, g_unl, i_L, i_T, i_S, i_R1, i_ES, i_E, i_Z, p_nil, p_pair, o_nil, o_k, o_v, o_bop, o_uop, o_bi, o_ix, oQ_int, o_att, o_call, i_ET, i_R2, x_K, x_w, x_fn, x_gv, x_tabs, x_mth, x_prp, x_fld, x_isi, x_kwo, x_dfl, x_xf, x_exm, x_eis, x_lt, x_lfn, x_smt, x_cmt, x_cvl, y_cvl, x_opr, y_opr, y_cmt, y_K, y_w, y_fn, y_gv, y_tabs, y_mth, y_prp, y_fld, y_isi, y_kwo, y_dfl, y_xf, y_exm, y_eis, y_smt, isi_int, isi_str, isi_bl, isi_non, ii1, ii2, ii3, ii4, ii5, ii6, ii7, it1, it2, it3, it4, it5, it6, it7, it8, it9, it10, it11, it12, it13, r_add, r_sub, r_mul, r_div, r_mod, r_pow, r_shl, r_shr, r_and, r_or, r_xor, r_neg, r_inv, r_lt, r_le, r_gt, r_ge, r_eqI, r_neI, r_eqS, r_neS, r_inS, r_niS, b_int, b_intB, b_abs, b_lenS, b_strS, r_addS, r_isN, r_eqB, r_neB, List.getElem?_cons_zero, List.getElem?_cons_succ, List.set_cons_zero, List.set_cons_succ, List.map_cons, List.map_nil, List.length_cons, List.length_nil, Nat.reduceAdd, Nat.reduceSub, List.replicate_succ, List.replicate_zero, List.cons_append, List.nil_append, List.append_nil, Bool.not_true, Bool.not_false, if_true, if_false, ite_true, ite_false, Bool.false_eq_true, Bool.true_eq_false, reduceIte]
  refine ⟨by decide, .inl (by unfold CMul; decide), by omega, by decide, by decide, .inl (by unfold CMul; decide), by omega, by decide, by decide, .inl (by unfold CMul; decide), by omega, by decide, ?_⟩
  refine ⟨[_, _, _], .inl (.inl upd_same), ?_⟩
  have e : List.sum [Builtin.bitAnd (pat / 2 ^ Int.toNat 0) 1 * 2 ^ (3 * 0 + pl).toNat, Builtin.bitAnd (pat / 2 ^ Int.toNat 1) 1 * 2 ^ (3 * 1 + pl).toNat, Builtin.bitAnd (pat / 2 ^ Int.toNat 2) 1 * 2 ^ (3 * 2 + pl).toNat] = pbI pl pat := by
    simp [pbI]
  rw [e]
  exact h _ (Ext.new hD)
/-- what pattern tells -/
def patI (b pl : Int) : Int := Builtin.bitAnd (b / 2 ^ pl.toNat) 1 + (Builtin.bitAnd (b / 2 ^ (3 + pl).toNat) 1 * 2 + Builtin.bitAnd (b / 2 ^ (6 + pl).toNat) 1 * 4)
theorem c_pattern {m : Addr} {b : Int} {c : Nat} {p : Int} (hn : 2 ≤ n) (hm : IsM K H m b) (hc : (c, p) ∈ [(114, 2), (119, 1), (120, (0 : Int))]) (h : ∀ H', Ext H H' → Q (.int (patI b p)) H') : run hd.pg K w n s_Mode_pattern [.ref m, .str (S [c])] H Q E := by
  obtain ⟨dx, hm⟩ := hm
  refine run_at f_Mode_pattern (by omega) rfl ?_
  simp only [d_Mode_pattern, b_Mode_pattern, L2.start, e_k, e_v, e_g, e_bop, e_uop, e_not, e_and, e_or, e_ite, e_cmp, e_cmp2, e_lst, e_tup, e_dic, e_call, e_mk, e_bi, e_isi, e_meth, e_bm, e_icall, e_ostr, e_att, e_ix, e_sl, e_lc, e_isiM, e_methk, e_smeth, e_cmeth, e_mkv, e_mkk, kw_nil, e_oeq, e_eatt, e_eisi, e_one, e_rep, e_fmt, e_callk, e_xcmp, e_obin, e_oinv, e_oin, e_olen, e_obool, e_cat, e_fo3, e_rev, e_rgl, e_oeqs, t_v, t_isi, t_call, t_meth, t_bop, t_bi, t_att, t_not, t_and, t_or, t_cmp, t_cmp2, trQ_bl, blQ_bl, t_methk, t_smeth, t_oeq, t_eisi, t_ix, t_icall, t_one, t_callk, t_oin, t_obin, t_xcmp, t_oeqs, a_nil', a_cons, s_nil, s_cons, s_set, s_setLc, s_par, s_expr, s_ret, s_retN, s_if, s_for, s_never, s_pass, s_brk, s_cont, s_par3, s_oaug, s_raise, g_v', g_tup, g_sub, g_att, gs_nil, gs_cons, gs_tup, g_unl, i_L, i_T, i_S, i_R1, i_ES, i_E, i_Z, p_nil, p_pair, o_nil, o_k, o_v, o_bop, o_uop, o_bi, o_ix, oQ_int, o_att, o_call, i_ET, i_R2, x_K, x_w, x_fn, x_gv, x_tabs, x_mth, x_prp, x_fld, x_isi, x_kwo, x_dfl, x_xf, x_exm, x_eis, x_lt, x_lfn, x_smt, x_cmt, x_cvl, y_cvl, x_opr, y_opr, y_cmt, y_K, y_w, y_fn, y_gv, y_tabs, y_mth, y_prp, y_fld, y_isi, y_kwo, y_dfl, y_xf, y_exm, y_eis, y_smt, isi_int, isi_str, isi_bl, isi_non, ii1, ii2, ii3, ii4, ii5, ii6, ii7, it1, it2, it3, it4, it5, it6, it7, it8, it9, it10, it11, it12, it13, r_add, r_sub, r_mul, r_div, r_mod, r_pow, r_shl, r_shr, r_and, r_or, r_xor, r_neg, r_inv, r_lt, r_le, r_gt, r_ge, r_eqI, r_neI, r_eqS, r_neS, r_inS, r_niS, b_int, b_intB, b_abs, b_lenS, b_strS, r_addS, r_isN, r_eqB, r_neB, List.getElem?_cons_zero, List.getElem?_cons_succ, List.set_cons_zero, List.set_cons_succ, List.map_cons, List.map_nil, List.length_cons, List.length_nil, Nat.reduceAdd, Nat.reduceSub, List.replicate_succ, List.replicate_zero, List.cons_append, List.nil_append, List.append_nil, Bool.not_true, Bool.not_false, if_true, if_false, ite_true, ite_false, Bool.false_eq_true, Bool.true_eq_false, reduceIte]
  refine c_place_of (by omega) hc ?_
  have hp : 0 ≤ p ∧ p ≤ 2 := by
    simp at hc
    omega
  try simp only [for_nil, for_v, for_t, lc_nil, lc_v, lc_t, lc_turn0, lc_turn1, wipe_nil, wipe_cons, true_and, and_true, upd_same, upd_upd, Option.some.injEq, HO.lst.injEq, HO.tup.injEq, HO.dK.injEq, exists_eq_left', List.singleton_append, Int.cast_ofNat_Int, and1, e_k, e_v, e_g, e_bop, e_uop, e_not, e_and, e_or, e_ite, e_cmp, e_cmp2, e_lst, e_tup, e_dic, e_call, e_mk, e_bi, e_isi, e_meth, e_bm, e_icall, e_ostr, e_att, e_ix, e_sl, e_lc, e_isiM, e_methk, e_smeth, e_cmeth, e_mkv, e_mkk, kw_nil, e_oeq, e_eatt, e_eisi, e_one, e_rep, e_fmt, e_callk, e_xcmp, e_obin, e_oinv, e_oin, e_olen, e_obool, e_cat, e_fo3, e_rev, e_rgl, e_oeqs, t_v, t_isi, t_call, t_meth, t_bop, t_bi, t_att, t_not, t_and, t_or, t_cmp, t_cmp2, trQ_bl, blQ_bl, t_methk, t_smeth, t_oeq, t_eisi, t_ix, t_icall, t_one, t_callk, t_oin, t_obin, t_xcmp, t_oeqs, a_nil', a_cons, s_nil, s_cons, s_set, s_setLc, s_par, s_expr, s_ret, s_retN, s_if, s_for, s_never, s_pass, s_brk, s_cont, s_par3, s_oaug, s_raise, g_v', g_tup, g_sub, g_att, gs_nil, gs_cons, gs_tup, g_unl, i_L, i_T, i_S, i_R1, i_ES, i_E, i_Z, p_nil, p_pair, o_nil, o_k, o_v, o_bop, o_uop, o_bi, o_ix, oQ_int, o_att, o_call, i_ET, i_R2, x_K, x_w, x_fn, x_gv, x_tabs, x_mth, x_prp, x_fld, x_isi, x_kwo, x_dfl, x_xf, x_exm, x_eis, x_lt, x_lfn, x_smt, x_cmt, x_cvl, y_cvl, x_opr, y_opr, y_cmt, y_K, y_w, y_fn, y_gv, y_tabs, y_mth, y_prp, y_fld, y_isi, y_kwo, y_dfl, y_xf, y_exm, y_eis, y_smt, isi_int, isi_str, isi_bl, isi_non, ii1, ii2, ii3, ii4, ii5, ii6, ii7, it1, it2, it3, it4, it5, it6, it7, it8, it9, it10, it11, it12, it13, r_add, r_sub, r_mul, r_div, r_mod, r_pow, r_shl, r_shr, r_and, r_or, r_xor, r_neg, r_inv, r_lt, r_le, r_gt, r_ge, r_eqI, r_neI, r_eqS, r_neS, r_inS, r_niS, b_int, b_intB, b_abs, b_lenS, b_strS, r_addS, r_isN, r_eqB, r_neB, List.getElem?_cons_zero, List.getElem?_cons_succ, List.set_cons_zero, List.set_cons_succ, List.map_cons, List.map_nil, List.length_cons, List.length_nil, Nat.reduceAdd, Nat.reduceSub, List.replicate_succ, List.replicate_zero, List.cons_append, List.nil_append, List.append_nil, Bool.not_true, Bool.not_false, if_true, if_false, ite_true, ite_false, Bool.false_eq_true, Bool.true_eq_false, reduceIte]
  refine ⟨by decide, by decide, fun Dl hD => ?_⟩
  rw [show (List.range (3 : Int).toNat) = [0, 1, 2] from rfl]
  have hm2 : ∀ o, upd H Dl o m = some (.ins (He.ga K s_Mode) dx [(s_bits, .int b)]) := fun o => upd_get hm hD
  try simp only [for_nil, for_v, for_t, lc_nil, lc_v, lc_t, lc_turn0, lc_turn1, wipe_nil, wipe_cons, true_and, and_true, upd_same, upd_upd, Option.some.injEq, HO.lst.injEq, HO.tup.injEq, HO.dK.injEq, exists_eq_left', List.singleton_append, Int.cast_ofNat_Int, and1, e_k, e_v, e_g, e_bop, e_uop, e_not, e_and, e_or, e_ite, e_cmp, e_cmp2, e_lst, e_tup, e_dic, e_call, e_mk, e_bi, e_isi, e_meth, e_bm, e_icall, e_ostr, e_att, e_ix, e_sl, e_lc, e_isiM, e_methk, e_smeth, e_cmeth, e_mkv, e_mkk, kw_nil, e_oeq, e_eatt, e_eisi, e_one, e_rep, e_fmt, e_callk, e_xcmp, e_obin, e_oinv, e_oin, e_olen, e_obool, e_cat, e_fo3, e_rev, e_rgl, e_oeqs, t_v, t_isi, t_call, t_meth, t_bop, t_bi, t_att, t_not, t_and, t_or, t_cmp, t_cmp2, trQ_bl, blQ_bl, t_methk, t_smeth, t_oeq, t_eisi, t_ix, t_icall, t_one, t_callk, t_oin, t_obin, t_xcmp, t_oeqs, a_nil', a_cons, s_nil, s_cons, s_set, s_setLc, s_par, s_expr, s_ret, s_retN, s_if, s_for, s_never, s_pass, s_brk, s_cont, s_par3, s_oaug, s_raise, g_v', g_tup, g_sub, g_att, gs_nil, gs_cons, gs_tup, g_unl, i_L, i_T, i_S, i_R1, i_ES, i_E, i_Z, p_nil, p_pair, o_nil, o_k, o_v, o_bop, o_uop, o_bi, o_ix, oQ_int, o_att, o_call, i_ET, i_R2, x_K, x_w, x_fn, x_gv, x_tabs, x_mth, x_prp, x_fld, x_isi, x_kwo, x_dfl, x_xf, x_exm, x_eis, x_lt, x_lfn, x_smt, x_cmt, x_cvl, y_cvl, x_opr, y_opr, y_cmt, y_K, y_w, y_fn, y_gv, y_tabs, y_mth, y_prp, y_fld, y_isi, y_kwo, y_dfl, y_xf, y_exm, y_eis, y_smt, isi_int, isi_str, isi_bl, isi_non, ii1, ii2, ii3, ii4, ii5, ii6, ii7, it1, it2, it3, it4, it5, it6, it7, it8, it9, it10, it11, it12, it13, r_add, r_sub, r_mul, r_div, r_mod, r_pow, r_shl, r_shr, r_and, r_or, r_xor, r_neg, r_inv, r_lt, r_le, r_gt, r_ge, r_eqI, r_neI, r_eqS, r_neS, r_inS, r_niS, b_int, b_intB, b_abs, b_lenS, b_strS, r_addS, r_isN, r_eqB, r_neB, List.getElem?_cons_zero, List.getElem?_cons_succ, List.set_cons_zero, List.set_cons_succ, List.map_cons, List.map_nil, List.length_cons, List.length_nil, Nat.reduceAdd, Nat.reduceSub, List.replicate_succ, List.replicate_zero, List.cons_append, List.nil_append, List.append_nil, Bool.not_true, Bool.not_false, if_true, if_false, ite_true, ite_false, Bool.false_eq_true, Bool.true_eq_false, reduceIte]
  refine x_fldv (hm2 _) rfl rfl ?_
  try simp only [for_nil, for_v, for_t, lc_nil, lc_v, lc_t, lc_turn0, lc_turn1, wipe_nil, wipe_cons, true_and, and_true, upd_same, upd_upd, Option.some.injEq, HO.lst.injEq, HO.tup.injEq, HO.dK.injEq, exists_eq_left', List.singleton_append, Int.cast_ofNat_Int, and1, e_k, e_v, e_g, e_bop, e_uop, e_not, e_and, e_or, e_ite, e_cmp, e_cmp2, e_lst, e_tup, e_dic, e_call, e_mk, e_bi, e_isi, e_meth, e_bm, e_icall, e_ostr, e_att, e_ix, e_sl, e_lc, e_isiM, e_methk, e_smeth, e_cmeth, e_mkv, e_mkk, kw_nil, e_oeq, e_eatt, e_eisi, e_one, e_rep, e_fmt, e_callk, e_xcmp, e_obin, e_oinv, e_oin, e_olen, e_obool, e_cat, e_fo3, e_rev, e_rgl, e_oeqs, t_v, t_isi, t_call, t_meth, t_bop, t_bi, t_att, t_not, t_and, t_or, t_cmp, t_cmp2, trQ_bl, blQ_bl, t_methk, t_smeth, t_oeq, t_eisi, t_ix, t_icall, t_one, t_callk, t_oin, t_obin, t_xcmp, t_oeqs, a_nil', a_cons, s_nil, s_cons, s_set, s_setLc, s_par, s_expr, s_ret, s_retN, s_if, s_for, s_never, s_pass, s_brk, s_cont, s_par3, s_oaug, s_raise, g_v', g_tup, g_sub, g_att, gs_nil, gs_cons, gs_tup, g_unl, i_L, i_T, i_S, i_R1, i_ES, i_E, i_Z, p_nil, p_pair, o_nil, o_k, o_v, o_bop, o_uop, o_bi, o_ix, oQ_int, o_att, o_call, i_ET, i_R2, x_K, x_w, x_fn, x_gv, x_tabs, x_mth, x_prp, x_fld, x_isi, x_kwo, x_dfl, x_xf, x_exm, x_eis, x_lt, x_lfn, x_smt, x_cmt, x_cvl, y_cvl, x_opr, y_opr, y_cmt, y_K, y_w, y_fn, y_gv, y_tabs, y_mth, y_prp, y_fld, y_isi, y_kwo, y_dfl, y_xf, y_exm, y_eis, y_smt, isi_int, isi_str, isi_bl, isi_non, ii1, ii2, ii3, ii4, ii5, ii6, ii7, it1, it2, it3, it4, it5, it6, it7, it8, it9, it10, it11, it12, it13, r_add, r_sub, r_mul, r_div, r_mod, r_pow, r_shl, r_shr, r_and, r_or, r_xor, r_neg, r_inv, r_lt, r_le, r_gt, r_ge, r_eqI, r_neI, r_eqS, r_neS, r_inS, r_niS, b_int, b_intB, b_abs, b_lenS, b_strS, r_addS, r_isN, r_eqB, r_neB, List.getElem?_cons_zero, List.getElem?_cons_succ, List.set_cons_zero, List.set_cons_succ, List.map_cons, List.map_nil, List.length_cons, List.length_nil, Nat.reduceAdd, Nat.reduceSub, List.replicate_succ, List.replicate_zero, List.cons_append, List.nil_append, List.append_nil, Bool.not_true, Bool.not_false, if_true, if_false, ite_true, ite_false, Bool.false_eq_true, Bool.true_eq_false, reduceIte]
  refine ⟨.inl (by unfold CMul; decide), by omega, by decide, by decide, ?_⟩
  refine x_fldv (hm2 _) rfl rfl ?_
  try simp only [for_nil, for_v, for_t, lc_nil, lc_v, lc_t, lc_turn0, lc_turn1, wipe_nil, wipe_cons, true_and, and_true, upd_same, upd_upd, Option.some.injEq, HO.lst.injEq, HO.tup.injEq, HO.dK.injEq, exists_eq_left', List.singleton_append, Int.cast_ofNat_Int, and1, e_k, e_v, e_g, e_bop, e_uop, e_not, e_and, e_or, e_ite, e_cmp, e_cmp2, e_lst, e_tup, e_dic, e_call, e_mk, e_bi, e_isi, e_meth, e_bm, e_icall, e_ostr, e_att, e_ix, e_sl, e_lc, e_isiM, e_methk, e_smeth, e_cmeth, e_mkv, e_mkk, kw_nil, e_oeq, e_eatt, e_eisi, e_one, e_rep, e_fmt, e_callk, e_xcmp, e_obin, e_oinv, e_oin, e_olen, e_obool, e_cat, e_fo3, e_rev, e_rgl, e_oeqs, t_v, t_isi, t_call, t_meth, t_bop, t_bi, t_att, t_not, t_and, t_or, t_cmp, t_cmp2, trQ_bl, blQ_bl, t_methk, t_smeth, t_oeq, t_eisi, t_ix, t_icall, t_one, t_callk, t_oin, t_obin, t_xcmp, t_oeqs, a_nil', a_cons, s_nil, s_cons, s_set, s_setLc, s_par, s_expr, s_ret, s_retN, s_if, s_for, s_never, s_pass, s_brk, s_cont, s_par3, s_oaug, s_raise, g_v', g_tup, g_sub, g_att, gs_nil, gs_cons, gs_tup, g_unl, i_L, i_T, i_S, i_R1, i_ES, i_E, i_Z, p_nil, p_pair, o_nil, o_k, o_v, o_bop, o_uop, o_bi, o_ix, oQ_int, o_att, o_call, i_ET, i_R2, x_K, x_w, x_fn, x_gv, x_tabs, x_mth, x_prp, x_fld, x_isi, x_kwo, x_dfl, x_xf, x_exm, x_eis, x_lt, x_lfn, x_smt, x_cmt, x_cvl, y_cvl, x_opr, y_opr, y_cmt, y_K, y_w, y_fn, y_gv, y_tabs, y_mth, y_prp, y_fld, y_isi, y_kwo, y_dfl, y_xf, y_exm, y_eis, y_smt, isi_int, isi_str, isi_bl, isi_non, ii1, ii2, ii3, ii4, ii5, ii6, ii7, it1, it2, it3, it4, it5, it6, it7, it8, it9, it10, it11, it12, it13, r_add, r_sub, r_mul, r_div, r_mod, r_pow, r_shl, r_shr, r_and, r_or, r_xor, r_neg, r_inv, r_lt, r_le, r_gt, r_ge, r_eqI, r_neI, r_eqS, r_neS, r_inS, r_niS, b_int, b_intB, b_abs, b_lenS, b_strS, r_addS, r_isN, r_eqB, r_neB, List.getElem?_cons_zero, List.getElem?_cons_succ, List.set_cons_zero, List.set_cons_succ, List.map_cons, List.map_nil, List.length_cons, List.length_nil, Nat.reduceAdd, Nat.reduceSub, List.replicate_succ, List.replicate_zero, List.cons_append, List.nil_append, List.append_nil, Bool.not_true, Bool.not_false, if_true, if_false, ite_true, ite_false, Bool.false_eq_true, Bool.true_eq_false, reduceIte]
  refine ⟨.inl (by unfold CMul; decide), by omega, by decide, by decide, ?_⟩
  refine x_fldv (hm2 _) rfl rfl ?_
  try simp only [for_nil, for_v, for_t, lc_nil, lc_v, lc_t, lc_turn0, lc_turn1, wipe_nil, wipe_cons, true_and, and_true, upd_same, upd_upd, Option.some.injEq, HO.lst.injEq, HO.tup.injEq, HO.dK.injEq, exists_eq_left', List.singleton_append, Int.cast_ofNat_Int, and1, e_k, e_v, e_g, e_bop, e_uop, e_not, e_and, e_or, e_ite, e_cmp, e_cmp2, e_lst, e_tup, e_dic, e_call, e_mk, e_bi, e_isi, e_meth, e_bm, e_icall, e_ostr, e_att, e_ix, e_sl, e_lc, e_isiM, e_methk, e_smeth, e_cmeth, e_mkv, e_mkk, kw_nil, e_oeq, e_eatt, e_eisi, e_one, e_rep, e_fmt, e_callk, e_xcmp, e_obin, e_oinv, e_oin, e_olen, e_obool, e_cat, e_fo3, e_rev, e_rgl, e_oeqs, t_v, t_isi, t_call, t_meth, t_bop, t_bi, t_att, t_not, t_and, t_or, t_cmp, t_cmp2, trQ_bl, blQ_bl, t_methk, t_smeth, t_oeq, t_eisi, t_ix, t_icall, t_one, t_callk, t_oin, t_obin, t_xcmp, t_oeqs, a_nil', a_cons, s_nil, s_cons, s_set, s_setLc, s_par, s_expr, s_ret, s_retN, s_if, s_for, s_never, s_pass, s_brk, s_cont, s_par3, s_oaug, s_raise, g_v', g_tup, g_sub, g_att, gs_nil, gs_cons, gs_tup, g_unl, i_L, i_T, i_S, i_R1, i_ES, i_E, i_Z, p_nil, p_pair, o_nil, o_k, o_v, o_bop, o_uop, o_bi, o_ix, oQ_int, o_att, o_call, i_ET, i_R2, x_K, x_w, x_fn, x_gv, x_tabs, x_mth, x_prp, x_fld, x_isi, x_kwo, x_dfl, x_xf, x_exm, x_eis, x_lt, x_lfn, x_smt, x_cmt, x_cvl, y_cvl, x_opr, y_opr, y_cmt, y_K, y_w, y_fn, y_gv, y_tabs, y_mth, y_prp, y_fld, y_isi, y_kwo, y_dfl, y_xf, y_exm, y_eis, y_smt, isi_int, isi_str, isi_bl, isi_non, ii1, ii2, ii3, ii4, ii5, ii6, ii7, it1, it2, it3, it4, it5, it6, it7, it8, it9, it10, it11, it12, it13, r_add, r_sub, r_mul, r_div, r_mod, r_pow, r_shl, r_shr, r_and, r_or, r_xor, r_neg, r_inv, r_lt, r_le, r_gt, r_ge, r_eqI, r_neI, r_eqS, r_neS, r_inS, r_niS, b_int, b_intB, b_abs, b_lenS, b_strS, r_addS, r_isN, r_eqB, r_neB, List.getElem?_cons_zero, List.getElem?_cons_succ, List.set_cons_zero, List.set_cons_succ, List.map_cons, List.map_nil, List.length_cons, List.length_nil, Nat.reduceAdd, Nat.reduceSub, List.replicate_succ, List.replicate_zero, List.cons_append, List.nil_append, List.append_nil, Bool.not_true, Bool.not_false, if_true, if_false, ite_true, ite_false, Bool.false_eq_true, Bool.true_eq_false, reduceIte]
  refine ⟨.inl (by unfold CMul; decide), by omega, by decide, by decide, ?_⟩
  refine ⟨[_, _, _], .inl (.inl upd_same), ?_⟩
  have e : List.sum [Builtin.bitAnd (b / 2 ^ (3 * 0 + p).toNat) 1 * 2 ^ Int.toNat 0, Builtin.bitAnd (b / 2 ^ (3 * 1 + p).toNat) 1 * 2 ^ Int.toNat 1, Builtin.bitAnd (b / 2 ^ (3 * 2 + p).toNat) 1 * 2 ^ Int.toNat 2] = patI b p := by
    simp [patI]
  rw [e]
  exact h _ (Ext.new hD)
def wpI (b pl pat : Int) : Int := Builtin.bitOr (Builtin.bitAnd b (Builtin.bitNot (pbI pl 7))) (pbI pl pat)
theorem wp_ok : ∀ b : Nat, b < 512 → ∀ pl : Nat, pl < 3 → ∀ pat : Nat, pat < 8 → 0 ≤ wpI b pl pat ∧ wpI b pl pat ≤ 511 := by decide +kernel
theorem wp_range {b pl pat : Int} (h1 : 0 ≤ b ∧ b ≤ 511) (h2 : 0 ≤ pl ∧ pl ≤ 2) (h3 : 0 ≤ pat ∧ pat ≤ 7) : 0 ≤ wpI b pl pat ∧ wpI b pl pat ≤ 511 := by
  have h := wp_ok b.toNat (by omega) pl.toNat (by omega) pat.toNat (by omega)
  rwa [Int.toNat_of_nonneg h1.1, Int.toNat_of_nonneg h2.1, Int.toNat_of_nonneg h3.1] at h
theorem c_with_pattern {m : Addr} {b : Int} {c : Nat} {p pat : Int} (hn : 3 ≤ n) (hm : IsM K H m b) (hb : 0 ≤ b ∧ b ≤ 511) (hc : (c, p) ∈ [(114, 2), (119, 1), (120, (0 : Int))]) (ht : 0 ≤ pat ∧ pat ≤ 7)
    (h : ∀ x H', Ext H H' → IsM K H' x (wpI b p pat) → Q (.ref x) H') : run hd.pg K w n s_Mode_with_pattern [.ref m, .str (S [c]), .int pat] H Q E := by
  refine run_at f_Mode_with_pattern (by omega) rfl ?_
  simp only [d_Mode_with_pattern, b_Mode_with_pattern, L2.start, e_k, e_v, e_g, e_bop, e_uop, e_not, e_and, e_or, e_ite, e_cmp, e_cmp2, e_lst, e_tup, e_dic, e_call, e_mk, e_bi, e_isi, e_meth, e_bm, e_icall, e_ostr, e_att, e_ix, e_sl, e_lc, e_isiM, e_methk, e_smeth, e_cmeth, e_mkv, e_mkk, kw_nil, e_oeq, e_eatt, e_eisi, e_one, e_rep, e_fmt, e_callk, e_xcmp, e_obin, e_oinv, e_oin, e_olen, e_obool, e_cat, e_fo3, e_rev, e_rgl, e_oeqs, t_v, t_isi, t_call, t_meth, t_bop, t_bi, t_att, t_not, t_and, t_or, t_cmp, t_cmp2, trQ_bl, blQ_bl, t_methk, t_smeth, t_oeq, t_eisi, t_ix, t_icall, t_one, t_callk, t_oin, t_obin, t_xcmp, t_oeqs, a_nil', a_cons, s_nil, s_cons, s_set, s_setLc, s_par, s_expr, s_ret, s_retN, s_if, s_for, s_never, s_pass, s_brk, s_cont, s_par3, s_oaug, s_raise, g_v', g_tup, g_sub, g_att, gs_nil, gs_cons, gs_tup, g_unl, i_L, i_T, i_S, i_R1, i_ES, i_E, i_Z, p_nil, p_pair, o_nil, o_k, o_v, o_bop, o_uop, o_bi, o_ix, oQ_int, o_att, o_call, i_ET, i_R2, x_K, x_w, x_fn, x_gv, x_tabs, x_mth, x_prp, x_fld, x_isi, x_kwo, x_dfl, x_xf, x_exm, x_eis, x_lt, x_lfn, x_smt, x_cmt, x_cvl, y_cvl, x_opr, y_opr, y_cmt, y_K, y_w, y_fn, y_gv, y_tabs, y_mth, y_prp, y_fld, y_isi, y_kwo, y_dfl, y_xf, y_exm, y_eis, y_smt, isi_int, isi_str, isi_bl, isi_non, ii1, ii2, ii3, ii4, ii5, ii6, ii7, it1, it2, it3, it4, it5, it6, it7, it8, it9, it10, it11, it12, it13, r_add, r_sub, r_mul, r_div, r_mod, r_pow, r_shl, r_shr, r_and, r_or, r_xor, r_neg, r_inv, r_lt, r_le, r_gt, r_ge, r_eqI, r_neI, r_eqS, r_neS, r_inS, r_niS, b_int, b_intB, b_abs, b_lenS, b_strS, r_addS, r_isN, r_eqB, r_neB, List.getElem?_cons_zero, List.getElem?_cons_succ, List.set_cons_zero, List.set_cons_succ, List.map_cons, List.map_nil, List.length_cons, List.length_nil, Nat.reduceAdd, Nat.reduceSub, List.replicate_succ, List.replicate_zero, List.cons_append, List.nil_append, List.append_nil, Bool.not_true, Bool.not_false, if_true, if_false, ite_true, ite_false, Bool.false_eq_true, Bool.true_eq_false, reduceIte]
  refine c_place_of (by omega) hc ?_
  have hp : 0 ≤ p ∧ p ≤ 2 := by
    simp at hc
    omega
  try simp only [for_nil, for_v, for_t, lc_nil, lc_v, lc_t, lc_turn0, lc_turn1, wipe_nil, wipe_cons, true_and, and_true, upd_same, upd_upd, Option.some.injEq, HO.lst.injEq, HO.tup.injEq, HO.dK.injEq, exists_eq_left', List.singleton_append, Int.cast_ofNat_Int, and1, e_k, e_v, e_g, e_bop, e_uop, e_not, e_and, e_or, e_ite, e_cmp, e_cmp2, e_lst, e_tup, e_dic, e_call, e_mk, e_bi, e_isi, e_meth, e_bm, e_icall, e_ostr, e_att, e_ix, e_sl, e_lc, e_isiM, e_methk, e_smeth, e_cmeth, e_mkv, e_mkk, kw_nil, e_oeq, e_eatt, e_eisi, e_one, e_rep, e_fmt, e_callk, e_xcmp, e_obin, e_oinv, e_oin, e_olen, e_obool, e_cat, e_fo3, e_rev, e_rgl, e_oeqs, t_v, t_isi, t_call, t_meth, t_bop, t_bi, t_att, t_not, t_and, t_or, t_cmp, t_cmp2, trQ_bl, blQ_bl, t_methk, t_smeth, t_oeq, t_eisi, t_ix, t_icall, t_one, t_callk, t_oin, t_obin, t_xcmp, t_oeqs, a_nil', a_cons, s_nil, s_cons, s_set, s_setLc, s_par, s_expr, s_ret, s_retN, s_if, s_for, s_never, s_pass, s_brk, s_cont, s_par3, s_oaug, s_raise, g_v', g_tup, g_sub, g_att, gs_nil, gs_cons, gs_tup, g_unl, i_L, i_T, i_S, i_R1, i_ES, i_E, i_Z, p_nil, p_pair, o_nil, o_k, o_v, o_bop, o_uop, o_bi, o_ix, oQ_int, o_att, o_call, i_ET, i_R2, x_K, x_w, x_fn, x_gv, x_tabs, x_mth, x_prp, x_fld, x_isi, x_kwo, x_dfl, x_xf, x_exm, x_eis, x_lt, x_lfn, x_smt, x_cmt, x_cvl, y_cvl, x_opr, y_opr, y_cmt, y_K, y_w, y_fn, y_gv, y_tabs, y_mth, y_prp, y_fld, y_isi, y_kwo, y_dfl, y_xf, y_exm, y_eis, y_smt, isi_int, isi_str, isi_bl, isi_non, ii1, ii2, ii3, ii4, ii5, ii6, ii7, it1, it2, it3, it4, it5, it6, it7, it8, it9, it10, it11, it12, it13, r_add, r_sub, r_mul, r_div, r_mod, r_pow, r_shl, r_shr, r_and, r_or, r_xor, r_neg, r_inv, r_lt, r_le, r_gt, r_ge, r_eqI, r_neI, r_eqS, r_neS, r_inS, r_niS, b_int, b_intB, b_abs, b_lenS, b_strS, r_addS, r_isN, r_eqB, r_neB, List.getElem?_cons_zero, List.getElem?_cons_succ, List.set_cons_zero, List.set_cons_succ, List.map_cons, List.map_nil, List.length_cons, List.length_nil, Nat.reduceAdd, Nat.reduceSub, List.replicate_succ, List.replicate_zero, List.cons_append, List.nil_append, List.append_nil, Bool.not_true, Bool.not_false, if_true, if_false, ite_true, ite_false, Bool.false_eq_true, Bool.true_eq_false, reduceIte]
  refine c_is_integer (by omega) ?_
  simp only [ht, decide_true, true_and, and_true, upd_same, upd_upd, Option.some.injEq, HO.lst.injEq, HO.tup.injEq, HO.dK.injEq, exists_eq_left', List.singleton_append, Int.cast_ofNat_Int, e_k, e_v, e_g, e_bop, e_uop, e_not, e_and, e_or, e_ite, e_cmp, e_cmp2, e_lst, e_tup, e_dic, e_call, e_mk, e_bi, e_isi, e_meth, e_bm, e_icall, e_ostr, e_att, e_ix, e_sl, e_lc, e_isiM, e_methk, e_smeth, e_cmeth, e_mkv, e_mkk, kw_nil, e_oeq, e_eatt, e_eisi, e_one, e_rep, e_fmt, e_callk, e_xcmp, e_obin, e_oinv, e_oin, e_olen, e_obool, e_cat, e_fo3, e_rev, e_rgl, e_oeqs, t_v, t_isi, t_call, t_meth, t_bop, t_bi, t_att, t_not, t_and, t_or, t_cmp, t_cmp2, trQ_bl, blQ_bl, t_methk, t_smeth, t_oeq, t_eisi, t_ix, t_icall, t_one, t_callk, t_oin, t_obin, t_xcmp, t_oeqs, a_nil', a_cons, s_nil, s_cons, s_set, s_setLc, s_par, s_expr, s_ret, s_retN, s_if, s_for, s_never, s_pass, s_brk, s_cont, s_par3, s_oaug, s_raise, g_v', g_tup, g_sub, g_att, gs_nil, gs_cons, gs_tup, g_unl, i_L, i_T, i_S, i_R1, i_ES, i_E, i_Z, p_nil, p_pair, o_nil, o_k, o_v, o_bop, o_uop, o_bi, o_ix, oQ_int, o_att, o_call, i_ET, i_R2, x_K, x_w, x_fn, x_gv, x_tabs, x_mth, x_prp, x_fld, x_isi, x_kwo, x_dfl, x_xf, x_exm, x_eis, x_lt, x_lfn, x_smt, x_cmt, x_cvl, y_cvl, x_opr, y_opr, y_cmt, y_K, y_w, y_fn, y_gv, y_tabs, y_mth, y_prp, y_fld, y_isi, y_kwo, y_dfl, y_xf, y_exm, y_eis, y_smt, isi_int, isi_str, isi_bl, isi_non, ii1, ii2, ii3, ii4, ii5, ii6, ii7, it1, it2, it3, it4, it5, it6, it7, it8, it9, it10, it11, it12, it13, r_add, r_sub, r_mul, r_div, r_mod, r_pow, r_shl, r_shr, r_and, r_or, r_xor, r_neg, r_inv, r_lt, r_le, r_gt, r_ge, r_eqI, r_neI, r_eqS, r_neS, r_inS, r_niS, b_int, b_intB, b_abs, b_lenS, b_strS, r_addS, r_isN, r_eqB, r_neB, List.getElem?_cons_zero, List.getElem?_cons_succ, List.set_cons_zero, List.set_cons_succ, List.map_cons, List.map_nil, List.length_cons, List.length_nil, Nat.reduceAdd, Nat.reduceSub, List.replicate_succ, List.replicate_zero, List.cons_append, List.nil_append, List.append_nil, Bool.not_true, Bool.not_false, if_true, if_false, ite_true, ite_false, Bool.false_eq_true, Bool.true_eq_false, reduceIte]
  obtain ⟨dx, hm0⟩ := hm
  refine x_fldv hm0 rfl rfl ?_
  refine c_pattern_bits (by omega) hp fun H1 x1 => ?_
  try simp only [for_nil, for_v, for_t, lc_nil, lc_v, lc_t, lc_turn0, lc_turn1, wipe_nil, wipe_cons, true_and, and_true, upd_same, upd_upd, Option.some.injEq, HO.lst.injEq, HO.tup.injEq, HO.dK.injEq, exists_eq_left', List.singleton_append, Int.cast_ofNat_Int, and1, e_k, e_v, e_g, e_bop, e_uop, e_not, e_and, e_or, e_ite, e_cmp, e_cmp2, e_lst, e_tup, e_dic, e_call, e_mk, e_bi, e_isi, e_meth, e_bm, e_icall, e_ostr, e_att, e_ix, e_sl, e_lc, e_isiM, e_methk, e_smeth, e_cmeth, e_mkv, e_mkk, kw_nil, e_oeq, e_eatt, e_eisi, e_one, e_rep, e_fmt, e_callk, e_xcmp, e_obin, e_oinv, e_oin, e_olen, e_obool, e_cat, e_fo3, e_rev, e_rgl, e_oeqs, t_v, t_isi, t_call, t_meth, t_bop, t_bi, t_att, t_not, t_and, t_or, t_cmp, t_cmp2, trQ_bl, blQ_bl, t_methk, t_smeth, t_oeq, t_eisi, t_ix, t_icall, t_one, t_callk, t_oin, t_obin, t_xcmp, t_oeqs, a_nil', a_cons, s_nil, s_cons, s_set, s_setLc, s_par, s_expr, s_ret, s_retN, s_if, s_for, s_never, s_pass, s_brk, s_cont, s_par3, s_oaug, s_raise, g_v', g_tup, g_sub, g_att, gs_nil, gs_cons, gs_tup, g_unl, i_L, i_T, i_S, i_R1, i_ES, i_E, i_Z, p_nil, p_pair, o_nil, o_k, o_v, o_bop, o_uop, o_bi, o_ix, oQ_int, o_att, o_call, i_ET, i_R2, x_K, x_w, x_fn, x_gv, x_tabs, x_mth, x_prp, x_fld, x_isi, x_kwo, x_dfl, x_xf, x_exm, x_eis, x_lt, x_lfn, x_smt, x_cmt, x_cvl, y_cvl, x_opr, y_opr, y_cmt, y_K, y_w, y_fn, y_gv, y_tabs, y_mth, y_prp, y_fld, y_isi, y_kwo, y_dfl, y_xf, y_exm, y_eis, y_smt, isi_int, isi_str, isi_bl, isi_non, ii1, ii2, ii3, ii4, ii5, ii6, ii7, it1, it2, it3, it4, it5, it6, it7, it8, it9, it10, it11, it12, it13, r_add, r_sub, r_mul, r_div, r_mod, r_pow, r_shl, r_shr, r_and, r_or, r_xor, r_neg, r_inv, r_lt, r_le, r_gt, r_ge, r_eqI, r_neI, r_eqS, r_neS, r_inS, r_niS, b_int, b_intB, b_abs, b_lenS, b_strS, r_addS, r_isN, r_eqB, r_neB, List.getElem?_cons_zero, List.getElem?_cons_succ, List.set_cons_zero, List.set_cons_succ, List.map_cons, List.map_nil, List.length_cons, List.length_nil, Nat.reduceAdd, Nat.reduceSub, List.replicate_succ, List.replicate_zero, List.cons_append, List.nil_append, List.append_nil, Bool.not_true, Bool.not_false, if_true, if_false, ite_true, ite_false, Bool.false_eq_true, Bool.true_eq_false, reduceIte]
  refine c_pattern_bits (by omega) hp fun H2 x2 => ?_
  try simp only [for_nil, for_v, for_t, lc_nil, lc_v, lc_t, lc_turn0, lc_turn1, wipe_nil, wipe_cons, true_and, and_true, upd_same, upd_upd, Option.some.injEq, HO.lst.injEq, HO.tup.injEq, HO.dK.injEq, exists_eq_left', List.singleton_append, Int.cast_ofNat_Int, and1, e_k, e_v, e_g, e_bop, e_uop, e_not, e_and, e_or, e_ite, e_cmp, e_cmp2, e_lst, e_tup, e_dic, e_call, e_mk, e_bi, e_isi, e_meth, e_bm, e_icall, e_ostr, e_att, e_ix, e_sl, e_lc, e_isiM, e_methk, e_smeth, e_cmeth, e_mkv, e_mkk, kw_nil, e_oeq, e_eatt, e_eisi, e_one, e_rep, e_fmt, e_callk, e_xcmp, e_obin, e_oinv, e_oin, e_olen, e_obool, e_cat, e_fo3, e_rev, e_rgl, e_oeqs, t_v, t_isi, t_call, t_meth, t_bop, t_bi, t_att, t_not, t_and, t_or, t_cmp, t_cmp2, trQ_bl, blQ_bl, t_methk, t_smeth, t_oeq, t_eisi, t_ix, t_icall, t_one, t_callk, t_oin, t_obin, t_xcmp, t_oeqs, a_nil', a_cons, s_nil, s_cons, s_set, s_setLc, s_par, s_expr, s_ret, s_retN, s_if, s_for, s_never, s_pass, s_brk, s_cont, s_par3, s_oaug, s_raise, g_v', g_tup, g_sub, g_att, gs_nil, gs_cons, gs_tup, g_unl, i_L, i_T, i_S, i_R1, i_ES, i_E, i_Z, p_nil, p_pair, o_nil, o_k, o_v, o_bop, o_uop, o_bi, o_ix, oQ_int, o_att, o_call, i_ET, i_R2, x_K, x_w, x_fn, x_gv, x_tabs, x_mth, x_prp, x_fld, x_isi, x_kwo, x_dfl, x_xf, x_exm, x_eis, x_lt, x_lfn, x_smt, x_cmt, x_cvl, y_cvl, x_opr, y_opr, y_cmt, y_K, y_w, y_fn, y_gv, y_tabs, y_mth, y_prp, y_fld, y_isi, y_kwo, y_dfl, y_xf, y_exm, y_eis, y_smt, isi_int, isi_str, isi_bl, isi_non, ii1, ii2, ii3, ii4, ii5, ii6, ii7, it1, it2, it3, it4, it5, it6, it7, it8, it9, it10, it11, it12, it13, r_add, r_sub, r_mul, r_div, r_mod, r_pow, r_shl, r_shr, r_and, r_or, r_xor, r_neg, r_inv, r_lt, r_le, r_gt, r_ge, r_eqI, r_neI, r_eqS, r_neS, r_inS, r_niS, b_int, b_intB, b_abs, b_lenS, b_strS, r_addS, r_isN, r_eqB, r_neB, List.getElem?_cons_zero, List.getElem?_cons_succ, List.set_cons_zero, List.set_cons_succ, List.map_cons, List.map_nil, List.length_cons, List.length_nil, Nat.reduceAdd, Nat.reduceSub, List.replicate_succ, List.replicate_zero, List.cons_append, List.nil_append, List.append_nil, Bool.not_true, Bool.not_false, if_true, if_false, ite_true, ite_false, Bool.false_eq_true, Bool.true_eq_false, reduceIte]
  refine mk_Mode (by omega) (wp_range hb hp ht) fun x H3 x3 h3 => ?_
  exact h x H3 (x1.trans (x2.trans x3)) h3
theorem IsM.ext {H' : Hp} {m : Addr} {b : Int} (h : IsM K H m b) (x : Ext H H') : IsM K H' m b := by
  obtain ⟨dx, h⟩ := h
  exact ⟨dx, x.get h⟩
theorem c_is_mode {v : V} {b : Int} (hb : 0 ≤ b ∧ b ≤ 511) (hv : AsN K H v b) (hn : 2 ≤ n) (h : Q (.bl true) H) : run hd.pg K w n s_is_mode [v] H Q E := by
  refine run_at f_is_mode (by omega) rfl ?_
  simp only [d_is_mode, b_is_mode, L2.start, gv1, e_k, e_v, e_g, e_bop, e_uop, e_not, e_and, e_or, e_ite, e_cmp, e_cmp2, e_lst, e_tup, e_dic, e_call, e_mk, e_bi, e_isi, e_meth, e_bm, e_icall, e_ostr, e_att, e_ix, e_sl, e_lc, e_isiM, e_methk, e_smeth, e_cmeth, e_mkv, e_mkk, kw_nil, e_oeq, e_eatt, e_eisi, e_one, e_rep, e_fmt, e_callk, e_xcmp, e_obin, e_oinv, e_oin, e_olen, e_obool, e_cat, e_fo3, e_rev, e_rgl, e_oeqs, t_v, t_isi, t_call, t_meth, t_bop, t_bi, t_att, t_not, t_and, t_or, t_cmp, t_cmp2, trQ_bl, blQ_bl, t_methk, t_smeth, t_oeq, t_eisi, t_ix, t_icall, t_one, t_callk, t_oin, t_obin, t_xcmp, t_oeqs, a_nil', a_cons, s_nil, s_cons, s_set, s_setLc, s_par, s_expr, s_ret, s_retN, s_if, s_for, s_never, s_pass, s_brk, s_cont, s_par3, s_oaug, s_raise, g_v', g_tup, g_sub, g_att, gs_nil, gs_cons, gs_tup, g_unl, i_L, i_T, i_S, i_R1, i_ES, i_E, i_Z, p_nil, p_pair, o_nil, o_k, o_v, o_bop, o_uop, o_bi, o_ix, oQ_int, o_att, o_call, i_ET, i_R2, x_K, x_w, x_fn, x_gv, x_tabs, x_mth, x_prp, x_fld, x_isi, x_kwo, x_dfl, x_xf, x_exm, x_eis, x_lt, x_lfn, x_smt, x_cmt, x_cvl, y_cvl, x_opr, y_opr, y_cmt, y_K, y_w, y_fn, y_gv, y_tabs, y_mth, y_prp, y_fld, y_isi, y_kwo, y_dfl, y_xf, y_exm, y_eis, y_smt, isi_int, isi_str, isi_bl, isi_non, ii1, ii2, ii3, ii4, ii5, ii6, ii7, it1, it2, it3, it4, it5, it6, it7, it8, it9, it10, it11, it12, it13, r_add, r_sub, r_mul, r_div, r_mod, r_pow, r_shl, r_shr, r_and, r_or, r_xor, r_neg, r_inv, r_lt, r_le, r_gt, r_ge, r_eqI, r_neI, r_eqS, r_neS, r_inS, r_niS, b_int, b_intB, b_abs, b_lenS, b_strS, r_addS, r_isN, r_eqB, r_neB, List.getElem?_cons_zero, List.getElem?_cons_succ, List.set_cons_zero, List.set_cons_succ, List.map_cons, List.map_nil, List.length_cons, List.length_nil, Nat.reduceAdd, Nat.reduceSub, List.replicate_succ, List.replicate_zero, List.cons_append, List.nil_append, List.append_nil, Bool.not_true, Bool.not_false, if_true, if_false, ite_true, ite_false, Bool.false_eq_true, Bool.true_eq_false, reduceIte]
  rcases hv with ⟨m, rfl, hm⟩ | rfl
  · obtain ⟨dx, hmr⟩ := id hm
    refine isi_own (cn := s_Mode) (b := true) hmr rfl ?_
    simp only [e_k, e_v, e_g, e_bop, e_uop, e_not, e_and, e_or, e_ite, e_cmp, e_cmp2, e_lst, e_tup, e_dic, e_call, e_mk, e_bi, e_isi, e_meth, e_bm, e_icall, e_ostr, e_att, e_ix, e_sl, e_lc, e_isiM, e_methk, e_smeth, e_cmeth, e_mkv, e_mkk, kw_nil, e_oeq, e_eatt, e_eisi, e_one, e_rep, e_fmt, e_callk, e_xcmp, e_obin, e_oinv, e_oin, e_olen, e_obool, e_cat, e_fo3, e_rev, e_rgl, e_oeqs, t_v, t_isi, t_call, t_meth, t_bop, t_bi, t_att, t_not, t_and, t_or, t_cmp, t_cmp2, trQ_bl, blQ_bl, t_methk, t_smeth, t_oeq, t_eisi, t_ix, t_icall, t_one, t_callk, t_oin, t_obin, t_xcmp, t_oeqs, a_nil', a_cons, s_nil, s_cons, s_set, s_setLc, s_par, s_expr, s_ret, s_retN, s_if, s_for, s_never, s_pass, s_brk, s_cont, s_par3, s_oaug, s_raise, g_v', g_tup, g_sub, g_att, gs_nil, gs_cons, gs_tup, g_unl, i_L, i_T, i_S, i_R1, i_ES, i_E, i_Z, p_nil, p_pair, o_nil, o_k, o_v, o_bop, o_uop, o_bi, o_ix, oQ_int, o_att, o_call, i_ET, i_R2, x_K, x_w, x_fn, x_gv, x_tabs, x_mth, x_prp, x_fld, x_isi, x_kwo, x_dfl, x_xf, x_exm, x_eis, x_lt, x_lfn, x_smt, x_cmt, x_cvl, y_cvl, x_opr, y_opr, y_cmt, y_K, y_w, y_fn, y_gv, y_tabs, y_mth, y_prp, y_fld, y_isi, y_kwo, y_dfl, y_xf, y_exm, y_eis, y_smt, isi_int, isi_str, isi_bl, isi_non, ii1, ii2, ii3, ii4, ii5, ii6, ii7, it1, it2, it3, it4, it5, it6, it7, it8, it9, it10, it11, it12, it13, r_add, r_sub, r_mul, r_div, r_mod, r_pow, r_shl, r_shr, r_and, r_or, r_xor, r_neg, r_inv, r_lt, r_le, r_gt, r_ge, r_eqI, r_neI, r_eqS, r_neS, r_inS, r_niS, b_int, b_intB, b_abs, b_lenS, b_strS, r_addS, r_isN, r_eqB, r_neB, List.getElem?_cons_zero, List.getElem?_cons_succ, List.set_cons_zero, List.set_cons_succ, List.map_cons, List.map_nil, List.length_cons, List.length_nil, Nat.reduceAdd, Nat.reduceSub, List.replicate_succ, List.replicate_zero, List.cons_append, List.nil_append, List.append_nil, Bool.not_true, Bool.not_false, if_true, if_false, ite_true, ite_false, Bool.false_eq_true, Bool.true_eq_false, reduceIte]
    exact h
  · simp only [show [CR.own s_Mode].any (isiT "int") = false by decide +kernel, e_k, e_v, e_g, e_bop, e_uop, e_not, e_and, e_or, e_ite, e_cmp, e_cmp2, e_lst, e_tup, e_dic, e_call, e_mk, e_bi, e_isi, e_meth, e_bm, e_icall, e_ostr, e_att, e_ix, e_sl, e_lc, e_isiM, e_methk, e_smeth, e_cmeth, e_mkv, e_mkk, kw_nil, e_oeq, e_eatt, e_eisi, e_one, e_rep, e_fmt, e_callk, e_xcmp, e_obin, e_oinv, e_oin, e_olen, e_obool, e_cat, e_fo3, e_rev, e_rgl, e_oeqs, t_v, t_isi, t_call, t_meth, t_bop, t_bi, t_att, t_not, t_and, t_or, t_cmp, t_cmp2, trQ_bl, blQ_bl, t_methk, t_smeth, t_oeq, t_eisi, t_ix, t_icall, t_one, t_callk, t_oin, t_obin, t_xcmp, t_oeqs, a_nil', a_cons, s_nil, s_cons, s_set, s_setLc, s_par, s_expr, s_ret, s_retN, s_if, s_for, s_never, s_pass, s_brk, s_cont, s_par3, s_oaug, s_raise, g_v', g_tup, g_sub, g_att, gs_nil, gs_cons, gs_tup, g_unl, i_L, i_T, i_S, i_R1, i_ES, i_E, i_Z, p_nil, p_pair, o_nil, o_k, o_v, o_bop, o_uop, o_bi, o_ix, oQ_int, o_att, o_call, i_ET, i_R2, x_K, x_w, x_fn, x_gv, x_tabs, x_mth, x_prp, x_fld, x_isi, x_kwo, x_dfl, x_xf, x_exm, x_eis, x_lt, x_lfn, x_smt, x_cmt, x_cvl, y_cvl, x_opr, y_opr, y_cmt, y_K, y_w, y_fn, y_gv, y_tabs, y_mth, y_prp, y_fld, y_isi, y_kwo, y_dfl, y_xf, y_exm, y_eis, y_smt, isi_int, isi_str, isi_bl, isi_non, ii1, ii2, ii3, ii4, ii5, ii6, ii7, it1, it2, it3, it4, it5, it6, it7, it8, it9, it10, it11, it12, it13, r_add, r_sub, r_mul, r_div, r_mod, r_pow, r_shl, r_shr, r_and, r_or, r_xor, r_neg, r_inv, r_lt, r_le, r_gt, r_ge, r_eqI, r_neI, r_eqS, r_neS, r_inS, r_niS, b_int, b_intB, b_abs, b_lenS, b_strS, r_addS, r_isN, r_eqB, r_neB, List.getElem?_cons_zero, List.getElem?_cons_succ, List.set_cons_zero, List.set_cons_succ, List.map_cons, List.map_nil, List.length_cons, List.length_nil, Nat.reduceAdd, Nat.reduceSub, List.replicate_succ, List.replicate_zero, List.cons_append, List.nil_append, List.append_nil, Bool.not_true, Bool.not_false, if_true, if_false, ite_true, ite_false, Bool.false_eq_true, Bool.true_eq_false, reduceIte]
    refine c_is_integer (by omega) ?_
    simp only [hb, and_self, decide_true, e_k, e_v, e_g, e_bop, e_uop, e_not, e_and, e_or, e_ite, e_cmp, e_cmp2, e_lst, e_tup, e_dic, e_call, e_mk, e_bi, e_isi, e_meth, e_bm, e_icall, e_ostr, e_att, e_ix, e_sl, e_lc, e_isiM, e_methk, e_smeth, e_cmeth, e_mkv, e_mkk, kw_nil, e_oeq, e_eatt, e_eisi, e_one, e_rep, e_fmt, e_callk, e_xcmp, e_obin, e_oinv, e_oin, e_olen, e_obool, e_cat, e_fo3, e_rev, e_rgl, e_oeqs, t_v, t_isi, t_call, t_meth, t_bop, t_bi, t_att, t_not, t_and, t_or, t_cmp, t_cmp2, trQ_bl, blQ_bl, t_methk, t_smeth, t_oeq, t_eisi, t_ix, t_icall, t_one, t_callk, t_oin, t_obin, t_xcmp, t_oeqs, a_nil', a_cons, s_nil, s_cons, s_set, s_setLc, s_par, s_expr, s_ret, s_retN, s_if, s_for, s_never, s_pass, s_brk, s_cont, s_par3, s_oaug, s_raise, g_v', g_tup, g_sub, g_att, gs_nil, gs_cons, gs_tup, g_unl, i_L, i_T, i_S, i_R1, i_ES, i_E, i_Z, p_nil, p_pair, o_nil, o_k, o_v, o_bop, o_uop, o_bi, o_ix, oQ_int, o_att, o_call, i_ET, i_R2, x_K, x_w, x_fn, x_gv, x_tabs, x_mth, x_prp, x_fld, x_isi, x_kwo, x_dfl, x_xf, x_exm, x_eis, x_lt, x_lfn, x_smt, x_cmt, x_cvl, y_cvl, x_opr, y_opr, y_cmt, y_K, y_w, y_fn, y_gv, y_tabs, y_mth, y_prp, y_fld, y_isi, y_kwo, y_dfl, y_xf, y_exm, y_eis, y_smt, isi_int, isi_str, isi_bl, isi_non, ii1, ii2, ii3, ii4, ii5, ii6, ii7, it1, it2, it3, it4, it5, it6, it7, it8, it9, it10, it11, it12, it13, r_add, r_sub, r_mul, r_div, r_mod, r_pow, r_shl, r_shr, r_and, r_or, r_xor, r_neg, r_inv, r_lt, r_le, r_gt, r_ge, r_eqI, r_neI, r_eqS, r_neS, r_inS, r_niS, b_int, b_intB, b_abs, b_lenS, b_strS, r_addS, r_isN, r_eqB, r_neB, List.getElem?_cons_zero, List.getElem?_cons_succ, List.set_cons_zero, List.set_cons_succ, List.map_cons, List.map_nil, List.length_cons, List.length_nil, Nat.reduceAdd, Nat.reduceSub, List.replicate_succ, List.replicate_zero, List.cons_append, List.nil_append, List.append_nil, Bool.not_true, Bool.not_false, if_true, if_false, ite_true, ite_false, Bool.false_eq_true, Bool.true_eq_false, reduceIte]
    exact h
end U

namespace U
open PySem PySem.Spec PyProof.Rows L2
variable {K : PySem.W.Frag} {w : World} {n m : Nat} {H : Hp} {Q : VK} {E : XK}
theorem r_isnN {T : List KTab} {x : V} : rCmp K w T .IsNot x .non H Q = Q (.bl (true.xor (match x with | .non => true | _ => false))) H := rfl
theorem S_eta (s : Str) : S s.cps.toList = s := rfl
abbrev tFile : List Nat := [102, 105, 108, 101]
abbrev tFolder : List Nat := [102, 111, 108, 100, 101, 114]
abbrev ON := Option (List (List Nat))
/-- owners or groups as they are handed in -/
def ToL (H : Hp) (v : V) : ON → Prop
  | none => v = .non
  | some ls => ∃ p, v = .ref p ∧ H p = some (.lst (stV ls))
/-- owners or groups as they are kept -/
def TpV (H : Hp) (v : V) : ON → Prop
  | none => v = .non
  | some ls => ∃ t ys, v = .ref t ∧ List.Perm ys ls ∧ H t = some (.tup (stV ys))
/-- right owners or groups -/
def Tw : ON → Prop
  | none => True
  | some ls => (∀ z ∈ ls, nameL z = true) ∧ 1 ≤ ls.length ∧ ls.length ≤ 2 ∧ ls.Nodup
theorem ToL.ext {H' : Hp} {v : V} {o : ON} (h : ToL H v o) (x : Ext H H') : ToL H' v o := by
  cases o with
  | none => exact h
  | some ls =>
    obtain ⟨p, e, h⟩ := h
    exact ⟨p, e, x.get h⟩
theorem TpV.ext {H' : Hp} {v : V} {o : ON} (h : TpV H v o) (x : Ext H H') : TpV H' v o := by
  cases o with
  | none => exact h
  | some ls =>
    obtain ⟨p, ys, e, hp, h⟩ := h
    exact ⟨p, ys, e, hp, x.get h⟩
theorem c_is_told {v : V} {o : ON} (hv : ToL H v o) (ho : Tw o) (hn : 2 ≤ n) (h : ∀ H', Ext H H' → Q (.bl true) H') : run hd.pg K w n s_is_told [v] H Q E := by
  refine run_at f_is_told (by omega) rfl ?_
  simp only [d_is_told, b_is_told, L2.start, gvM, e_k, e_v, e_g, e_bop, e_uop, e_not, e_and, e_or, e_ite, e_cmp, e_cmp2, e_lst, e_tup, e_call, e_mk, e_bi, e_isi, e_meth, e_bm, e_icall, e_ostr, e_att, e_ix, e_sl, e_isiM, e_methk, e_smeth, e_cmeth, e_mkv, e_mkk, kw_nil, e_oeq, e_eatt, e_eisi, e_one, e_rep, e_fmt, e_callk, e_xcmp, e_obin, e_oinv, e_oin, e_olen, e_obool, e_cat, e_fo3, e_rev, e_rgl, e_oeqs, t_v, t_isi, t_call, t_meth, t_bop, t_bi, t_att, t_not, t_and, t_or, t_cmp, t_cmp2, trQ_bl, blQ_bl, t_methk, t_smeth, t_oeq, t_eisi, t_ix, t_icall, t_one, t_callk, t_oin, t_obin, t_xcmp, t_oeqs, a_nil', a_cons, s_nil, s_cons, s_set, s_setLc, s_par, s_expr, s_ret, s_retN, s_if, s_never, s_pass, s_brk, s_cont, s_par3, s_oaug, s_raise, g_v', g_tup, g_sub, g_att, gs_nil, gs_cons, gs_tup, g_unl, i_L, i_T, i_S, i_R1, i_ES, i_E, i_Z, p_nil, p_pair, o_nil, o_k, o_v, o_bop, o_uop, o_bi, o_ix, oQ_int, o_att, o_call, i_ET, i_R2, x_K, x_w, x_fn, x_gv, x_tabs, x_mth, x_prp, x_fld, x_isi, x_kwo, x_dfl, x_xf, x_exm, x_eis, x_lt, x_lfn, x_smt, x_cmt, x_cvl, y_cvl, x_opr, y_opr, y_cmt, y_K, y_w, y_fn, y_gv, y_tabs, y_mth, y_prp, y_fld, y_isi, y_kwo, y_dfl, y_xf, y_exm, y_eis, y_smt, isi_int, isi_str, isi_bl, isi_non, ii1, ii2, ii3, ii4, ii5, ii6, ii7, it1, it2, it3, it4, it5, it6, it7, it8, it9, it10, it11, it12, it13, r_add, r_sub, r_mul, r_div, r_mod, r_pow, r_shl, r_shr, r_and, r_or, r_xor, r_neg, r_inv, r_lt, r_le, r_gt, r_ge, r_eqI, r_neI, r_eqS, r_neS, r_inS, r_niS, b_int, b_intB, b_abs, b_lenS, b_strS, r_addS, r_isN, r_eqB, r_neB, List.getElem?_cons_zero, List.getElem?_cons_succ, List.set_cons_zero, List.set_cons_succ, List.map_cons, List.map_nil, List.length_cons, List.length_nil, Nat.reduceAdd, Nat.reduceSub, List.replicate_succ, List.replicate_zero, List.cons_append, List.nil_append, List.append_nil, Bool.not_true, Bool.not_false, if_true, if_false, ite_true, ite_false, Bool.false_eq_true, Bool.true_eq_false, reduceIte]
  cases o with
  | none =>
    obtain rfl : v = .non := hv
    exact h H Ext.refl
  | some ls =>
    obtain ⟨p, rfl, hp⟩ := hv
    obtain ⟨h1, h2, h3, h4⟩ := ho
    try dsimp only
    try simp only [List.getElem?_cons_zero, List.getElem?_cons_succ, List.set_cons_zero, List.set_cons_succ, List.map_cons, List.map_nil, List.length_cons, List.length_nil, Nat.reduceAdd, Nat.reduceSub, List.replicate_succ, List.replicate_zero, List.cons_append, List.nil_append, List.append_nil, Bool.not_true, Bool.not_false, if_true, if_false, ite_true, ite_false, Bool.false_eq_true, Bool.true_eq_false, reduceIte]
    intro q hq
    have xq := Ext.new (H := H) (o := .tup [V.ty "list", V.ty "tuple"]) hq
    have hp1 : upd H q (.tup [V.ty "list", V.ty "tuple"]) p = some (.lst (stV ls)) := xq.get hp
    generalize upd H q (.tup [V.ty "list", V.ty "tuple"]) = H1 at xq hp1 ⊢
    refine isi_rd (.inl hp1) rfl ?_
    rw [show [CR.ty "list", CR.ty "tuple"].any (isiT "list") = true by decide +kernel]
    try simp only [e_k, e_v, e_g, e_bop, e_uop, e_not, e_and, e_or, e_ite, e_cmp, e_cmp2, e_lst, e_tup, e_call, e_mk, e_bi, e_isi, e_meth, e_bm, e_icall, e_ostr, e_att, e_ix, e_sl, e_isiM, e_methk, e_smeth, e_cmeth, e_mkv, e_mkk, kw_nil, e_oeq, e_eatt, e_eisi, e_one, e_rep, e_fmt, e_callk, e_xcmp, e_obin, e_oinv, e_oin, e_olen, e_obool, e_cat, e_fo3, e_rev, e_rgl, e_oeqs, t_v, t_isi, t_call, t_meth, t_bop, t_bi, t_att, t_not, t_and, t_or, t_cmp, t_cmp2, trQ_bl, blQ_bl, t_methk, t_smeth, t_oeq, t_eisi, t_ix, t_icall, t_one, t_callk, t_oin, t_obin, t_xcmp, t_oeqs, a_nil', a_cons, s_nil, s_cons, s_set, s_setLc, s_par, s_expr, s_ret, s_retN, s_if, s_never, s_pass, s_brk, s_cont, s_par3, s_oaug, s_raise, g_v', g_tup, g_sub, g_att, gs_nil, gs_cons, gs_tup, g_unl, i_L, i_T, i_S, i_R1, i_ES, i_E, i_Z, p_nil, p_pair, o_nil, o_k, o_v, o_bop, o_uop, o_bi, o_ix, oQ_int, o_att, o_call, i_ET, i_R2, x_K, x_w, x_fn, x_gv, x_tabs, x_mth, x_prp, x_fld, x_isi, x_kwo, x_dfl, x_xf, x_exm, x_eis, x_lt, x_lfn, x_smt, x_cmt, x_cvl, y_cvl, x_opr, y_opr, y_cmt, y_K, y_w, y_fn, y_gv, y_tabs, y_mth, y_prp, y_fld, y_isi, y_kwo, y_dfl, y_xf, y_exm, y_eis, y_smt, isi_int, isi_str, isi_bl, isi_non, ii1, ii2, ii3, ii4, ii5, ii6, ii7, it1, it2, it3, it4, it5, it6, it7, it8, it9, it10, it11, it12, it13, r_add, r_sub, r_mul, r_div, r_mod, r_pow, r_shl, r_shr, r_and, r_or, r_xor, r_neg, r_inv, r_lt, r_le, r_gt, r_ge, r_eqI, r_neI, r_eqS, r_neS, r_inS, r_niS, b_int, b_intB, b_abs, b_lenS, b_strS, r_addS, r_isN, r_eqB, r_neB, List.getElem?_cons_zero, List.getElem?_cons_succ, List.set_cons_zero, List.set_cons_succ, List.map_cons, List.map_nil, List.length_cons, List.length_nil, Nat.reduceAdd, Nat.reduceSub, List.replicate_succ, List.replicate_zero, List.cons_append, List.nil_append, List.append_nil, Bool.not_true, Bool.not_false, if_true, if_false, ite_true, ite_false, Bool.false_eq_true, Bool.true_eq_false, reduceIte]
    refine b_lenL (.inl (.inl hp1)) ?_
    rw [List.length_map]
    try simp only [e_k, e_v, e_g, e_bop, e_uop, e_not, e_and, e_or, e_ite, e_cmp, e_cmp2, e_lst, e_tup, e_call, e_mk, e_bi, e_isi, e_meth, e_bm, e_icall, e_ostr, e_att, e_ix, e_sl, e_isiM, e_methk, e_smeth, e_cmeth, e_mkv, e_mkk, kw_nil, e_oeq, e_eatt, e_eisi, e_one, e_rep, e_fmt, e_callk, e_xcmp, e_obin, e_oinv, e_oin, e_olen, e_obool, e_cat, e_fo3, e_rev, e_rgl, e_oeqs, t_v, t_isi, t_call, t_meth, t_bop, t_bi, t_att, t_not, t_and, t_or, t_cmp, t_cmp2, trQ_bl, blQ_bl, t_methk, t_smeth, t_oeq, t_eisi, t_ix, t_icall, t_one, t_callk, t_oin, t_obin, t_xcmp, t_oeqs, a_nil', a_cons, s_nil, s_cons, s_set, s_setLc, s_par, s_expr, s_ret, s_retN, s_if, s_never, s_pass, s_brk, s_cont, s_par3, s_oaug, s_raise, g_v', g_tup, g_sub, g_att, gs_nil, gs_cons, gs_tup, g_unl, i_L, i_T, i_S, i_R1, i_ES, i_E, i_Z, p_nil, p_pair, o_nil, o_k, o_v, o_bop, o_uop, o_bi, o_ix, oQ_int, o_att, o_call, i_ET, i_R2, x_K, x_w, x_fn, x_gv, x_tabs, x_mth, x_prp, x_fld, x_isi, x_kwo, x_dfl, x_xf, x_exm, x_eis, x_lt, x_lfn, x_smt, x_cmt, x_cvl, y_cvl, x_opr, y_opr, y_cmt, y_K, y_w, y_fn, y_gv, y_tabs, y_mth, y_prp, y_fld, y_isi, y_kwo, y_dfl, y_xf, y_exm, y_eis, y_smt, isi_int, isi_str, isi_bl, isi_non, ii1, ii2, ii3, ii4, ii5, ii6, ii7, it1, it2, it3, it4, it5, it6, it7, it8, it9, it10, it11, it12, it13, r_add, r_sub, r_mul, r_div, r_mod, r_pow, r_shl, r_shr, r_and, r_or, r_xor, r_neg, r_inv, r_lt, r_le, r_gt, r_ge, r_eqI, r_neI, r_eqS, r_neS, r_inS, r_niS, b_int, b_intB, b_abs, b_lenS, b_strS, r_addS, r_isN, r_eqB, r_neB, List.getElem?_cons_zero, List.getElem?_cons_succ, List.set_cons_zero, List.set_cons_succ, List.map_cons, List.map_nil, List.length_cons, List.length_nil, Nat.reduceAdd, Nat.reduceSub, List.replicate_succ, List.replicate_zero, List.cons_append, List.nil_append, List.append_nil, Bool.not_true, Bool.not_false, if_true, if_false, ite_true, ite_false, Bool.false_eq_true, Bool.true_eq_false, reduceIte]
    simp only [show (1 : Int) ≤ (ls.length : Nat) by omega, show ((ls.length : Nat) : Int) ≤ 2 by omega, decide_true, e_k, e_v, e_g, e_bop, e_uop, e_not, e_and, e_or, e_ite, e_cmp, e_cmp2, e_lst, e_tup, e_call, e_mk, e_bi, e_isi, e_meth, e_bm, e_icall, e_ostr, e_att, e_ix, e_sl, e_isiM, e_methk, e_smeth, e_cmeth, e_mkv, e_mkk, kw_nil, e_oeq, e_eatt, e_eisi, e_one, e_rep, e_fmt, e_callk, e_xcmp, e_obin, e_oinv, e_oin, e_olen, e_obool, e_cat, e_fo3, e_rev, e_rgl, e_oeqs, t_v, t_isi, t_call, t_meth, t_bop, t_bi, t_att, t_not, t_and, t_or, t_cmp, t_cmp2, trQ_bl, blQ_bl, t_methk, t_smeth, t_oeq, t_eisi, t_ix, t_icall, t_one, t_callk, t_oin, t_obin, t_xcmp, t_oeqs, a_nil', a_cons, s_nil, s_cons, s_set, s_setLc, s_par, s_expr, s_ret, s_retN, s_if, s_never, s_pass, s_brk, s_cont, s_par3, s_oaug, s_raise, g_v', g_tup, g_sub, g_att, gs_nil, gs_cons, gs_tup, g_unl, i_L, i_T, i_S, i_R1, i_ES, i_E, i_Z, p_nil, p_pair, o_nil, o_k, o_v, o_bop, o_uop, o_bi, o_ix, oQ_int, o_att, o_call, i_ET, i_R2, x_K, x_w, x_fn, x_gv, x_tabs, x_mth, x_prp, x_fld, x_isi, x_kwo, x_dfl, x_xf, x_exm, x_eis, x_lt, x_lfn, x_smt, x_cmt, x_cvl, y_cvl, x_opr, y_opr, y_cmt, y_K, y_w, y_fn, y_gv, y_tabs, y_mth, y_prp, y_fld, y_isi, y_kwo, y_dfl, y_xf, y_exm, y_eis, y_smt, isi_int, isi_str, isi_bl, isi_non, ii1, ii2, ii3, ii4, ii5, ii6, ii7, it1, it2, it3, it4, it5, it6, it7, it8, it9, it10, it11, it12, it13, r_add, r_sub, r_mul, r_div, r_mod, r_pow, r_shl, r_shr, r_and, r_or, r_xor, r_neg, r_inv, r_lt, r_le, r_gt, r_ge, r_eqI, r_neI, r_eqS, r_neS, r_inS, r_niS, b_int, b_intB, b_abs, b_lenS, b_strS, r_addS, r_isN, r_eqB, r_neB, List.getElem?_cons_zero, List.getElem?_cons_succ, List.set_cons_zero, List.set_cons_succ, List.map_cons, List.map_nil, List.length_cons, List.length_nil, Nat.reduceAdd, Nat.reduceSub, List.replicate_succ, List.replicate_zero, List.cons_append, List.nil_append, List.append_nil, Bool.not_true, Bool.not_false, if_true, if_false, ite_true, ite_false, Bool.false_eq_true, Bool.true_eq_false, reduceIte]
    refine lc_mapv (xs := stV ls) (ok := fun H' => SqL K H' p (stV ls)) (fun _ => some (.bl true)) (fun R r => ?_) (fun H' x => .inl (.inl (x.get hp1))) (by rw [List.length_map, sizeLine_eq]; omega) ?_ ?_
    · rw [i_L, e_v]
      try simp only [e_k, e_v, e_g, e_bop, e_uop, e_not, e_and, e_or, e_ite, e_cmp, e_cmp2, e_lst, e_tup, e_call, e_mk, e_bi, e_isi, e_meth, e_bm, e_icall, e_ostr, e_att, e_ix, e_sl, e_isiM, e_methk, e_smeth, e_cmeth, e_mkv, e_mkk, kw_nil, e_oeq, e_eatt, e_eisi, e_one, e_rep, e_fmt, e_callk, e_xcmp, e_obin, e_oinv, e_oin, e_olen, e_obool, e_cat, e_fo3, e_rev, e_rgl, e_oeqs, t_v, t_isi, t_call, t_meth, t_bop, t_bi, t_att, t_not, t_and, t_or, t_cmp, t_cmp2, trQ_bl, blQ_bl, t_methk, t_smeth, t_oeq, t_eisi, t_ix, t_icall, t_one, t_callk, t_oin, t_obin, t_xcmp, t_oeqs, a_nil', a_cons, s_nil, s_cons, s_set, s_setLc, s_par, s_expr, s_ret, s_retN, s_if, s_never, s_pass, s_brk, s_cont, s_par3, s_oaug, s_raise, g_v', g_tup, g_sub, g_att, gs_nil, gs_cons, gs_tup, g_unl, i_L, i_T, i_S, i_R1, i_ES, i_E, i_Z, p_nil, p_pair, o_nil, o_k, o_v, o_bop, o_uop, o_bi, o_ix, oQ_int, o_att, o_call, i_ET, i_R2, x_K, x_w, x_fn, x_gv, x_tabs, x_mth, x_prp, x_fld, x_isi, x_kwo, x_dfl, x_xf, x_exm, x_eis, x_lt, x_lfn, x_smt, x_cmt, x_cvl, y_cvl, x_opr, y_opr, y_cmt, y_K, y_w, y_fn, y_gv, y_tabs, y_mth, y_prp, y_fld, y_isi, y_kwo, y_dfl, y_xf, y_exm, y_eis, y_smt, isi_int, isi_str, isi_bl, isi_non, ii1, ii2, ii3, ii4, ii5, ii6, ii7, it1, it2, it3, it4, it5, it6, it7, it8, it9, it10, it11, it12, it13, r_add, r_sub, r_mul, r_div, r_mod, r_pow, r_shl, r_shr, r_and, r_or, r_xor, r_neg, r_inv, r_lt, r_le, r_gt, r_ge, r_eqI, r_neI, r_eqS, r_neS, r_inS, r_niS, b_int, b_intB, b_abs, b_lenS, b_strS, r_addS, r_isN, r_eqB, r_neB, List.getElem?_cons_zero, List.getElem?_cons_succ, List.set_cons_zero, List.set_cons_succ, List.map_cons, List.map_nil, List.length_cons, List.length_nil, Nat.reduceAdd, Nat.reduceSub, List.replicate_succ, List.replicate_zero, List.cons_append, List.nil_append, List.append_nil, Bool.not_true, Bool.not_false, if_true, if_false, ite_true, ite_false, Bool.false_eq_true, Bool.true_eq_false, reduceIte]
      exact ⟨_, .inl (.inl hp1), r⟩
    · intro x hx H' x1 P Pv g1 g2
      obtain ⟨l, hl, rfl⟩ := List.mem_map.mp hx
      simp only [lcIf, for_nil, for_v, for_t, lc_nil, lc_v, lc_t, lc_turn0, lc_turn1, wipe_nil, wipe_cons, e_k, e_v, e_g, e_bop, e_uop, e_not, e_and, e_or, e_ite, e_cmp, e_cmp2, e_lst, e_tup, e_dic, e_call, e_mk, e_bi, e_isi, e_meth, e_bm, e_icall, e_ostr, e_att, e_ix, e_sl, e_lc, e_isiM, e_methk, e_smeth, e_cmeth, e_mkv, e_mkk, kw_nil, e_oeq, e_eatt, e_eisi, e_one, e_rep, e_fmt, e_callk, e_xcmp, e_obin, e_oinv, e_oin, e_olen, e_obool, e_cat, e_fo3, e_rev, e_rgl, e_oeqs, t_v, t_isi, t_call, t_meth, t_bop, t_bi, t_att, t_not, t_and, t_or, t_cmp, t_cmp2, trQ_bl, blQ_bl, t_methk, t_smeth, t_oeq, t_eisi, t_ix, t_icall, t_one, t_callk, t_oin, t_obin, t_xcmp, t_oeqs, a_nil', a_cons, s_nil, s_cons, s_set, s_setLc, s_par, s_expr, s_ret, s_retN, s_if, s_for, s_never, s_pass, s_brk, s_cont, s_par3, s_oaug, s_raise, g_v', g_tup, g_sub, g_att, gs_nil, gs_cons, gs_tup, g_unl, i_L, i_T, i_S, i_R1, i_ES, i_E, i_Z, p_nil, p_pair, o_nil, o_k, o_v, o_bop, o_uop, o_bi, o_ix, oQ_int, o_att, o_call, i_ET, i_R2, x_K, x_w, x_fn, x_gv, x_tabs, x_mth, x_prp, x_fld, x_isi, x_kwo, x_dfl, x_xf, x_exm, x_eis, x_lt, x_lfn, x_smt, x_cmt, x_cvl, y_cvl, x_opr, y_opr, y_cmt, y_K, y_w, y_fn, y_gv, y_tabs, y_mth, y_prp, y_fld, y_isi, y_kwo, y_dfl, y_xf, y_exm, y_eis, y_smt, isi_int, isi_str, isi_bl, isi_non, ii1, ii2, ii3, ii4, ii5, ii6, ii7, it1, it2, it3, it4, it5, it6, it7, it8, it9, it10, it11, it12, it13, r_add, r_sub, r_mul, r_div, r_mod, r_pow, r_shl, r_shr, r_and, r_or, r_xor, r_neg, r_inv, r_lt, r_le, r_gt, r_ge, r_eqI, r_neI, r_eqS, r_neS, r_inS, r_niS, b_int, b_intB, b_abs, b_lenS, b_strS, r_addS, r_isN, r_eqB, r_neB, List.getElem?_cons_zero, List.getElem?_cons_succ, List.set_cons_zero, List.set_cons_succ, List.map_cons, List.map_nil, List.length_cons, List.length_nil, Nat.reduceAdd, Nat.reduceSub, List.replicate_succ, List.replicate_zero, List.cons_append, List.nil_append, List.append_nil, Bool.not_true, Bool.not_false, if_true, if_false, ite_true, ite_false, Bool.false_eq_true, Bool.true_eq_false, reduceIte]
      exact c_is_name (h1 l hl) (by omega) fun H2 x2 => g1 _ rfl H2 x2
    · intro r H2 x2 e2
      have e : (stV ls).filterMap (fun _ => some (V.bl true)) = (ls.map fun _ => true).map V.bl := by
        rw [List.filterMap_map, List.map_map, ← List.filterMap_eq_map]
        rfl
      rw [e] at e2
      refine ⟨_, .inl (.inl e2), ?_⟩
      have e3 : (ls.map fun _ => true).all id = true := by rw [List.all_map, List.all_eq_true]; intro _ _; rfl
      rw [e3]
      have hp2 := x2.get hp1
      try simp only [e_k, e_v, e_g, e_bop, e_uop, e_not, e_and, e_or, e_ite, e_cmp, e_cmp2, e_lst, e_tup, e_call, e_mk, e_bi, e_isi, e_meth, e_bm, e_icall, e_ostr, e_att, e_ix, e_sl, e_isiM, e_methk, e_smeth, e_cmeth, e_mkv, e_mkk, kw_nil, e_oeq, e_eatt, e_eisi, e_one, e_rep, e_fmt, e_callk, e_xcmp, e_obin, e_oinv, e_oin, e_olen, e_obool, e_cat, e_fo3, e_rev, e_rgl, e_oeqs, t_v, t_isi, t_call, t_meth, t_bop, t_bi, t_att, t_not, t_and, t_or, t_cmp, t_cmp2, trQ_bl, blQ_bl, t_methk, t_smeth, t_oeq, t_eisi, t_ix, t_icall, t_one, t_callk, t_oin, t_obin, t_xcmp, t_oeqs, a_nil', a_cons, s_nil, s_cons, s_set, s_setLc, s_par, s_expr, s_ret, s_retN, s_if, s_never, s_pass, s_brk, s_cont, s_par3, s_oaug, s_raise, g_v', g_tup, g_sub, g_att, gs_nil, gs_cons, gs_tup, g_unl, i_L, i_T, i_S, i_R1, i_ES, i_E, i_Z, p_nil, p_pair, o_nil, o_k, o_v, o_bop, o_uop, o_bi, o_ix, oQ_int, o_att, o_call, i_ET, i_R2, x_K, x_w, x_fn, x_gv, x_tabs, x_mth, x_prp, x_fld, x_isi, x_kwo, x_dfl, x_xf, x_exm, x_eis, x_lt, x_lfn, x_smt, x_cmt, x_cvl, y_cvl, x_opr, y_opr, y_cmt, y_K, y_w, y_fn, y_gv, y_tabs, y_mth, y_prp, y_fld, y_isi, y_kwo, y_dfl, y_xf, y_exm, y_eis, y_smt, isi_int, isi_str, isi_bl, isi_non, ii1, ii2, ii3, ii4, ii5, ii6, ii7, it1, it2, it3, it4, it5, it6, it7, it8, it9, it10, it11, it12, it13, r_add, r_sub, r_mul, r_div, r_mod, r_pow, r_shl, r_shr, r_and, r_or, r_xor, r_neg, r_inv, r_lt, r_le, r_gt, r_ge, r_eqI, r_neI, r_eqS, r_neS, r_inS, r_niS, b_int, b_intB, b_abs, b_lenS, b_strS, r_addS, r_isN, r_eqB, r_neB, List.getElem?_cons_zero, List.getElem?_cons_succ, List.set_cons_zero, List.set_cons_succ, List.map_cons, List.map_nil, List.length_cons, List.length_nil, Nat.reduceAdd, Nat.reduceSub, List.replicate_succ, List.replicate_zero, List.cons_append, List.nil_append, List.append_nil, Bool.not_true, Bool.not_false, if_true, if_false, ite_true, ite_false, Bool.false_eq_true, Bool.true_eq_false, reduceIte]
      refine b_lenL (.inl (.inl hp2)) ?_
      rw [List.length_map]
      try simp only [e_k, e_v, e_g, e_bop, e_uop, e_not, e_and, e_or, e_ite, e_cmp, e_cmp2, e_lst, e_tup, e_call, e_mk, e_bi, e_isi, e_meth, e_bm, e_icall, e_ostr, e_att, e_ix, e_sl, e_isiM, e_methk, e_smeth, e_cmeth, e_mkv, e_mkk, kw_nil, e_oeq, e_eatt, e_eisi, e_one, e_rep, e_fmt, e_callk, e_xcmp, e_obin, e_oinv, e_oin, e_olen, e_obool, e_cat, e_fo3, e_rev, e_rgl, e_oeqs, t_v, t_isi, t_call, t_meth, t_bop, t_bi, t_att, t_not, t_and, t_or, t_cmp, t_cmp2, trQ_bl, blQ_bl, t_methk, t_smeth, t_oeq, t_eisi, t_ix, t_icall, t_one, t_callk, t_oin, t_obin, t_xcmp, t_oeqs, a_nil', a_cons, s_nil, s_cons, s_set, s_setLc, s_par, s_expr, s_ret, s_retN, s_if, s_never, s_pass, s_brk, s_cont, s_par3, s_oaug, s_raise, g_v', g_tup, g_sub, g_att, gs_nil, gs_cons, gs_tup, g_unl, i_L, i_T, i_S, i_R1, i_ES, i_E, i_Z, p_nil, p_pair, o_nil, o_k, o_v, o_bop, o_uop, o_bi, o_ix, oQ_int, o_att, o_call, i_ET, i_R2, x_K, x_w, x_fn, x_gv, x_tabs, x_mth, x_prp, x_fld, x_isi, x_kwo, x_dfl, x_xf, x_exm, x_eis, x_lt, x_lfn, x_smt, x_cmt, x_cvl, y_cvl, x_opr, y_opr, y_cmt, y_K, y_w, y_fn, y_gv, y_tabs, y_mth, y_prp, y_fld, y_isi, y_kwo, y_dfl, y_xf, y_exm, y_eis, y_smt, isi_int, isi_str, isi_bl, isi_non, ii1, ii2, ii3, ii4, ii5, ii6, ii7, it1, it2, it3, it4, it5, it6, it7, it8, it9, it10, it11, it12, it13, r_add, r_sub, r_mul, r_div, r_mod, r_pow, r_shl, r_shr, r_and, r_or, r_xor, r_neg, r_inv, r_lt, r_le, r_gt, r_ge, r_eqI, r_neI, r_eqS, r_neS, r_inS, r_niS, b_int, b_intB, b_abs, b_lenS, b_strS, r_addS, r_isN, r_eqB, r_neB, List.getElem?_cons_zero, List.getElem?_cons_succ, List.set_cons_zero, List.set_cons_succ, List.map_cons, List.map_nil, List.length_cons, List.length_nil, Nat.reduceAdd, Nat.reduceSub, List.replicate_succ, List.replicate_zero, List.cons_append, List.nil_append, List.append_nil, Bool.not_true, Bool.not_false, if_true, if_false, ite_true, ite_false, Bool.false_eq_true, Bool.true_eq_false, reduceIte]
      match ls, h2, h3, h4, hp2 with
      | [a], _, _, _, hp2 => exact h H2 (xq.trans x2)
      | [a, b], _, _, h4, hp2 =>
        rw [show (((([a, b] : List (List Nat)).length : Nat) : Int) == 1) = false from rfl]
        try simp only [e_k, e_v, e_g, e_bop, e_uop, e_not, e_and, e_or, e_ite, e_cmp, e_cmp2, e_lst, e_tup, e_call, e_mk, e_bi, e_isi, e_meth, e_bm, e_icall, e_ostr, e_att, e_ix, e_sl, e_isiM, e_methk, e_smeth, e_cmeth, e_mkv, e_mkk, kw_nil, e_oeq, e_eatt, e_eisi, e_one, e_rep, e_fmt, e_callk, e_xcmp, e_obin, e_oinv, e_oin, e_olen, e_obool, e_cat, e_fo3, e_rev, e_rgl, e_oeqs, t_v, t_isi, t_call, t_meth, t_bop, t_bi, t_att, t_not, t_and, t_or, t_cmp, t_cmp2, trQ_bl, blQ_bl, t_methk, t_smeth, t_oeq, t_eisi, t_ix, t_icall, t_one, t_callk, t_oin, t_obin, t_xcmp, t_oeqs, a_nil', a_cons, s_nil, s_cons, s_set, s_setLc, s_par, s_expr, s_ret, s_retN, s_if, s_never, s_pass, s_brk, s_cont, s_par3, s_oaug, s_raise, g_v', g_tup, g_sub, g_att, gs_nil, gs_cons, gs_tup, g_unl, i_L, i_T, i_S, i_R1, i_ES, i_E, i_Z, p_nil, p_pair, o_nil, o_k, o_v, o_bop, o_uop, o_bi, o_ix, oQ_int, o_att, o_call, i_ET, i_R2, x_K, x_w, x_fn, x_gv, x_tabs, x_mth, x_prp, x_fld, x_isi, x_kwo, x_dfl, x_xf, x_exm, x_eis, x_lt, x_lfn, x_smt, x_cmt, x_cvl, y_cvl, x_opr, y_opr, y_cmt, y_K, y_w, y_fn, y_gv, y_tabs, y_mth, y_prp, y_fld, y_isi, y_kwo, y_dfl, y_xf, y_exm, y_eis, y_smt, isi_int, isi_str, isi_bl, isi_non, ii1, ii2, ii3, ii4, ii5, ii6, ii7, it1, it2, it3, it4, it5, it6, it7, it8, it9, it10, it11, it12, it13, r_add, r_sub, r_mul, r_div, r_mod, r_pow, r_shl, r_shr, r_and, r_or, r_xor, r_neg, r_inv, r_lt, r_le, r_gt, r_ge, r_eqI, r_neI, r_eqS, r_neS, r_inS, r_niS, b_int, b_intB, b_abs, b_lenS, b_strS, r_addS, r_isN, r_eqB, r_neB, List.getElem?_cons_zero, List.getElem?_cons_succ, List.set_cons_zero, List.set_cons_succ, List.map_cons, List.map_nil, List.length_cons, List.length_nil, Nat.reduceAdd, Nat.reduceSub, List.replicate_succ, List.replicate_zero, List.cons_append, List.nil_append, List.append_nil, Bool.not_true, Bool.not_false, if_true, if_false, ite_true, ite_false, Bool.false_eq_true, Bool.true_eq_false, reduceIte]
        refine x_ixL (.inl (.inl hp2)) (i := 0) rfl ?_
        refine x_ixL (.inl (.inl hp2)) (i := 1) rfl ?_
        have hne : a ≠ b := by
          simp only [List.nodup_cons, List.mem_singleton, List.not_mem_nil, not_false_eq_true, List.nodup_nil, and_self, and_true] at h4
          exact h4
        rw [r_neS, SX.S_beq, beq_eq_false_iff_ne.mpr hne]
        exact h H2 (xq.trans x2)
      | a :: b :: c :: r, _, h3, _, _ => exact absurd h3 (by simp)
theorem c_kept {v : V} {o : ON} (hv : ToL H v o) (ho : Tw o) (hn : 1 ≤ n) (h : ∀ v' H', Ext H H' → TpV H' v' o → Q v' H') : run hd.pg K w n s_kept_names [v] H Q E := by
  refine run_at f_kept_names (by omega) rfl ?_
  simp only [d_kept_names, b_kept_names, L2.start, e_k, e_v, e_g, e_bop, e_uop, e_not, e_and, e_or, e_ite, e_cmp, e_cmp2, e_lst, e_tup, e_call, e_mk, e_bi, e_isi, e_meth, e_bm, e_icall, e_ostr, e_att, e_ix, e_sl, e_isiM, e_methk, e_smeth, e_cmeth, e_mkv, e_mkk, kw_nil, e_oeq, e_eatt, e_eisi, e_one, e_rep, e_fmt, e_callk, e_xcmp, e_obin, e_oinv, e_oin, e_olen, e_obool, e_cat, e_fo3, e_rev, e_rgl, e_oeqs, t_v, t_isi, t_call, t_meth, t_bop, t_bi, t_att, t_not, t_and, t_or, t_cmp, t_cmp2, trQ_bl, blQ_bl, t_methk, t_smeth, t_oeq, t_eisi, t_ix, t_icall, t_one, t_callk, t_oin, t_obin, t_xcmp, t_oeqs, a_nil', a_cons, s_nil, s_cons, s_set, s_setLc, s_par, s_expr, s_ret, s_retN, s_if, s_never, s_pass, s_brk, s_cont, s_par3, s_oaug, s_raise, g_v', g_tup, g_sub, g_att, gs_nil, gs_cons, gs_tup, g_unl, i_L, i_T, i_S, i_R1, i_ES, i_E, i_Z, p_nil, p_pair, o_nil, o_k, o_v, o_bop, o_uop, o_bi, o_ix, oQ_int, o_att, o_call, i_ET, i_R2, x_K, x_w, x_fn, x_gv, x_tabs, x_mth, x_prp, x_fld, x_isi, x_kwo, x_dfl, x_xf, x_exm, x_eis, x_lt, x_lfn, x_smt, x_cmt, x_cvl, y_cvl, x_opr, y_opr, y_cmt, y_K, y_w, y_fn, y_gv, y_tabs, y_mth, y_prp, y_fld, y_isi, y_kwo, y_dfl, y_xf, y_exm, y_eis, y_smt, isi_int, isi_str, isi_bl, isi_non, ii1, ii2, ii3, ii4, ii5, ii6, ii7, it1, it2, it3, it4, it5, it6, it7, it8, it9, it10, it11, it12, it13, r_add, r_sub, r_mul, r_div, r_mod, r_pow, r_shl, r_shr, r_and, r_or, r_xor, r_neg, r_inv, r_lt, r_le, r_gt, r_ge, r_eqI, r_neI, r_eqS, r_neS, r_inS, r_niS, b_int, b_intB, b_abs, b_lenS, b_strS, r_addS, r_isN, r_eqB, r_neB, List.getElem?_cons_zero, List.getElem?_cons_succ, List.set_cons_zero, List.set_cons_succ, List.map_cons, List.map_nil, List.length_cons, List.length_nil, Nat.reduceAdd, Nat.reduceSub, List.replicate_succ, List.replicate_zero, List.cons_append, List.nil_append, List.append_nil, Bool.not_true, Bool.not_false, if_true, if_false, ite_true, ite_false, Bool.false_eq_true, Bool.true_eq_false, reduceIte]
  cases o with
  | none =>
    obtain rfl : v = .non := hv
    exact h .non H Ext.refl rfl
  | some ls =>
    obtain ⟨p, rfl, hp⟩ := hv
    obtain ⟨h1, h2, h3, h4⟩ := ho
    try dsimp only
    try simp only [List.getElem?_cons_zero, List.getElem?_cons_succ, List.set_cons_zero, List.set_cons_succ, List.map_cons, List.map_nil, List.length_cons, List.length_nil, Nat.reduceAdd, Nat.reduceSub, List.replicate_succ, List.replicate_zero, List.cons_append, List.nil_append, List.append_nil, Bool.not_true, Bool.not_false, if_true, if_false, ite_true, ite_false, Bool.false_eq_true, Bool.true_eq_false, reduceIte]
    refine lc_mapv (xs := stV ls) (ok := fun H' => SqL K H' p (stV ls)) some (fun R r => ?_) (fun H' x => .inl (.inl (x.get hp))) (by rw [List.length_map, sizeLine_eq]; omega) ?_ ?_
    · rw [i_L, e_v]
      try simp only [e_k, e_v, e_g, e_bop, e_uop, e_not, e_and, e_or, e_ite, e_cmp, e_cmp2, e_lst, e_tup, e_call, e_mk, e_bi, e_isi, e_meth, e_bm, e_icall, e_ostr, e_att, e_ix, e_sl, e_isiM, e_methk, e_smeth, e_cmeth, e_mkv, e_mkk, kw_nil, e_oeq, e_eatt, e_eisi, e_one, e_rep, e_fmt, e_callk, e_xcmp, e_obin, e_oinv, e_oin, e_olen, e_obool, e_cat, e_fo3, e_rev, e_rgl, e_oeqs, t_v, t_isi, t_call, t_meth, t_bop, t_bi, t_att, t_not, t_and, t_or, t_cmp, t_cmp2, trQ_bl, blQ_bl, t_methk, t_smeth, t_oeq, t_eisi, t_ix, t_icall, t_one, t_callk, t_oin, t_obin, t_xcmp, t_oeqs, a_nil', a_cons, s_nil, s_cons, s_set, s_setLc, s_par, s_expr, s_ret, s_retN, s_if, s_never, s_pass, s_brk, s_cont, s_par3, s_oaug, s_raise, g_v', g_tup, g_sub, g_att, gs_nil, gs_cons, gs_tup, g_unl, i_L, i_T, i_S, i_R1, i_ES, i_E, i_Z, p_nil, p_pair, o_nil, o_k, o_v, o_bop, o_uop, o_bi, o_ix, oQ_int, o_att, o_call, i_ET, i_R2, x_K, x_w, x_fn, x_gv, x_tabs, x_mth, x_prp, x_fld, x_isi, x_kwo, x_dfl, x_xf, x_exm, x_eis, x_lt, x_lfn, x_smt, x_cmt, x_cvl, y_cvl, x_opr, y_opr, y_cmt, y_K, y_w, y_fn, y_gv, y_tabs, y_mth, y_prp, y_fld, y_isi, y_kwo, y_dfl, y_xf, y_exm, y_eis, y_smt, isi_int, isi_str, isi_bl, isi_non, ii1, ii2, ii3, ii4, ii5, ii6, ii7, it1, it2, it3, it4, it5, it6, it7, it8, it9, it10, it11, it12, it13, r_add, r_sub, r_mul, r_div, r_mod, r_pow, r_shl, r_shr, r_and, r_or, r_xor, r_neg, r_inv, r_lt, r_le, r_gt, r_ge, r_eqI, r_neI, r_eqS, r_neS, r_inS, r_niS, b_int, b_intB, b_abs, b_lenS, b_strS, r_addS, r_isN, r_eqB, r_neB, List.getElem?_cons_zero, List.getElem?_cons_succ, List.set_cons_zero, List.set_cons_succ, List.map_cons, List.map_nil, List.length_cons, List.length_nil, Nat.reduceAdd, Nat.reduceSub, List.replicate_succ, List.replicate_zero, List.cons_append, List.nil_append, List.append_nil, Bool.not_true, Bool.not_false, if_true, if_false, ite_true, ite_false, Bool.false_eq_true, Bool.true_eq_false, reduceIte]
      exact ⟨_, .inl (.inl hp), r⟩
    · intro x hx H' x1 P Pv g1 g2
      obtain ⟨l, hl, rfl⟩ := List.mem_map.mp hx
      simp only [lcIf, for_nil, for_v, for_t, lc_nil, lc_v, lc_t, lc_turn0, lc_turn1, wipe_nil, wipe_cons, e_k, e_v, e_g, e_bop, e_uop, e_not, e_and, e_or, e_ite, e_cmp, e_cmp2, e_lst, e_tup, e_dic, e_call, e_mk, e_bi, e_isi, e_meth, e_bm, e_icall, e_ostr, e_att, e_ix, e_sl, e_lc, e_isiM, e_methk, e_smeth, e_cmeth, e_mkv, e_mkk, kw_nil, e_oeq, e_eatt, e_eisi, e_one, e_rep, e_fmt, e_callk, e_xcmp, e_obin, e_oinv, e_oin, e_olen, e_obool, e_cat, e_fo3, e_rev, e_rgl, e_oeqs, t_v, t_isi, t_call, t_meth, t_bop, t_bi, t_att, t_not, t_and, t_or, t_cmp, t_cmp2, trQ_bl, blQ_bl, t_methk, t_smeth, t_oeq, t_eisi, t_ix, t_icall, t_one, t_callk, t_oin, t_obin, t_xcmp, t_oeqs, a_nil', a_cons, s_nil, s_cons, s_set, s_setLc, s_par, s_expr, s_ret, s_retN, s_if, s_for, s_never, s_pass, s_brk, s_cont, s_par3, s_oaug, s_raise, g_v', g_tup, g_sub, g_att, gs_nil, gs_cons, gs_tup, g_unl, i_L, i_T, i_S, i_R1, i_ES, i_E, i_Z, p_nil, p_pair, o_nil, o_k, o_v, o_bop, o_uop, o_bi, o_ix, oQ_int, o_att, o_call, i_ET, i_R2, x_K, x_w, x_fn, x_gv, x_tabs, x_mth, x_prp, x_fld, x_isi, x_kwo, x_dfl, x_xf, x_exm, x_eis, x_lt, x_lfn, x_smt, x_cmt, x_cvl, y_cvl, x_opr, y_opr, y_cmt, y_K, y_w, y_fn, y_gv, y_tabs, y_mth, y_prp, y_fld, y_isi, y_kwo, y_dfl, y_xf, y_exm, y_eis, y_smt, isi_int, isi_str, isi_bl, isi_non, ii1, ii2, ii3, ii4, ii5, ii6, ii7, it1, it2, it3, it4, it5, it6, it7, it8, it9, it10, it11, it12, it13, r_add, r_sub, r_mul, r_div, r_mod, r_pow, r_shl, r_shr, r_and, r_or, r_xor, r_neg, r_inv, r_lt, r_le, r_gt, r_ge, r_eqI, r_neI, r_eqS, r_neS, r_inS, r_niS, b_int, b_intB, b_abs, b_lenS, b_strS, r_addS, r_isN, r_eqB, r_neB, List.getElem?_cons_zero, List.getElem?_cons_succ, List.set_cons_zero, List.set_cons_succ, List.map_cons, List.map_nil, List.length_cons, List.length_nil, Nat.reduceAdd, Nat.reduceSub, List.replicate_succ, List.replicate_zero, List.cons_append, List.nil_append, List.append_nil, Bool.not_true, Bool.not_false, if_true, if_false, ite_true, ite_false, Bool.false_eq_true, Bool.true_eq_false, reduceIte]
      exact g1 _ rfl H' Ext.refl
    · intro r H2 x2 e2
      rw [List.filterMap_some] at e2
      rw [show stV ls = (ls.map S).map V.str by rw [List.map_map]; rfl] at e2
      refine .inr (.inl ⟨r, ls.map S, rfl, .inl (.inl e2), by rw [List.length_map]; omega, fun ys q hy _ hq => ?_⟩)
      have x3 := Ext.new (H := H2) (o := .lst (ys.map V.str)) hq
      refine ⟨_, .inl ⟨.inl (.inl upd_same), fun t ht => ?_⟩⟩
      have x4 := Ext.new (o := .tup (ys.map V.str)) ht
      refine h _ _ (x2.trans (x3.trans x4)) ⟨t, ys.map fun s => s.cps.toList, rfl, ?_, ?_⟩
      · have := hy.map fun s : Str => s.cps.toList
        rw [List.map_map] at this
        exact this.trans (by rw [show ((fun s : Str => s.cps.toList) ∘ S) = id from rfl, List.map_id])
      · rw [upd_same]
        show _ = some (HO.tup ((ys.map fun s => s.cps.toList).map fun l => V.str (S l)))
        rw [List.map_map]
        rfl
end U

namespace U
open PySem PySem.Spec PyProof.Rows L2
variable {K : PySem.W.Frag} {w : World} {n m : Nat} {H : Hp} {Q : VK} {E : XK}
theorem gvF : hd.pg.gv K s_FORMS = some (.ref (He.ga K s_FORMS)) := rfl
theorem tupF (hT : hd.Tups K) : SqT K H (He.ga K s_FORMS) (stV [tFile, tFolder]) := hT _ (List.Mem.head _) H
theorem AsN.ext {H' : Hp} {v : V} {b : Int} (h : AsN K H v b) (x : Ext H H') : AsN K H' v b := by
  rcases h with ⟨m, e, h⟩ | h
  · exact .inl ⟨m, e, h.ext x⟩
  · exact .inr h
/-- a line -/
def Ln (K : PySem.W.Frag) (H : Hp) (x : Addr) (fo : List Nat) (ow gr : ON) (mu ne : Int) : Prop := ∃ dx vo vg pm pn, H x = some (.ins (He.ga K s_Line) dx [(s_own_form, .str (S fo)), (s_own_owners, vo), (s_own_groups, vg), (s_own_must, .ref pm), (s_own_never, .ref pn)]) ∧ TpV H vo ow ∧ TpV H vg gr ∧ IsM K H pm mu ∧ IsM K H pn ne
theorem Ln.ext {H' : Hp} {x : Addr} {fo : List Nat} {ow gr : ON} {mu ne : Int} (h : Ln K H x fo ow gr mu ne) (y : Ext H H') : Ln K H' x fo ow gr mu ne := by
  obtain ⟨dx, vo, vg, pm, pn, h1, h2, h3, h4, h5⟩ := h
  exact ⟨dx, vo, vg, pm, pn, y.get h1, h2.ext y, h3.ext y, h4.ext y, h5.ext y⟩
theorem Ext.thenP {H' H'' : Hp} {x : Addr} (y : Ext H H') (hx : H x = none) (z : ExtP x H' H'') : Ext H H'' := fun a o e => z a o (ne_of_none e hx) (y a o e)
theorem TpV.extP {H' : Hp} {x : Addr} {v : V} {o : ON} (h : TpV H v o) (hx : ∀ xs, H x ≠ some (.tup xs)) (y : ExtP x H H') : TpV H' v o := by
  cases o with
  | none => exact h
  | some ls =>
    obtain ⟨t, ys, e, hp, h⟩ := h
    exact ⟨t, ys, e, hp, y t _ (fun z => hx _ (z ▸ h)) h⟩
theorem IsM.extP {H' : Hp} {x m : Addr} {b : Int} (h : IsM K H m b) (hx : m ≠ x) (y : ExtP x H H') : IsM K H' m b := by
  obtain ⟨dx, h⟩ := h
  exact ⟨dx, y _ _ hx h⟩
theorem IsM.ne {x m c dx : Addr} {b : Int} {p q : Str × V} {fs : List (Str × V)} (h : IsM K H m b) (hx : H x = some (.ins c dx (p :: q :: fs))) : m ≠ x := fun e => by
  obtain ⟨dy, h⟩ := h
  rw [e, hx] at h
  cases h
theorem mthL : hd.pg.mth s_Line "__init__" = some s_Line___init__ := by decide +kernel
theorem mk_Line {Q' : Addr → Hp → Prop} {fo : List Nat} {vo vg vm vn : V} {ow gr : ON} {mu ne : Int} (hn : 4 ≤ n) (hT : hd.Tups K) (hf : fo = tFile ∨ fo = tFolder) (h1 : ToL H vo ow) (w1 : Tw ow) (h2 : ToL H vg gr) (w2 : Tw gr)
    (h3 : AsN K H vm mu) (b3 : 0 ≤ mu ∧ mu ≤ 511) (h4 : AsN K H vn ne) (b4 : 0 ≤ ne ∧ ne ≤ 511) (hmn : Builtin.bitAnd mu ne = 0) (h : ∀ x H', Ext H H' → Ln K H' x fo ow gr mu ne → Q' x H') :
    ∀ x dx, H x = none → H dx = none → dx ≠ x → ∃ key, hd.pg.mth s_Line "__init__" = some key ∧ run hd.pg K w n key [.ref x, .str (S fo), vo, vg, vm, vn] (upd (upd H dx (.own x)) x (.ins (He.ga K s_Line) dx [])) (fun v H2 => v = .non ∧ Q' x H2) E := by
  intro x dx hx hdx hne
  refine ⟨_, mthL, ?_⟩
  have x0 : Ext H (upd (upd H dx (.own x)) x (.ins (He.ga K s_Line) dx [])) := fun a o e => by
    rw [upd_ne (ne_of_none e hx), upd_ne (ne_of_none e hdx)]
    exact e
  have e0 : upd (upd H dx (.own x)) x (.ins (He.ga K s_Line) dx []) x = some (.ins (He.ga K s_Line) dx []) := upd_same
  generalize upd (upd H dx (.own x)) x (.ins (He.ga K s_Line) dx []) = H0 at x0 e0 ⊢
  refine run_at f_Line___init__ (by omega) rfl ?_
  simp only [d_Line___init__, b_Line___init__, L2.start, gvF, e_k, e_v, e_g, e_bop, e_uop, e_not, e_and, e_or, e_ite, e_cmp, e_cmp2, e_lst, e_tup, e_call, e_mk, e_bi, e_isi, e_meth, e_bm, e_icall, e_ostr, e_att, e_ix, e_sl, e_isiM, e_methk, e_smeth, e_cmeth, e_mkv, e_mkk, kw_nil, e_oeq, e_eatt, e_eisi, e_one, e_rep, e_fmt, e_callk, e_xcmp, e_obin, e_oinv, e_oin, e_olen, e_obool, e_cat, e_fo3, e_rev, e_rgl, e_oeqs, t_v, t_isi, t_call, t_meth, t_bop, t_bi, t_att, t_not, t_and, t_or, t_cmp, t_cmp2, trQ_bl, blQ_bl, t_methk, t_smeth, t_oeq, t_eisi, t_ix, t_icall, t_one, t_callk, t_oin, t_obin, t_xcmp, t_oeqs, a_nil', a_cons, s_nil, s_cons, s_set, s_setLc, s_par, s_expr, s_ret, s_retN, s_if, s_never, s_pass, s_brk, s_cont, s_par3, s_oaug, s_raise, g_v', g_tup, g_sub, g_att, gs_nil, gs_cons, gs_tup, g_unl, i_L, i_T, i_S, i_R1, i_ES, i_E, i_Z, p_nil, p_pair, o_nil, o_k, o_v, o_bop, o_uop, o_bi, o_ix, oQ_int, o_att, o_call, i_ET, i_R2, x_K, x_w, x_fn, x_gv, x_tabs, x_mth, x_prp, x_fld, x_isi, x_kwo, x_dfl, x_xf, x_exm, x_eis, x_lt, x_lfn, x_smt, x_cmt, x_cvl, y_cvl, x_opr, y_opr, y_cmt, y_K, y_w, y_fn, y_gv, y_tabs, y_mth, y_prp, y_fld, y_isi, y_kwo, y_dfl, y_xf, y_exm, y_eis, y_smt, isi_int, isi_str, isi_bl, isi_non, ii1, ii2, ii3, ii4, ii5, ii6, ii7, it1, it2, it3, it4, it5, it6, it7, it8, it9, it10, it11, it12, it13, r_add, r_sub, r_mul, r_div, r_mod, r_pow, r_shl, r_shr, r_and, r_or, r_xor, r_neg, r_inv, r_lt, r_le, r_gt, r_ge, r_eqI, r_neI, r_eqS, r_neS, r_inS, r_niS, b_int, b_intB, b_abs, b_lenS, b_strS, r_addS, r_isN, r_eqB, r_neB, List.getElem?_cons_zero, List.getElem?_cons_succ, List.set_cons_zero, List.set_cons_succ, List.map_cons, List.map_nil, List.length_cons, List.length_nil, Nat.reduceAdd, Nat.reduceSub, List.replicate_succ, List.replicate_zero, List.cons_append, List.nil_append, List.append_nil, Bool.not_true, Bool.not_false, if_true, if_false, ite_true, ite_false, Bool.false_eq_true, Bool.true_eq_false, reduceIte]
  refine r_niL (.inr (tupF hT)) rfl (flat_strs _) ?_
  rw [inV_strs, show [tFile, tFolder].contains fo = true by rcases hf with rfl | rfl <;> decide]
  try simp only [e_k, e_v, e_g, e_bop, e_uop, e_not, e_and, e_or, e_ite, e_cmp, e_cmp2, e_lst, e_tup, e_call, e_mk, e_bi, e_isi, e_meth, e_bm, e_icall, e_ostr, e_att, e_ix, e_sl, e_isiM, e_methk, e_smeth, e_cmeth, e_mkv, e_mkk, kw_nil, e_oeq, e_eatt, e_eisi, e_one, e_rep, e_fmt, e_callk, e_xcmp, e_obin, e_oinv, e_oin, e_olen, e_obool, e_cat, e_fo3, e_rev, e_rgl, e_oeqs, t_v, t_isi, t_call, t_meth, t_bop, t_bi, t_att, t_not, t_and, t_or, t_cmp, t_cmp2, trQ_bl, blQ_bl, t_methk, t_smeth, t_oeq, t_eisi, t_ix, t_icall, t_one, t_callk, t_oin, t_obin, t_xcmp, t_oeqs, a_nil', a_cons, s_nil, s_cons, s_set, s_setLc, s_par, s_expr, s_ret, s_retN, s_if, s_never, s_pass, s_brk, s_cont, s_par3, s_oaug, s_raise, g_v', g_tup, g_sub, g_att, gs_nil, gs_cons, gs_tup, g_unl, i_L, i_T, i_S, i_R1, i_ES, i_E, i_Z, p_nil, p_pair, o_nil, o_k, o_v, o_bop, o_uop, o_bi, o_ix, oQ_int, o_att, o_call, i_ET, i_R2, x_K, x_w, x_fn, x_gv, x_tabs, x_mth, x_prp, x_fld, x_isi, x_kwo, x_dfl, x_xf, x_exm, x_eis, x_lt, x_lfn, x_smt, x_cmt, x_cvl, y_cvl, x_opr, y_opr, y_cmt, y_K, y_w, y_fn, y_gv, y_tabs, y_mth, y_prp, y_fld, y_isi, y_kwo, y_dfl, y_xf, y_exm, y_eis, y_smt, isi_int, isi_str, isi_bl, isi_non, ii1, ii2, ii3, ii4, ii5, ii6, ii7, it1, it2, it3, it4, it5, it6, it7, it8, it9, it10, it11, it12, it13, r_add, r_sub, r_mul, r_div, r_mod, r_pow, r_shl, r_shr, r_and, r_or, r_xor, r_neg, r_inv, r_lt, r_le, r_gt, r_ge, r_eqI, r_neI, r_eqS, r_neS, r_inS, r_niS, b_int, b_intB, b_abs, b_lenS, b_strS, r_addS, r_isN, r_eqB, r_neB, List.getElem?_cons_zero, List.getElem?_cons_succ, List.set_cons_zero, List.set_cons_succ, List.map_cons, List.map_nil, List.length_cons, List.length_nil, Nat.reduceAdd, Nat.reduceSub, List.replicate_succ, List.replicate_zero, List.cons_append, List.nil_append, List.append_nil, Bool.not_true, Bool.not_false, if_true, if_false, ite_true, ite_false, Bool.false_eq_true, Bool.true_eq_false, reduceIte]
  rw [s_for, i_T]
  try simp only [e_k, e_v, e_g, e_bop, e_uop, e_not, e_and, e_or, e_ite, e_cmp, e_cmp2, e_lst, e_tup, e_call, e_mk, e_bi, e_isi, e_meth, e_bm, e_icall, e_ostr, e_att, e_ix, e_sl, e_isiM, e_methk, e_smeth, e_cmeth, e_mkv, e_mkk, kw_nil, e_oeq, e_eatt, e_eisi, e_one, e_rep, e_fmt, e_callk, e_xcmp, e_obin, e_oinv, e_oin, e_olen, e_obool, e_cat, e_fo3, e_rev, e_rgl, e_oeqs, t_v, t_isi, t_call, t_meth, t_bop, t_bi, t_att, t_not, t_and, t_or, t_cmp, t_cmp2, trQ_bl, blQ_bl, t_methk, t_smeth, t_oeq, t_eisi, t_ix, t_icall, t_one, t_callk, t_oin, t_obin, t_xcmp, t_oeqs, a_nil', a_cons, s_nil, s_cons, s_set, s_setLc, s_par, s_expr, s_ret, s_retN, s_if, s_never, s_pass, s_brk, s_cont, s_par3, s_oaug, s_raise, g_v', g_tup, g_sub, g_att, gs_nil, gs_cons, gs_tup, g_unl, i_L, i_T, i_S, i_R1, i_ES, i_E, i_Z, p_nil, p_pair, o_nil, o_k, o_v, o_bop, o_uop, o_bi, o_ix, oQ_int, o_att, o_call, i_ET, i_R2, x_K, x_w, x_fn, x_gv, x_tabs, x_mth, x_prp, x_fld, x_isi, x_kwo, x_dfl, x_xf, x_exm, x_eis, x_lt, x_lfn, x_smt, x_cmt, x_cvl, y_cvl, x_opr, y_opr, y_cmt, y_K, y_w, y_fn, y_gv, y_tabs, y_mth, y_prp, y_fld, y_isi, y_kwo, y_dfl, y_xf, y_exm, y_eis, y_smt, isi_int, isi_str, isi_bl, isi_non, ii1, ii2, ii3, ii4, ii5, ii6, ii7, it1, it2, it3, it4, it5, it6, it7, it8, it9, it10, it11, it12, it13, r_add, r_sub, r_mul, r_div, r_mod, r_pow, r_shl, r_shr, r_and, r_or, r_xor, r_neg, r_inv, r_lt, r_le, r_gt, r_ge, r_eqI, r_neI, r_eqS, r_neS, r_inS, r_niS, b_int, b_intB, b_abs, b_lenS, b_strS, r_addS, r_isN, r_eqB, r_neB, List.getElem?_cons_zero, List.getElem?_cons_succ, List.set_cons_zero, List.set_cons_succ, List.map_cons, List.map_nil, List.length_cons, List.length_nil, Nat.reduceAdd, Nat.reduceSub, List.replicate_succ, List.replicate_zero, List.cons_append, List.nil_append, List.append_nil, Bool.not_true, Bool.not_false, if_true, if_false, ite_true, ite_false, Bool.false_eq_true, Bool.true_eq_false, reduceIte]
  refine ⟨by decide, fun a ha => ?_⟩
  have xa := Ext.new (H := H0) (o := .tup [.int 1, vo]) ha
  have ea : upd H0 a (.tup [.int 1, vo]) a = some (.tup [.int 1, vo]) := upd_same
  generalize upd H0 a (.tup [.int 1, vo]) = Ha at xa ea ⊢
  refine ⟨by decide, fun b hb => ?_⟩
  have xb := Ext.new (H := Ha) (o := .tup [.int 2, vg]) hb
  have eb : upd Ha b (.tup [.int 2, vg]) b = some (.tup [.int 2, vg]) := upd_same
  generalize upd Ha b (.tup [.int 2, vg]) = Hb at xb eb ⊢
  refine ⟨by decide, fun c hc => ?_⟩
  have xc := Ext.new (H := Hb) (o := .tup [.ref a, .ref b]) hc
  have ec : upd Hb c (.tup [.ref a, .ref b]) c = some (.tup [.ref a, .ref b]) := upd_same
  generalize upd Hb c (.tup [.ref a, .ref b]) = Hc at xc ec ⊢
  refine ⟨_, .inl (.inl ec), ?_⟩
  rw [List.map_cons, for_v]
  refine ⟨.inl (.inl ec), ?_⟩
  simp only [g_tup, gs_cons, gs_nil, g_v', List.getElem?_cons_zero, List.getElem?_cons_succ, List.set_cons_zero, List.set_cons_succ, List.map_cons, List.map_nil, List.length_cons, List.length_nil, Nat.reduceAdd, Nat.reduceSub, List.replicate_succ, List.replicate_zero, List.cons_append, List.nil_append, List.append_nil, Bool.not_true, Bool.not_false, if_true, if_false, ite_true, ite_false, Bool.false_eq_true, Bool.true_eq_false, reduceIte]
  refine ⟨_, .inl (.inl (xc.get (xb.get ea))), rfl, ?_⟩
  simp only [gs_cons, gs_nil, g_v', e_k, e_v, e_g, e_bop, e_uop, e_not, e_and, e_or, e_ite, e_cmp, e_cmp2, e_lst, e_tup, e_call, e_mk, e_bi, e_isi, e_meth, e_bm, e_icall, e_ostr, e_att, e_ix, e_sl, e_isiM, e_methk, e_smeth, e_cmeth, e_mkv, e_mkk, kw_nil, e_oeq, e_eatt, e_eisi, e_one, e_rep, e_fmt, e_callk, e_xcmp, e_obin, e_oinv, e_oin, e_olen, e_obool, e_cat, e_fo3, e_rev, e_rgl, e_oeqs, t_v, t_isi, t_call, t_meth, t_bop, t_bi, t_att, t_not, t_and, t_or, t_cmp, t_cmp2, trQ_bl, blQ_bl, t_methk, t_smeth, t_oeq, t_eisi, t_ix, t_icall, t_one, t_callk, t_oin, t_obin, t_xcmp, t_oeqs, a_nil', a_cons, s_nil, s_cons, s_set, s_setLc, s_par, s_expr, s_ret, s_retN, s_if, s_never, s_pass, s_brk, s_cont, s_par3, s_oaug, s_raise, g_v', g_tup, g_sub, g_att, gs_nil, gs_cons, gs_tup, g_unl, i_L, i_T, i_S, i_R1, i_ES, i_E, i_Z, p_nil, p_pair, o_nil, o_k, o_v, o_bop, o_uop, o_bi, o_ix, oQ_int, o_att, o_call, i_ET, i_R2, x_K, x_w, x_fn, x_gv, x_tabs, x_mth, x_prp, x_fld, x_isi, x_kwo, x_dfl, x_xf, x_exm, x_eis, x_lt, x_lfn, x_smt, x_cmt, x_cvl, y_cvl, x_opr, y_opr, y_cmt, y_K, y_w, y_fn, y_gv, y_tabs, y_mth, y_prp, y_fld, y_isi, y_kwo, y_dfl, y_xf, y_exm, y_eis, y_smt, isi_int, isi_str, isi_bl, isi_non, ii1, ii2, ii3, ii4, ii5, ii6, ii7, it1, it2, it3, it4, it5, it6, it7, it8, it9, it10, it11, it12, it13, r_add, r_sub, r_mul, r_div, r_mod, r_pow, r_shl, r_shr, r_and, r_or, r_xor, r_neg, r_inv, r_lt, r_le, r_gt, r_ge, r_eqI, r_neI, r_eqS, r_neS, r_inS, r_niS, b_int, b_intB, b_abs, b_lenS, b_strS, r_addS, r_isN, r_eqB, r_neB, List.getElem?_cons_zero, List.getElem?_cons_succ, List.set_cons_zero, List.set_cons_succ, List.map_cons, List.map_nil, List.length_cons, List.length_nil, Nat.reduceAdd, Nat.reduceSub, List.replicate_succ, List.replicate_zero, List.cons_append, List.nil_append, List.append_nil, Bool.not_true, Bool.not_false, if_true, if_false, ite_true, ite_false, Bool.false_eq_true, Bool.true_eq_false, reduceIte]
  have yc := x0.trans (xa.trans (xb.trans xc))
  refine ⟨trivial, c_is_told (h1.ext yc) w1 (by omega) fun H1 z1 => ?_⟩
  try simp only [e_k, e_v, e_g, e_bop, e_uop, e_not, e_and, e_or, e_ite, e_cmp, e_cmp2, e_lst, e_tup, e_call, e_mk, e_bi, e_isi, e_meth, e_bm, e_icall, e_ostr, e_att, e_ix, e_sl, e_isiM, e_methk, e_smeth, e_cmeth, e_mkv, e_mkk, kw_nil, e_oeq, e_eatt, e_eisi, e_one, e_rep, e_fmt, e_callk, e_xcmp, e_obin, e_oinv, e_oin, e_olen, e_obool, e_cat, e_fo3, e_rev, e_rgl, e_oeqs, t_v, t_isi, t_call, t_meth, t_bop, t_bi, t_att, t_not, t_and, t_or, t_cmp, t_cmp2, trQ_bl, blQ_bl, t_methk, t_smeth, t_oeq, t_eisi, t_ix, t_icall, t_one, t_callk, t_oin, t_obin, t_xcmp, t_oeqs, a_nil', a_cons, s_nil, s_cons, s_set, s_setLc, s_par, s_expr, s_ret, s_retN, s_if, s_never, s_pass, s_brk, s_cont, s_par3, s_oaug, s_raise, g_v', g_tup, g_sub, g_att, gs_nil, gs_cons, gs_tup, g_unl, i_L, i_T, i_S, i_R1, i_ES, i_E, i_Z, p_nil, p_pair, o_nil, o_k, o_v, o_bop, o_uop, o_bi, o_ix, oQ_int, o_att, o_call, i_ET, i_R2, x_K, x_w, x_fn, x_gv, x_tabs, x_mth, x_prp, x_fld, x_isi, x_kwo, x_dfl, x_xf, x_exm, x_eis, x_lt, x_lfn, x_smt, x_cmt, x_cvl, y_cvl, x_opr, y_opr, y_cmt, y_K, y_w, y_fn, y_gv, y_tabs, y_mth, y_prp, y_fld, y_isi, y_kwo, y_dfl, y_xf, y_exm, y_eis, y_smt, isi_int, isi_str, isi_bl, isi_non, ii1, ii2, ii3, ii4, ii5, ii6, ii7, it1, it2, it3, it4, it5, it6, it7, it8, it9, it10, it11, it12, it13, r_add, r_sub, r_mul, r_div, r_mod, r_pow, r_shl, r_shr, r_and, r_or, r_xor, r_neg, r_inv, r_lt, r_le, r_gt, r_ge, r_eqI, r_neI, r_eqS, r_neS, r_inS, r_niS, b_int, b_intB, b_abs, b_lenS, b_strS, r_addS, r_isN, r_eqB, r_neB, List.getElem?_cons_zero, List.getElem?_cons_succ, List.set_cons_zero, List.set_cons_succ, List.map_cons, List.map_nil, List.length_cons, List.length_nil, Nat.reduceAdd, Nat.reduceSub, List.replicate_succ, List.replicate_zero, List.cons_append, List.nil_append, List.append_nil, Bool.not_true, Bool.not_false, if_true, if_false, ite_true, ite_false, Bool.false_eq_true, Bool.true_eq_false, reduceIte]
  rw [for_v]
  refine ⟨.inl (.inl (z1.get ec)), ?_⟩
  simp only [g_tup, gs_cons, gs_nil, g_v', List.getElem?_cons_zero, List.getElem?_cons_succ, List.set_cons_zero, List.set_cons_succ, List.map_cons, List.map_nil, List.length_cons, List.length_nil, Nat.reduceAdd, Nat.reduceSub, List.replicate_succ, List.replicate_zero, List.cons_append, List.nil_append, List.append_nil, Bool.not_true, Bool.not_false, if_true, if_false, ite_true, ite_false, Bool.false_eq_true, Bool.true_eq_false, reduceIte]
  refine ⟨_, .inl (.inl (z1.get (xc.get eb))), rfl, ?_⟩
  simp only [gs_cons, gs_nil, g_v', e_k, e_v, e_g, e_bop, e_uop, e_not, e_and, e_or, e_ite, e_cmp, e_cmp2, e_lst, e_tup, e_call, e_mk, e_bi, e_isi, e_meth, e_bm, e_icall, e_ostr, e_att, e_ix, e_sl, e_isiM, e_methk, e_smeth, e_cmeth, e_mkv, e_mkk, kw_nil, e_oeq, e_eatt, e_eisi, e_one, e_rep, e_fmt, e_callk, e_xcmp, e_obin, e_oinv, e_oin, e_olen, e_obool, e_cat, e_fo3, e_rev, e_rgl, e_oeqs, t_v, t_isi, t_call, t_meth, t_bop, t_bi, t_att, t_not, t_and, t_or, t_cmp, t_cmp2, trQ_bl, blQ_bl, t_methk, t_smeth, t_oeq, t_eisi, t_ix, t_icall, t_one, t_callk, t_oin, t_obin, t_xcmp, t_oeqs, a_nil', a_cons, s_nil, s_cons, s_set, s_setLc, s_par, s_expr, s_ret, s_retN, s_if, s_never, s_pass, s_brk, s_cont, s_par3, s_oaug, s_raise, g_v', g_tup, g_sub, g_att, gs_nil, gs_cons, gs_tup, g_unl, i_L, i_T, i_S, i_R1, i_ES, i_E, i_Z, p_nil, p_pair, o_nil, o_k, o_v, o_bop, o_uop, o_bi, o_ix, oQ_int, o_att, o_call, i_ET, i_R2, x_K, x_w, x_fn, x_gv, x_tabs, x_mth, x_prp, x_fld, x_isi, x_kwo, x_dfl, x_xf, x_exm, x_eis, x_lt, x_lfn, x_smt, x_cmt, x_cvl, y_cvl, x_opr, y_opr, y_cmt, y_K, y_w, y_fn, y_gv, y_tabs, y_mth, y_prp, y_fld, y_isi, y_kwo, y_dfl, y_xf, y_exm, y_eis, y_smt, isi_int, isi_str, isi_bl, isi_non, ii1, ii2, ii3, ii4, ii5, ii6, ii7, it1, it2, it3, it4, it5, it6, it7, it8, it9, it10, it11, it12, it13, r_add, r_sub, r_mul, r_div, r_mod, r_pow, r_shl, r_shr, r_and, r_or, r_xor, r_neg, r_inv, r_lt, r_le, r_gt, r_ge, r_eqI, r_neI, r_eqS, r_neS, r_inS, r_niS, b_int, b_intB, b_abs, b_lenS, b_strS, r_addS, r_isN, r_eqB, r_neB, List.getElem?_cons_zero, List.getElem?_cons_succ, List.set_cons_zero, List.set_cons_succ, List.map_cons, List.map_nil, List.length_cons, List.length_nil, Nat.reduceAdd, Nat.reduceSub, List.replicate_succ, List.replicate_zero, List.cons_append, List.nil_append, List.append_nil, Bool.not_true, Bool.not_false, if_true, if_false, ite_true, ite_false, Bool.false_eq_true, Bool.true_eq_false, reduceIte]
  refine ⟨trivial, c_is_told (h2.ext (yc.trans z1)) w2 (by omega) fun H2 z2 => ?_⟩
  have z := (z1.trans z2)
  have y2 := yc.trans z
  have e2 : H2 x = some (.ins (He.ga K s_Line) dx []) := (xa.trans (xb.trans (xc.trans z))).get e0
  try simp only [e_k, e_v, e_g, e_bop, e_uop, e_not, e_and, e_or, e_ite, e_cmp, e_cmp2, e_lst, e_tup, e_call, e_mk, e_bi, e_isi, e_meth, e_bm, e_icall, e_ostr, e_att, e_ix, e_sl, e_isiM, e_methk, e_smeth, e_cmeth, e_mkv, e_mkk, kw_nil, e_oeq, e_eatt, e_eisi, e_one, e_rep, e_fmt, e_callk, e_xcmp, e_obin, e_oinv, e_oin, e_olen, e_obool, e_cat, e_fo3, e_rev, e_rgl, e_oeqs, t_v, t_isi, t_call, t_meth, t_bop, t_bi, t_att, t_not, t_and, t_or, t_cmp, t_cmp2, trQ_bl, blQ_bl, t_methk, t_smeth, t_oeq, t_eisi, t_ix, t_icall, t_one, t_callk, t_oin, t_obin, t_xcmp, t_oeqs, a_nil', a_cons, s_nil, s_cons, s_set, s_setLc, s_par, s_expr, s_ret, s_retN, s_if, s_never, s_pass, s_brk, s_cont, s_par3, s_oaug, s_raise, g_v', g_tup, g_sub, g_att, gs_nil, gs_cons, gs_tup, g_unl, i_L, i_T, i_S, i_R1, i_ES, i_E, i_Z, p_nil, p_pair, o_nil, o_k, o_v, o_bop, o_uop, o_bi, o_ix, oQ_int, o_att, o_call, i_ET, i_R2, x_K, x_w, x_fn, x_gv, x_tabs, x_mth, x_prp, x_fld, x_isi, x_kwo, x_dfl, x_xf, x_exm, x_eis, x_lt, x_lfn, x_smt, x_cmt, x_cvl, y_cvl, x_opr, y_opr, y_cmt, y_K, y_w, y_fn, y_gv, y_tabs, y_mth, y_prp, y_fld, y_isi, y_kwo, y_dfl, y_xf, y_exm, y_eis, y_smt, isi_int, isi_str, isi_bl, isi_non, ii1, ii2, ii3, ii4, ii5, ii6, ii7, it1, it2, it3, it4, it5, it6, it7, it8, it9, it10, it11, it12, it13, r_add, r_sub, r_mul, r_div, r_mod, r_pow, r_shl, r_shr, r_and, r_or, r_xor, r_neg, r_inv, r_lt, r_le, r_gt, r_ge, r_eqI, r_neI, r_eqS, r_neS, r_inS, r_niS, b_int, b_intB, b_abs, b_lenS, b_strS, r_addS, r_isN, r_eqB, r_neB, List.getElem?_cons_zero, List.getElem?_cons_succ, List.set_cons_zero, List.set_cons_succ, List.map_cons, List.map_nil, List.length_cons, List.length_nil, Nat.reduceAdd, Nat.reduceSub, List.replicate_succ, List.replicate_zero, List.cons_append, List.nil_append, List.append_nil, Bool.not_true, Bool.not_false, if_true, if_false, ite_true, ite_false, Bool.false_eq_true, Bool.true_eq_false, reduceIte]
  rw [for_nil]
  refine ⟨.inl (.inl (z.get ec)), ?_⟩
  clear z1 z2 z ea eb ec xa xb xc yc
  try simp only [e_k, e_v, e_g, e_bop, e_uop, e_not, e_and, e_or, e_ite, e_cmp, e_cmp2, e_lst, e_tup, e_call, e_mk, e_bi, e_isi, e_meth, e_bm, e_icall, e_ostr, e_att, e_ix, e_sl, e_isiM, e_methk, e_smeth, e_cmeth, e_mkv, e_mkk, kw_nil, e_oeq, e_eatt, e_eisi, e_one, e_rep, e_fmt, e_callk, e_xcmp, e_obin, e_oinv, e_oin, e_olen, e_obool, e_cat, e_fo3, e_rev, e_rgl, e_oeqs, t_v, t_isi, t_call, t_meth, t_bop, t_bi, t_att, t_not, t_and, t_or, t_cmp, t_cmp2, trQ_bl, blQ_bl, t_methk, t_smeth, t_oeq, t_eisi, t_ix, t_icall, t_one, t_callk, t_oin, t_obin, t_xcmp, t_oeqs, a_nil', a_cons, s_nil, s_cons, s_set, s_setLc, s_par, s_expr, s_ret, s_retN, s_if, s_never, s_pass, s_brk, s_cont, s_par3, s_oaug, s_raise, g_v', g_tup, g_sub, g_att, gs_nil, gs_cons, gs_tup, g_unl, i_L, i_T, i_S, i_R1, i_ES, i_E, i_Z, p_nil, p_pair, o_nil, o_k, o_v, o_bop, o_uop, o_bi, o_ix, oQ_int, o_att, o_call, i_ET, i_R2, x_K, x_w, x_fn, x_gv, x_tabs, x_mth, x_prp, x_fld, x_isi, x_kwo, x_dfl, x_xf, x_exm, x_eis, x_lt, x_lfn, x_smt, x_cmt, x_cvl, y_cvl, x_opr, y_opr, y_cmt, y_K, y_w, y_fn, y_gv, y_tabs, y_mth, y_prp, y_fld, y_isi, y_kwo, y_dfl, y_xf, y_exm, y_eis, y_smt, isi_int, isi_str, isi_bl, isi_non, ii1, ii2, ii3, ii4, ii5, ii6, ii7, it1, it2, it3, it4, it5, it6, it7, it8, it9, it10, it11, it12, it13, r_add, r_sub, r_mul, r_div, r_mod, r_pow, r_shl, r_shr, r_and, r_or, r_xor, r_neg, r_inv, r_lt, r_le, r_gt, r_ge, r_eqI, r_neI, r_eqS, r_neS, r_inS, r_niS, b_int, b_intB, b_abs, b_lenS, b_strS, r_addS, r_isN, r_eqB, r_neB, List.getElem?_cons_zero, List.getElem?_cons_succ, List.set_cons_zero, List.set_cons_succ, List.map_cons, List.map_nil, List.length_cons, List.length_nil, Nat.reduceAdd, Nat.reduceSub, List.replicate_succ, List.replicate_zero, List.cons_append, List.nil_append, List.append_nil, Bool.not_true, Bool.not_false, if_true, if_false, ite_true, ite_false, Bool.false_eq_true, Bool.true_eq_false, reduceIte]
  rw [s_for, i_T]
  try simp only [e_k, e_v, e_g, e_bop, e_uop, e_not, e_and, e_or, e_ite, e_cmp, e_cmp2, e_lst, e_tup, e_call, e_mk, e_bi, e_isi, e_meth, e_bm, e_icall, e_ostr, e_att, e_ix, e_sl, e_isiM, e_methk, e_smeth, e_cmeth, e_mkv, e_mkk, kw_nil, e_oeq, e_eatt, e_eisi, e_one, e_rep, e_fmt, e_callk, e_xcmp, e_obin, e_oinv, e_oin, e_olen, e_obool, e_cat, e_fo3, e_rev, e_rgl, e_oeqs, t_v, t_isi, t_call, t_meth, t_bop, t_bi, t_att, t_not, t_and, t_or, t_cmp, t_cmp2, trQ_bl, blQ_bl, t_methk, t_smeth, t_oeq, t_eisi, t_ix, t_icall, t_one, t_callk, t_oin, t_obin, t_xcmp, t_oeqs, a_nil', a_cons, s_nil, s_cons, s_set, s_setLc, s_par, s_expr, s_ret, s_retN, s_if, s_never, s_pass, s_brk, s_cont, s_par3, s_oaug, s_raise, g_v', g_tup, g_sub, g_att, gs_nil, gs_cons, gs_tup, g_unl, i_L, i_T, i_S, i_R1, i_ES, i_E, i_Z, p_nil, p_pair, o_nil, o_k, o_v, o_bop, o_uop, o_bi, o_ix, oQ_int, o_att, o_call, i_ET, i_R2, x_K, x_w, x_fn, x_gv, x_tabs, x_mth, x_prp, x_fld, x_isi, x_kwo, x_dfl, x_xf, x_exm, x_eis, x_lt, x_lfn, x_smt, x_cmt, x_cvl, y_cvl, x_opr, y_opr, y_cmt, y_K, y_w, y_fn, y_gv, y_tabs, y_mth, y_prp, y_fld, y_isi, y_kwo, y_dfl, y_xf, y_exm, y_eis, y_smt, isi_int, isi_str, isi_bl, isi_non, ii1, ii2, ii3, ii4, ii5, ii6, ii7, it1, it2, it3, it4, it5, it6, it7, it8, it9, it10, it11, it12, it13, r_add, r_sub, r_mul, r_div, r_mod, r_pow, r_shl, r_shr, r_and, r_or, r_xor, r_neg, r_inv, r_lt, r_le, r_gt, r_ge, r_eqI, r_neI, r_eqS, r_neS, r_inS, r_niS, b_int, b_intB, b_abs, b_lenS, b_strS, r_addS, r_isN, r_eqB, r_neB, List.getElem?_cons_zero, List.getElem?_cons_succ, List.set_cons_zero, List.set_cons_succ, List.map_cons, List.map_nil, List.length_cons, List.length_nil, Nat.reduceAdd, Nat.reduceSub, List.replicate_succ, List.replicate_zero, List.cons_append, List.nil_append, List.append_nil, Bool.not_true, Bool.not_false, if_true, if_false, ite_true, ite_false, Bool.false_eq_true, Bool.true_eq_false, reduceIte]
  refine ⟨by decide, fun a ha => ?_⟩
  have xa := Ext.new (H := H2) (o := .tup [.int 3, vm]) ha
  have ea : upd H2 a (.tup [.int 3, vm]) a = some (.tup [.int 3, vm]) := upd_same
  generalize upd H2 a (.tup [.int 3, vm]) = Ha at xa ea ⊢
  refine ⟨by decide, fun b hb => ?_⟩
  have xb := Ext.new (H := Ha) (o := .tup [.int 4, vn]) hb
  have eb : upd Ha b (.tup [.int 4, vn]) b = some (.tup [.int 4, vn]) := upd_same
  generalize upd Ha b (.tup [.int 4, vn]) = Hb at xb eb ⊢
  refine ⟨by decide, fun c hc => ?_⟩
  have xc := Ext.new (H := Hb) (o := .tup [.ref a, .ref b]) hc
  have ec : upd Hb c (.tup [.ref a, .ref b]) c = some (.tup [.ref a, .ref b]) := upd_same
  generalize upd Hb c (.tup [.ref a, .ref b]) = Hc at xc ec ⊢
  refine ⟨_, .inl (.inl ec), ?_⟩
  rw [List.map_cons, for_v]
  refine ⟨.inl (.inl ec), ?_⟩
  simp only [g_tup, gs_cons, gs_nil, g_v', List.getElem?_cons_zero, List.getElem?_cons_succ, List.set_cons_zero, List.set_cons_succ, List.map_cons, List.map_nil, List.length_cons, List.length_nil, Nat.reduceAdd, Nat.reduceSub, List.replicate_succ, List.replicate_zero, List.cons_append, List.nil_append, List.append_nil, Bool.not_true, Bool.not_false, if_true, if_false, ite_true, ite_false, Bool.false_eq_true, Bool.true_eq_false, reduceIte]
  refine ⟨_, .inl (.inl (xc.get (xb.get ea))), rfl, ?_⟩
  simp only [gs_cons, gs_nil, g_v', e_k, e_v, e_g, e_bop, e_uop, e_not, e_and, e_or, e_ite, e_cmp, e_cmp2, e_lst, e_tup, e_call, e_mk, e_bi, e_isi, e_meth, e_bm, e_icall, e_ostr, e_att, e_ix, e_sl, e_isiM, e_methk, e_smeth, e_cmeth, e_mkv, e_mkk, kw_nil, e_oeq, e_eatt, e_eisi, e_one, e_rep, e_fmt, e_callk, e_xcmp, e_obin, e_oinv, e_oin, e_olen, e_obool, e_cat, e_fo3, e_rev, e_rgl, e_oeqs, t_v, t_isi, t_call, t_meth, t_bop, t_bi, t_att, t_not, t_and, t_or, t_cmp, t_cmp2, trQ_bl, blQ_bl, t_methk, t_smeth, t_oeq, t_eisi, t_ix, t_icall, t_one, t_callk, t_oin, t_obin, t_xcmp, t_oeqs, a_nil', a_cons, s_nil, s_cons, s_set, s_setLc, s_par, s_expr, s_ret, s_retN, s_if, s_never, s_pass, s_brk, s_cont, s_par3, s_oaug, s_raise, g_v', g_tup, g_sub, g_att, gs_nil, gs_cons, gs_tup, g_unl, i_L, i_T, i_S, i_R1, i_ES, i_E, i_Z, p_nil, p_pair, o_nil, o_k, o_v, o_bop, o_uop, o_bi, o_ix, oQ_int, o_att, o_call, i_ET, i_R2, x_K, x_w, x_fn, x_gv, x_tabs, x_mth, x_prp, x_fld, x_isi, x_kwo, x_dfl, x_xf, x_exm, x_eis, x_lt, x_lfn, x_smt, x_cmt, x_cvl, y_cvl, x_opr, y_opr, y_cmt, y_K, y_w, y_fn, y_gv, y_tabs, y_mth, y_prp, y_fld, y_isi, y_kwo, y_dfl, y_xf, y_exm, y_eis, y_smt, isi_int, isi_str, isi_bl, isi_non, ii1, ii2, ii3, ii4, ii5, ii6, ii7, it1, it2, it3, it4, it5, it6, it7, it8, it9, it10, it11, it12, it13, r_add, r_sub, r_mul, r_div, r_mod, r_pow, r_shl, r_shr, r_and, r_or, r_xor, r_neg, r_inv, r_lt, r_le, r_gt, r_ge, r_eqI, r_neI, r_eqS, r_neS, r_inS, r_niS, b_int, b_intB, b_abs, b_lenS, b_strS, r_addS, r_isN, r_eqB, r_neB, List.getElem?_cons_zero, List.getElem?_cons_succ, List.set_cons_zero, List.set_cons_succ, List.map_cons, List.map_nil, List.length_cons, List.length_nil, Nat.reduceAdd, Nat.reduceSub, List.replicate_succ, List.replicate_zero, List.cons_append, List.nil_append, List.append_nil, Bool.not_true, Bool.not_false, if_true, if_false, ite_true, ite_false, Bool.false_eq_true, Bool.true_eq_false, reduceIte]
  have yc := y2.trans (xa.trans (xb.trans xc))
  refine ⟨trivial, c_is_mode b3 (h3.ext yc) (by omega) ?_⟩
  try simp only [e_k, e_v, e_g, e_bop, e_uop, e_not, e_and, e_or, e_ite, e_cmp, e_cmp2, e_lst, e_tup, e_call, e_mk, e_bi, e_isi, e_meth, e_bm, e_icall, e_ostr, e_att, e_ix, e_sl, e_isiM, e_methk, e_smeth, e_cmeth, e_mkv, e_mkk, kw_nil, e_oeq, e_eatt, e_eisi, e_one, e_rep, e_fmt, e_callk, e_xcmp, e_obin, e_oinv, e_oin, e_olen, e_obool, e_cat, e_fo3, e_rev, e_rgl, e_oeqs, t_v, t_isi, t_call, t_meth, t_bop, t_bi, t_att, t_not, t_and, t_or, t_cmp, t_cmp2, trQ_bl, blQ_bl, t_methk, t_smeth, t_oeq, t_eisi, t_ix, t_icall, t_one, t_callk, t_oin, t_obin, t_xcmp, t_oeqs, a_nil', a_cons, s_nil, s_cons, s_set, s_setLc, s_par, s_expr, s_ret, s_retN, s_if, s_never, s_pass, s_brk, s_cont, s_par3, s_oaug, s_raise, g_v', g_tup, g_sub, g_att, gs_nil, gs_cons, gs_tup, g_unl, i_L, i_T, i_S, i_R1, i_ES, i_E, i_Z, p_nil, p_pair, o_nil, o_k, o_v, o_bop, o_uop, o_bi, o_ix, oQ_int, o_att, o_call, i_ET, i_R2, x_K, x_w, x_fn, x_gv, x_tabs, x_mth, x_prp, x_fld, x_isi, x_kwo, x_dfl, x_xf, x_exm, x_eis, x_lt, x_lfn, x_smt, x_cmt, x_cvl, y_cvl, x_opr, y_opr, y_cmt, y_K, y_w, y_fn, y_gv, y_tabs, y_mth, y_prp, y_fld, y_isi, y_kwo, y_dfl, y_xf, y_exm, y_eis, y_smt, isi_int, isi_str, isi_bl, isi_non, ii1, ii2, ii3, ii4, ii5, ii6, ii7, it1, it2, it3, it4, it5, it6, it7, it8, it9, it10, it11, it12, it13, r_add, r_sub, r_mul, r_div, r_mod, r_pow, r_shl, r_shr, r_and, r_or, r_xor, r_neg, r_inv, r_lt, r_le, r_gt, r_ge, r_eqI, r_neI, r_eqS, r_neS, r_inS, r_niS, b_int, b_intB, b_abs, b_lenS, b_strS, r_addS, r_isN, r_eqB, r_neB, List.getElem?_cons_zero, List.getElem?_cons_succ, List.set_cons_zero, List.set_cons_succ, List.map_cons, List.map_nil, List.length_cons, List.length_nil, Nat.reduceAdd, Nat.reduceSub, List.replicate_succ, List.replicate_zero, List.cons_append, List.nil_append, List.append_nil, Bool.not_true, Bool.not_false, if_true, if_false, ite_true, ite_false, Bool.false_eq_true, Bool.true_eq_false, reduceIte]
  rw [for_v]
  refine ⟨.inl (.inl ec), ?_⟩
  simp only [g_tup, gs_cons, gs_nil, g_v', List.getElem?_cons_zero, List.getElem?_cons_succ, List.set_cons_zero, List.set_cons_succ, List.map_cons, List.map_nil, List.length_cons, List.length_nil, Nat.reduceAdd, Nat.reduceSub, List.replicate_succ, List.replicate_zero, List.cons_append, List.nil_append, List.append_nil, Bool.not_true, Bool.not_false, if_true, if_false, ite_true, ite_false, Bool.false_eq_true, Bool.true_eq_false, reduceIte]
  refine ⟨_, .inl (.inl (xc.get eb)), rfl, ?_⟩
  simp only [gs_cons, gs_nil, g_v', e_k, e_v, e_g, e_bop, e_uop, e_not, e_and, e_or, e_ite, e_cmp, e_cmp2, e_lst, e_tup, e_call, e_mk, e_bi, e_isi, e_meth, e_bm, e_icall, e_ostr, e_att, e_ix, e_sl, e_isiM, e_methk, e_smeth, e_cmeth, e_mkv, e_mkk, kw_nil, e_oeq, e_eatt, e_eisi, e_one, e_rep, e_fmt, e_callk, e_xcmp, e_obin, e_oinv, e_oin, e_olen, e_obool, e_cat, e_fo3, e_rev, e_rgl, e_oeqs, t_v, t_isi, t_call, t_meth, t_bop, t_bi, t_att, t_not, t_and, t_or, t_cmp, t_cmp2, trQ_bl, blQ_bl, t_methk, t_smeth, t_oeq, t_eisi, t_ix, t_icall, t_one, t_callk, t_oin, t_obin, t_xcmp, t_oeqs, a_nil', a_cons, s_nil, s_cons, s_set, s_setLc, s_par, s_expr, s_ret, s_retN, s_if, s_never, s_pass, s_brk, s_cont, s_par3, s_oaug, s_raise, g_v', g_tup, g_sub, g_att, gs_nil, gs_cons, gs_tup, g_unl, i_L, i_T, i_S, i_R1, i_ES, i_E, i_Z, p_nil, p_pair, o_nil, o_k, o_v, o_bop, o_uop, o_bi, o_ix, oQ_int, o_att, o_call, i_ET, i_R2, x_K, x_w, x_fn, x_gv, x_tabs, x_mth, x_prp, x_fld, x_isi, x_kwo, x_dfl, x_xf, x_exm, x_eis, x_lt, x_lfn, x_smt, x_cmt, x_cvl, y_cvl, x_opr, y_opr, y_cmt, y_K, y_w, y_fn, y_gv, y_tabs, y_mth, y_prp, y_fld, y_isi, y_kwo, y_dfl, y_xf, y_exm, y_eis, y_smt, isi_int, isi_str, isi_bl, isi_non, ii1, ii2, ii3, ii4, ii5, ii6, ii7, it1, it2, it3, it4, it5, it6, it7, it8, it9, it10, it11, it12, it13, r_add, r_sub, r_mul, r_div, r_mod, r_pow, r_shl, r_shr, r_and, r_or, r_xor, r_neg, r_inv, r_lt, r_le, r_gt, r_ge, r_eqI, r_neI, r_eqS, r_neS, r_inS, r_niS, b_int, b_intB, b_abs, b_lenS, b_strS, r_addS, r_isN, r_eqB, r_neB, List.getElem?_cons_zero, List.getElem?_cons_succ, List.set_cons_zero, List.set_cons_succ, List.map_cons, List.map_nil, List.length_cons, List.length_nil, Nat.reduceAdd, Nat.reduceSub, List.replicate_succ, List.replicate_zero, List.cons_append, List.nil_append, List.append_nil, Bool.not_true, Bool.not_false, if_true, if_false, ite_true, ite_false, Bool.false_eq_true, Bool.true_eq_false, reduceIte]
  refine ⟨trivial, c_is_mode b4 (h4.ext yc) (by omega) ?_⟩
  try simp only [e_k, e_v, e_g, e_bop, e_uop, e_not, e_and, e_or, e_ite, e_cmp, e_cmp2, e_lst, e_tup, e_call, e_mk, e_bi, e_isi, e_meth, e_bm, e_icall, e_ostr, e_att, e_ix, e_sl, e_isiM, e_methk, e_smeth, e_cmeth, e_mkv, e_mkk, kw_nil, e_oeq, e_eatt, e_eisi, e_one, e_rep, e_fmt, e_callk, e_xcmp, e_obin, e_oinv, e_oin, e_olen, e_obool, e_cat, e_fo3, e_rev, e_rgl, e_oeqs, t_v, t_isi, t_call, t_meth, t_bop, t_bi, t_att, t_not, t_and, t_or, t_cmp, t_cmp2, trQ_bl, blQ_bl, t_methk, t_smeth, t_oeq, t_eisi, t_ix, t_icall, t_one, t_callk, t_oin, t_obin, t_xcmp, t_oeqs, a_nil', a_cons, s_nil, s_cons, s_set, s_setLc, s_par, s_expr, s_ret, s_retN, s_if, s_never, s_pass, s_brk, s_cont, s_par3, s_oaug, s_raise, g_v', g_tup, g_sub, g_att, gs_nil, gs_cons, gs_tup, g_unl, i_L, i_T, i_S, i_R1, i_ES, i_E, i_Z, p_nil, p_pair, o_nil, o_k, o_v, o_bop, o_uop, o_bi, o_ix, oQ_int, o_att, o_call, i_ET, i_R2, x_K, x_w, x_fn, x_gv, x_tabs, x_mth, x_prp, x_fld, x_isi, x_kwo, x_dfl, x_xf, x_exm, x_eis, x_lt, x_lfn, x_smt, x_cmt, x_cvl, y_cvl, x_opr, y_opr, y_cmt, y_K, y_w, y_fn, y_gv, y_tabs, y_mth, y_prp, y_fld, y_isi, y_kwo, y_dfl, y_xf, y_exm, y_eis, y_smt, isi_int, isi_str, isi_bl, isi_non, ii1, ii2, ii3, ii4, ii5, ii6, ii7, it1, it2, it3, it4, it5, it6, it7, it8, it9, it10, it11, it12, it13, r_add, r_sub, r_mul, r_div, r_mod, r_pow, r_shl, r_shr, r_and, r_or, r_xor, r_neg, r_inv, r_lt, r_le, r_gt, r_ge, r_eqI, r_neI, r_eqS, r_neS, r_inS, r_niS, b_int, b_intB, b_abs, b_lenS, b_strS, r_addS, r_isN, r_eqB, r_neB, List.getElem?_cons_zero, List.getElem?_cons_succ, List.set_cons_zero, List.set_cons_succ, List.map_cons, List.map_nil, List.length_cons, List.length_nil, Nat.reduceAdd, Nat.reduceSub, List.replicate_succ, List.replicate_zero, List.cons_append, List.nil_append, List.append_nil, Bool.not_true, Bool.not_false, if_true, if_false, ite_true, ite_false, Bool.false_eq_true, Bool.true_eq_false, reduceIte]
  rw [for_nil]
  refine ⟨.inl (.inl ec), ?_⟩
  have e3 : Hc x = some (.ins (He.ga K s_Line) dx []) := (xa.trans (xb.trans xc)).get e2
  clear ea eb ec xa xb xc
  try simp only [e_k, e_v, e_g, e_bop, e_uop, e_not, e_and, e_or, e_ite, e_cmp, e_cmp2, e_lst, e_tup, e_call, e_mk, e_bi, e_isi, e_meth, e_bm, e_icall, e_ostr, e_att, e_ix, e_sl, e_isiM, e_methk, e_smeth, e_cmeth, e_mkv, e_mkk, kw_nil, e_oeq, e_eatt, e_eisi, e_one, e_rep, e_fmt, e_callk, e_xcmp, e_obin, e_oinv, e_oin, e_olen, e_obool, e_cat, e_fo3, e_rev, e_rgl, e_oeqs, t_v, t_isi, t_call, t_meth, t_bop, t_bi, t_att, t_not, t_and, t_or, t_cmp, t_cmp2, trQ_bl, blQ_bl, t_methk, t_smeth, t_oeq, t_eisi, t_ix, t_icall, t_one, t_callk, t_oin, t_obin, t_xcmp, t_oeqs, a_nil', a_cons, s_nil, s_cons, s_set, s_setLc, s_par, s_expr, s_ret, s_retN, s_if, s_never, s_pass, s_brk, s_cont, s_par3, s_oaug, s_raise, g_v', g_tup, g_sub, g_att, gs_nil, gs_cons, gs_tup, g_unl, i_L, i_T, i_S, i_R1, i_ES, i_E, i_Z, p_nil, p_pair, o_nil, o_k, o_v, o_bop, o_uop, o_bi, o_ix, oQ_int, o_att, o_call, i_ET, i_R2, x_K, x_w, x_fn, x_gv, x_tabs, x_mth, x_prp, x_fld, x_isi, x_kwo, x_dfl, x_xf, x_exm, x_eis, x_lt, x_lfn, x_smt, x_cmt, x_cvl, y_cvl, x_opr, y_opr, y_cmt, y_K, y_w, y_fn, y_gv, y_tabs, y_mth, y_prp, y_fld, y_isi, y_kwo, y_dfl, y_xf, y_exm, y_eis, y_smt, isi_int, isi_str, isi_bl, isi_non, ii1, ii2, ii3, ii4, ii5, ii6, ii7, it1, it2, it3, it4, it5, it6, it7, it8, it9, it10, it11, it12, it13, r_add, r_sub, r_mul, r_div, r_mod, r_pow, r_shl, r_shr, r_and, r_or, r_xor, r_neg, r_inv, r_lt, r_le, r_gt, r_ge, r_eqI, r_neI, r_eqS, r_neS, r_inS, r_niS, b_int, b_intB, b_abs, b_lenS, b_strS, r_addS, r_isN, r_eqB, r_neB, List.getElem?_cons_zero, List.getElem?_cons_succ, List.set_cons_zero, List.set_cons_succ, List.map_cons, List.map_nil, List.length_cons, List.length_nil, Nat.reduceAdd, Nat.reduceSub, List.replicate_succ, List.replicate_zero, List.cons_append, List.nil_append, List.append_nil, Bool.not_true, Bool.not_false, if_true, if_false, ite_true, ite_false, Bool.false_eq_true, Bool.true_eq_false, reduceIte]
  refine c_number_of b3 (h3.ext yc) (by omega) ?_
  refine c_number_of b4 (h4.ext yc) (by omega) ?_
  rw [r_and, hmn]
  try simp only [e_k, e_v, e_g, e_bop, e_uop, e_not, e_and, e_or, e_ite, e_cmp, e_cmp2, e_lst, e_tup, e_call, e_mk, e_bi, e_isi, e_meth, e_bm, e_icall, e_ostr, e_att, e_ix, e_sl, e_isiM, e_methk, e_smeth, e_cmeth, e_mkv, e_mkk, kw_nil, e_oeq, e_eatt, e_eisi, e_one, e_rep, e_fmt, e_callk, e_xcmp, e_obin, e_oinv, e_oin, e_olen, e_obool, e_cat, e_fo3, e_rev, e_rgl, e_oeqs, t_v, t_isi, t_call, t_meth, t_bop, t_bi, t_att, t_not, t_and, t_or, t_cmp, t_cmp2, trQ_bl, blQ_bl, t_methk, t_smeth, t_oeq, t_eisi, t_ix, t_icall, t_one, t_callk, t_oin, t_obin, t_xcmp, t_oeqs, a_nil', a_cons, s_nil, s_cons, s_set, s_setLc, s_par, s_expr, s_ret, s_retN, s_if, s_never, s_pass, s_brk, s_cont, s_par3, s_oaug, s_raise, g_v', g_tup, g_sub, g_att, gs_nil, gs_cons, gs_tup, g_unl, i_L, i_T, i_S, i_R1, i_ES, i_E, i_Z, p_nil, p_pair, o_nil, o_k, o_v, o_bop, o_uop, o_bi, o_ix, oQ_int, o_att, o_call, i_ET, i_R2, x_K, x_w, x_fn, x_gv, x_tabs, x_mth, x_prp, x_fld, x_isi, x_kwo, x_dfl, x_xf, x_exm, x_eis, x_lt, x_lfn, x_smt, x_cmt, x_cvl, y_cvl, x_opr, y_opr, y_cmt, y_K, y_w, y_fn, y_gv, y_tabs, y_mth, y_prp, y_fld, y_isi, y_kwo, y_dfl, y_xf, y_exm, y_eis, y_smt, isi_int, isi_str, isi_bl, isi_non, ii1, ii2, ii3, ii4, ii5, ii6, ii7, it1, it2, it3, it4, it5, it6, it7, it8, it9, it10, it11, it12, it13, r_add, r_sub, r_mul, r_div, r_mod, r_pow, r_shl, r_shr, r_and, r_or, r_xor, r_neg, r_inv, r_lt, r_le, r_gt, r_ge, r_eqI, r_neI, r_eqS, r_neS, r_inS, r_niS, b_int, b_intB, b_abs, b_lenS, b_strS, r_addS, r_isN, r_eqB, r_neB, List.getElem?_cons_zero, List.getElem?_cons_succ, List.set_cons_zero, List.set_cons_succ, List.map_cons, List.map_nil, List.length_cons, List.length_nil, Nat.reduceAdd, Nat.reduceSub, List.replicate_succ, List.replicate_zero, List.cons_append, List.nil_append, List.append_nil, Bool.not_true, Bool.not_false, if_true, if_false, ite_true, ite_false, Bool.false_eq_true, Bool.true_eq_false, reduceIte]
  refine ⟨s_Line, dx, [], e3, rfl, by decide, ?_⟩
  have p4 : ExtP x Hc (upd Hc x (.ins (He.ga K s_Line) dx [(s_own_form, .str (S fo))])) := ExtP.put
  have e4 : upd Hc x (.ins (He.ga K s_Line) dx [(s_own_form, .str (S fo))]) x = some (.ins (He.ga K s_Line) dx [(s_own_form, .str (S fo))]) := upd_same
  show run _ _ _ _ _ _ (upd Hc x (.ins (He.ga K s_Line) dx [(s_own_form, .str (S fo))])) _ _
  generalize upd Hc x (.ins (He.ga K s_Line) dx [(s_own_form, .str (S fo))]) = H4 at p4 e4 ⊢
  refine c_kept (h1.ext (yc.thenP hx p4)) w1 (by omega) fun v1 H5 x5 t1 => ?_
  have e5 := x5.get e4
  refine ⟨s_Line, dx, _, e5, rfl, (by simp), ?_⟩
  have p6 : ExtP x H5 (upd H5 x (.ins (He.ga K s_Line) dx [(s_own_form, .str (S fo)), (s_own_owners, v1)])) := ExtP.put
  have e6 : upd H5 x (.ins (He.ga K s_Line) dx [(s_own_form, .str (S fo)), (s_own_owners, v1)]) x = some (.ins (He.ga K s_Line) dx [(s_own_form, .str (S fo)), (s_own_owners, v1)]) := upd_same
  show run _ _ _ _ _ _ (upd H5 x (.ins (He.ga K s_Line) dx [(s_own_form, .str (S fo)), (s_own_owners, v1)])) _ _
  have t1 := t1.extP (fun xs q => by rw [e5] at q; cases q) p6
  generalize upd H5 x (.ins (He.ga K s_Line) dx [(s_own_form, .str (S fo)), (s_own_owners, v1)]) = H6 at p6 e6 t1 ⊢
  have q6 := p4.trans (x5.toP.trans p6)
  refine c_kept (h2.ext (yc.thenP hx q6)) w2 (by omega) fun v2 H7 x7 t2 => ?_
  have e7 := x7.get e6
  have t1 := t1.ext x7
  refine ⟨s_Line, dx, _, e7, rfl, (by simp), ?_⟩
  have p8 : ExtP x H7 (upd H7 x (.ins (He.ga K s_Line) dx [(s_own_form, .str (S fo)), (s_own_owners, v1), (s_own_groups, v2)])) := ExtP.put
  have e8 : upd H7 x (.ins (He.ga K s_Line) dx [(s_own_form, .str (S fo)), (s_own_owners, v1), (s_own_groups, v2)]) x = some (.ins (He.ga K s_Line) dx [(s_own_form, .str (S fo)), (s_own_owners, v1), (s_own_groups, v2)]) := upd_same
  show run _ _ _ _ _ _ (upd H7 x (.ins (He.ga K s_Line) dx [(s_own_form, .str (S fo)), (s_own_owners, v1), (s_own_groups, v2)])) _ _
  have t1 := t1.extP (fun xs q => by rw [e7] at q; cases q) p8
  have t2 := t2.extP (fun xs q => by rw [e7] at q; cases q) p8
  generalize upd H7 x (.ins (He.ga K s_Line) dx [(s_own_form, .str (S fo)), (s_own_owners, v1), (s_own_groups, v2)]) = H8 at p8 e8 t1 t2 ⊢
  have q8 := q6.trans (x7.toP.trans p8)
  refine c_number_of b3 (h3.ext (yc.thenP hx q8)) (by omega) ?_
  refine mk_Mode (by omega) b3 fun pm H9 x9 m1 => ?_
  have e9 := x9.get e8
  have t1 := t1.ext x9
  have t2 := t2.ext x9
  refine ⟨s_Line, dx, _, e9, rfl, (by simp), ?_⟩
  have p10 : ExtP x H9 (upd H9 x (.ins (He.ga K s_Line) dx [(s_own_form, .str (S fo)), (s_own_owners, v1), (s_own_groups, v2), (s_own_must, .ref pm)])) := ExtP.put
  have e10 : upd H9 x (.ins (He.ga K s_Line) dx [(s_own_form, .str (S fo)), (s_own_owners, v1), (s_own_groups, v2), (s_own_must, .ref pm)]) x = some (.ins (He.ga K s_Line) dx [(s_own_form, .str (S fo)), (s_own_owners, v1), (s_own_groups, v2), (s_own_must, .ref pm)]) := upd_same
  show run _ _ _ _ _ _ (upd H9 x (.ins (He.ga K s_Line) dx [(s_own_form, .str (S fo)), (s_own_owners, v1), (s_own_groups, v2), (s_own_must, .ref pm)])) _ _
  have t1 := t1.extP (fun xs q => by rw [e9] at q; cases q) p10
  have t2 := t2.extP (fun xs q => by rw [e9] at q; cases q) p10
  have m1 := m1.extP (m1.ne e9) p10
  generalize upd H9 x (.ins (He.ga K s_Line) dx [(s_own_form, .str (S fo)), (s_own_owners, v1), (s_own_groups, v2), (s_own_must, .ref pm)]) = H10 at p10 e10 t1 t2 m1 ⊢
  have q10 := q8.trans (x9.toP.trans p10)
  refine c_number_of b4 (h4.ext (yc.thenP hx q10)) (by omega) ?_
  refine mk_Mode (by omega) b4 fun pn H11 x11 m2 => ?_
  have e11 := x11.get e10
  have t1 := t1.ext x11
  have t2 := t2.ext x11
  have m1 := m1.ext x11
  refine ⟨s_Line, dx, _, e11, rfl, (by simp), ?_⟩
  have p12 : ExtP x H11 (upd H11 x (.ins (He.ga K s_Line) dx [(s_own_form, .str (S fo)), (s_own_owners, v1), (s_own_groups, v2), (s_own_must, .ref pm), (s_own_never, .ref pn)])) := ExtP.put
  refine ⟨trivial, h x _ (yc.thenP hx (q10.trans (x11.toP.trans p12))) ⟨dx, v1, v2, pm, pn, upd_same, t1.extP (fun xs q => by rw [e11] at q; cases q) p12, t2.extP (fun xs q => by rw [e11] at q; cases q) p12, m1.extP (m1.ne e11) p12, m2.extP (m2.ne e11) p12⟩⟩
/-- whether a name is among those told -/
def okN (z : List Nat) : ON → Bool
  | none => true
  | some ls => ls.contains z
theorem mthH : hd.pg.mth s_Line s_has_names = some s_Line_has_names := by decide +kernel
theorem mthLe : hd.pg.mth s_Line s_lets = some s_Line_lets := by decide +kernel
theorem mthPa : hd.pg.mth s_Line s_patterns = some s_Line_patterns := by decide +kernel
theorem mthMp : hd.pg.mth s_Mode s_pattern = some s_Mode_pattern := by decide +kernel
theorem mthMw : hd.pg.mth s_Mode s_with_pattern = some s_Mode_with_pattern := by decide +kernel
theorem perm_contains {ys ls : List (List Nat)} (h : List.Perm ys ls) (z : List Nat) : ys.contains z = ls.contains z := by
  rw [List.contains_eq_mem, List.contains_eq_mem]
  exact decide_eq_decide.mpr h.mem_iff
section
variable {x : Addr} {fo o g : List Nat} {ow gr : ON} {mu ne : Int}
theorem c_has_names (hx : Ln K H x fo ow gr mu ne) (hn : 1 ≤ n) (h : Q (.bl (okN o ow && okN g gr)) H) : run hd.pg K w n s_Line_has_names [.ref x, .str (S o), .str (S g)] H Q E := by
  obtain ⟨dx, vo, vg, pm, pn, h1, h2, h3, h4, h5⟩ := hx
  refine run_at f_Line_has_names hn rfl ?_
  simp only [d_Line_has_names, b_Line_has_names, L2.start, e_k, e_v, e_g, e_bop, e_uop, e_not, e_and, e_or, e_ite, e_cmp, e_cmp2, e_lst, e_tup, e_call, e_mk, e_bi, e_isi, e_meth, e_bm, e_icall, e_ostr, e_att, e_ix, e_sl, e_isiM, e_methk, e_smeth, e_cmeth, e_mkv, e_mkk, kw_nil, e_oeq, e_eatt, e_eisi, e_one, e_rep, e_fmt, e_callk, e_xcmp, e_obin, e_oinv, e_oin, e_olen, e_obool, e_cat, e_fo3, e_rev, e_rgl, e_oeqs, t_v, t_isi, t_call, t_meth, t_bop, t_bi, t_att, t_not, t_and, t_or, t_cmp, t_cmp2, trQ_bl, blQ_bl, t_methk, t_smeth, t_oeq, t_eisi, t_ix, t_icall, t_one, t_callk, t_oin, t_obin, t_xcmp, t_oeqs, a_nil', a_cons, s_nil, s_cons, s_set, s_setLc, s_par, s_expr, s_ret, s_retN, s_if, s_never, s_pass, s_brk, s_cont, s_par3, s_oaug, s_raise, g_v', g_tup, g_sub, g_att, gs_nil, gs_cons, gs_tup, g_unl, i_L, i_T, i_S, i_R1, i_ES, i_E, i_Z, p_nil, p_pair, o_nil, o_k, o_v, o_bop, o_uop, o_bi, o_ix, oQ_int, o_att, o_call, i_ET, i_R2, x_K, x_w, x_fn, x_gv, x_tabs, x_mth, x_prp, x_fld, x_isi, x_kwo, x_dfl, x_xf, x_exm, x_eis, x_lt, x_lfn, x_smt, x_cmt, x_cvl, y_cvl, x_opr, y_opr, y_cmt, y_K, y_w, y_fn, y_gv, y_tabs, y_mth, y_prp, y_fld, y_isi, y_kwo, y_dfl, y_xf, y_exm, y_eis, y_smt, isi_int, isi_str, isi_bl, isi_non, ii1, ii2, ii3, ii4, ii5, ii6, ii7, it1, it2, it3, it4, it5, it6, it7, it8, it9, it10, it11, it12, it13, r_add, r_sub, r_mul, r_div, r_mod, r_pow, r_shl, r_shr, r_and, r_or, r_xor, r_neg, r_inv, r_lt, r_le, r_gt, r_ge, r_eqI, r_neI, r_eqS, r_neS, r_inS, r_niS, b_int, b_intB, b_abs, b_lenS, b_strS, r_addS, r_isN, r_eqB, r_neB, List.getElem?_cons_zero, List.getElem?_cons_succ, List.set_cons_zero, List.set_cons_succ, List.map_cons, List.map_nil, List.length_cons, List.length_nil, Nat.reduceAdd, Nat.reduceSub, List.replicate_succ, List.replicate_zero, List.cons_append, List.nil_append, List.append_nil, Bool.not_true, Bool.not_false, if_true, if_false, ite_true, ite_false, Bool.false_eq_true, Bool.true_eq_false, reduceIte]
  have fin : okN o ow = true → rAtt (hd.pg.ctx K w (run hd.pg K w (n - 1))) s_own_groups (fun cls d H' => E cls d H') (.ref x) H fun x_1 H1 => if (false ^^ match x_1 with | .non => true | _ => false) = true then Q (.bl true) H1 else rAtt (hd.pg.ctx K w (run hd.pg K w (n - 1))) s_own_groups (fun cls d H' => E cls d H') (.ref x) H1 fun y H2 => rCmp K w hd.pg.tabs .In (.str (S g)) y H2 Q := fun e => by
    refine x_fldv h1 rfl rfl ?_
    rw [e, Bool.true_and] at h
    cases gr with
    | none =>
      obtain rfl : vg = .non := h3
      exact h
    | some ls =>
      obtain ⟨t, ys, rfl, hp, ht⟩ := h3
      rw [if_neg (by simp)]
      refine x_fldv h1 rfl rfl ?_
      refine r_inL (.inr (.inl (.inl ht))) rfl (flat_strs _) ?_
      rw [inV_strs, perm_contains hp]
      exact h
  refine x_fldv h1 rfl rfl ?_
  rw [r_isnN]
  cases ow with
  | none =>
    obtain rfl : vo = .non := h2
    exact fin rfl
  | some ls =>
    obtain ⟨t, ys, rfl, hp, ht⟩ := h2
    rw [blQ_bl, if_pos (by rfl)]
    refine x_fldv h1 rfl rfl ?_
    refine r_niL (.inr (.inl (.inl ht))) rfl (flat_strs _) ?_
    rw [inV_strs, perm_contains hp]
    cases e : ls.contains o with
    | true => exact fin e
    | false =>
      show Q (.bl false) H
      rw [show okN o (some ls) = false from e, Bool.false_and] at h
      exact h
theorem c_lets {f : List Nat} {v : V} {b : Int} (hx : Ln K H x fo ow gr mu ne) (hv : AsN K H v b) (hb : 0 ≤ b ∧ b ≤ 511) (hn : 3 ≤ n) (h : Q (.bl ((f == fo) && ((okN o ow && okN g gr) && ((Builtin.bitAnd b mu == mu) && (Builtin.bitAnd b ne == 0))))) H) : run hd.pg K w n s_Line_lets [.ref x, .str (S f), v, .str (S o), .str (S g)] H Q E := by
  obtain ⟨dx, vo, vg, pm, pn, h1, h2, h3, h4, h5⟩ := id hx
  obtain ⟨dm, h4'⟩ := id h4
  obtain ⟨dn, h5'⟩ := id h5
  refine run_at f_Line_lets (by omega) rfl ?_
  simp only [d_Line_lets, b_Line_lets, L2.start, e_k, e_v, e_g, e_bop, e_uop, e_not, e_and, e_or, e_ite, e_cmp, e_cmp2, e_lst, e_tup, e_call, e_mk, e_bi, e_isi, e_meth, e_bm, e_icall, e_ostr, e_att, e_ix, e_sl, e_isiM, e_methk, e_smeth, e_cmeth, e_mkv, e_mkk, kw_nil, e_oeq, e_eatt, e_eisi, e_one, e_rep, e_fmt, e_callk, e_xcmp, e_obin, e_oinv, e_oin, e_olen, e_obool, e_cat, e_fo3, e_rev, e_rgl, e_oeqs, t_v, t_isi, t_call, t_meth, t_bop, t_bi, t_att, t_not, t_and, t_or, t_cmp, t_cmp2, trQ_bl, blQ_bl, t_methk, t_smeth, t_oeq, t_eisi, t_ix, t_icall, t_one, t_callk, t_oin, t_obin, t_xcmp, t_oeqs, a_nil', a_cons, s_nil, s_cons, s_set, s_setLc, s_par, s_expr, s_ret, s_retN, s_if, s_never, s_pass, s_brk, s_cont, s_par3, s_oaug, s_raise, g_v', g_tup, g_sub, g_att, gs_nil, gs_cons, gs_tup, g_unl, i_L, i_T, i_S, i_R1, i_ES, i_E, i_Z, p_nil, p_pair, o_nil, o_k, o_v, o_bop, o_uop, o_bi, o_ix, oQ_int, o_att, o_call, i_ET, i_R2, x_K, x_w, x_fn, x_gv, x_tabs, x_mth, x_prp, x_fld, x_isi, x_kwo, x_dfl, x_xf, x_exm, x_eis, x_lt, x_lfn, x_smt, x_cmt, x_cvl, y_cvl, x_opr, y_opr, y_cmt, y_K, y_w, y_fn, y_gv, y_tabs, y_mth, y_prp, y_fld, y_isi, y_kwo, y_dfl, y_xf, y_exm, y_eis, y_smt, isi_int, isi_str, isi_bl, isi_non, ii1, ii2, ii3, ii4, ii5, ii6, ii7, it1, it2, it3, it4, it5, it6, it7, it8, it9, it10, it11, it12, it13, r_add, r_sub, r_mul, r_div, r_mod, r_pow, r_shl, r_shr, r_and, r_or, r_xor, r_neg, r_inv, r_lt, r_le, r_gt, r_ge, r_eqI, r_neI, r_eqS, r_neS, r_inS, r_niS, b_int, b_intB, b_abs, b_lenS, b_strS, r_addS, r_isN, r_eqB, r_neB, List.getElem?_cons_zero, List.getElem?_cons_succ, List.set_cons_zero, List.set_cons_succ, List.map_cons, List.map_nil, List.length_cons, List.length_nil, Nat.reduceAdd, Nat.reduceSub, List.replicate_succ, List.replicate_zero, List.cons_append, List.nil_append, List.append_nil, Bool.not_true, Bool.not_false, if_true, if_false, ite_true, ite_false, Bool.false_eq_true, Bool.true_eq_false, reduceIte]
  refine c_number_of hb hv (by omega) ?_
  try simp only [e_k, e_v, e_g, e_bop, e_uop, e_not, e_and, e_or, e_ite, e_cmp, e_cmp2, e_lst, e_tup, e_call, e_mk, e_bi, e_isi, e_meth, e_bm, e_icall, e_ostr, e_att, e_ix, e_sl, e_isiM, e_methk, e_smeth, e_cmeth, e_mkv, e_mkk, kw_nil, e_oeq, e_eatt, e_eisi, e_one, e_rep, e_fmt, e_callk, e_xcmp, e_obin, e_oinv, e_oin, e_olen, e_obool, e_cat, e_fo3, e_rev, e_rgl, e_oeqs, t_v, t_isi, t_call, t_meth, t_bop, t_bi, t_att, t_not, t_and, t_or, t_cmp, t_cmp2, trQ_bl, blQ_bl, t_methk, t_smeth, t_oeq, t_eisi, t_ix, t_icall, t_one, t_callk, t_oin, t_obin, t_xcmp, t_oeqs, a_nil', a_cons, s_nil, s_cons, s_set, s_setLc, s_par, s_expr, s_ret, s_retN, s_if, s_never, s_pass, s_brk, s_cont, s_par3, s_oaug, s_raise, g_v', g_tup, g_sub, g_att, gs_nil, gs_cons, gs_tup, g_unl, i_L, i_T, i_S, i_R1, i_ES, i_E, i_Z, p_nil, p_pair, o_nil, o_k, o_v, o_bop, o_uop, o_bi, o_ix, oQ_int, o_att, o_call, i_ET, i_R2, x_K, x_w, x_fn, x_gv, x_tabs, x_mth, x_prp, x_fld, x_isi, x_kwo, x_dfl, x_xf, x_exm, x_eis, x_lt, x_lfn, x_smt, x_cmt, x_cvl, y_cvl, x_opr, y_opr, y_cmt, y_K, y_w, y_fn, y_gv, y_tabs, y_mth, y_prp, y_fld, y_isi, y_kwo, y_dfl, y_xf, y_exm, y_eis, y_smt, isi_int, isi_str, isi_bl, isi_non, ii1, ii2, ii3, ii4, ii5, ii6, ii7, it1, it2, it3, it4, it5, it6, it7, it8, it9, it10, it11, it12, it13, r_add, r_sub, r_mul, r_div, r_mod, r_pow, r_shl, r_shr, r_and, r_or, r_xor, r_neg, r_inv, r_lt, r_le, r_gt, r_ge, r_eqI, r_neI, r_eqS, r_neS, r_inS, r_niS, b_int, b_intB, b_abs, b_lenS, b_strS, r_addS, r_isN, r_eqB, r_neB, List.getElem?_cons_zero, List.getElem?_cons_succ, List.set_cons_zero, List.set_cons_succ, List.map_cons, List.map_nil, List.length_cons, List.length_nil, Nat.reduceAdd, Nat.reduceSub, List.replicate_succ, List.replicate_zero, List.cons_append, List.nil_append, List.append_nil, Bool.not_true, Bool.not_false, if_true, if_false, ite_true, ite_false, Bool.false_eq_true, Bool.true_eq_false, reduceIte]
  refine x_fldv h1 rfl rfl ?_
  rw [r_neS, SX.S_beq]
  cases e : f == fo with
  | false =>
    rw [e, Bool.false_and] at h
    exact h
  | true =>
    rw [e, Bool.true_and] at h
    try simp only [e_k, e_v, e_g, e_bop, e_uop, e_not, e_and, e_or, e_ite, e_cmp, e_cmp2, e_lst, e_tup, e_call, e_mk, e_bi, e_isi, e_meth, e_bm, e_icall, e_ostr, e_att, e_ix, e_sl, e_isiM, e_methk, e_smeth, e_cmeth, e_mkv, e_mkk, kw_nil, e_oeq, e_eatt, e_eisi, e_one, e_rep, e_fmt, e_callk, e_xcmp, e_obin, e_oinv, e_oin, e_olen, e_obool, e_cat, e_fo3, e_rev, e_rgl, e_oeqs, t_v, t_isi, t_call, t_meth, t_bop, t_bi, t_att, t_not, t_and, t_or, t_cmp, t_cmp2, trQ_bl, blQ_bl, t_methk, t_smeth, t_oeq, t_eisi, t_ix, t_icall, t_one, t_callk, t_oin, t_obin, t_xcmp, t_oeqs, a_nil', a_cons, s_nil, s_cons, s_set, s_setLc, s_par, s_expr, s_ret, s_retN, s_if, s_never, s_pass, s_brk, s_cont, s_par3, s_oaug, s_raise, g_v', g_tup, g_sub, g_att, gs_nil, gs_cons, gs_tup, g_unl, i_L, i_T, i_S, i_R1, i_ES, i_E, i_Z, p_nil, p_pair, o_nil, o_k, o_v, o_bop, o_uop, o_bi, o_ix, oQ_int, o_att, o_call, i_ET, i_R2, x_K, x_w, x_fn, x_gv, x_tabs, x_mth, x_prp, x_fld, x_isi, x_kwo, x_dfl, x_xf, x_exm, x_eis, x_lt, x_lfn, x_smt, x_cmt, x_cvl, y_cvl, x_opr, y_opr, y_cmt, y_K, y_w, y_fn, y_gv, y_tabs, y_mth, y_prp, y_fld, y_isi, y_kwo, y_dfl, y_xf, y_exm, y_eis, y_smt, isi_int, isi_str, isi_bl, isi_non, ii1, ii2, ii3, ii4, ii5, ii6, ii7, it1, it2, it3, it4, it5, it6, it7, it8, it9, it10, it11, it12, it13, r_add, r_sub, r_mul, r_div, r_mod, r_pow, r_shl, r_shr, r_and, r_or, r_xor, r_neg, r_inv, r_lt, r_le, r_gt, r_ge, r_eqI, r_neI, r_eqS, r_neS, r_inS, r_niS, b_int, b_intB, b_abs, b_lenS, b_strS, r_addS, r_isN, r_eqB, r_neB, List.getElem?_cons_zero, List.getElem?_cons_succ, List.set_cons_zero, List.set_cons_succ, List.map_cons, List.map_nil, List.length_cons, List.length_nil, Nat.reduceAdd, Nat.reduceSub, List.replicate_succ, List.replicate_zero, List.cons_append, List.nil_append, List.append_nil, Bool.not_true, Bool.not_false, if_true, if_false, ite_true, ite_false, Bool.false_eq_true, Bool.true_eq_false, reduceIte]
    refine ⟨s_Line, dx, _, _, h1, mthH, rfl, c_has_names hx (by omega) ?_⟩
    cases e2 : (okN o ow && okN g gr) with
    | false =>
      rw [e2, Bool.false_and] at h
      exact h
    | true =>
      rw [e2, Bool.true_and] at h
      try simp only [e_k, e_v, e_g, e_bop, e_uop, e_not, e_and, e_or, e_ite, e_cmp, e_cmp2, e_lst, e_tup, e_call, e_mk, e_bi, e_isi, e_meth, e_bm, e_icall, e_ostr, e_att, e_ix, e_sl, e_isiM, e_methk, e_smeth, e_cmeth, e_mkv, e_mkk, kw_nil, e_oeq, e_eatt, e_eisi, e_one, e_rep, e_fmt, e_callk, e_xcmp, e_obin, e_oinv, e_oin, e_olen, e_obool, e_cat, e_fo3, e_rev, e_rgl, e_oeqs, t_v, t_isi, t_call, t_meth, t_bop, t_bi, t_att, t_not, t_and, t_or, t_cmp, t_cmp2, trQ_bl, blQ_bl, t_methk, t_smeth, t_oeq, t_eisi, t_ix, t_icall, t_one, t_callk, t_oin, t_obin, t_xcmp, t_oeqs, a_nil', a_cons, s_nil, s_cons, s_set, s_setLc, s_par, s_expr, s_ret, s_retN, s_if, s_never, s_pass, s_brk, s_cont, s_par3, s_oaug, s_raise, g_v', g_tup, g_sub, g_att, gs_nil, gs_cons, gs_tup, g_unl, i_L, i_T, i_S, i_R1, i_ES, i_E, i_Z, p_nil, p_pair, o_nil, o_k, o_v, o_bop, o_uop, o_bi, o_ix, oQ_int, o_att, o_call, i_ET, i_R2, x_K, x_w, x_fn, x_gv, x_tabs, x_mth, x_prp, x_fld, x_isi, x_kwo, x_dfl, x_xf, x_exm, x_eis, x_lt, x_lfn, x_smt, x_cmt, x_cvl, y_cvl, x_opr, y_opr, y_cmt, y_K, y_w, y_fn, y_gv, y_tabs, y_mth, y_prp, y_fld, y_isi, y_kwo, y_dfl, y_xf, y_exm, y_eis, y_smt, isi_int, isi_str, isi_bl, isi_non, ii1, ii2, ii3, ii4, ii5, ii6, ii7, it1, it2, it3, it4, it5, it6, it7, it8, it9, it10, it11, it12, it13, r_add, r_sub, r_mul, r_div, r_mod, r_pow, r_shl, r_shr, r_and, r_or, r_xor, r_neg, r_inv, r_lt, r_le, r_gt, r_ge, r_eqI, r_neI, r_eqS, r_neS, r_inS, r_niS, b_int, b_intB, b_abs, b_lenS, b_strS, r_addS, r_isN, r_eqB, r_neB, List.getElem?_cons_zero, List.getElem?_cons_succ, List.set_cons_zero, List.set_cons_succ, List.map_cons, List.map_nil, List.length_cons, List.length_nil, Nat.reduceAdd, Nat.reduceSub, List.replicate_succ, List.replicate_zero, List.cons_append, List.nil_append, List.append_nil, Bool.not_true, Bool.not_false, if_true, if_false, ite_true, ite_false, Bool.false_eq_true, Bool.true_eq_false, reduceIte]
      refine x_fldv h1 rfl rfl ?_
      refine x_prpv h4' rfl (c_Mode_number (by omega) h4' ?_)
      try simp only [e_k, e_v, e_g, e_bop, e_uop, e_not, e_and, e_or, e_ite, e_cmp, e_cmp2, e_lst, e_tup, e_call, e_mk, e_bi, e_isi, e_meth, e_bm, e_icall, e_ostr, e_att, e_ix, e_sl, e_isiM, e_methk, e_smeth, e_cmeth, e_mkv, e_mkk, kw_nil, e_oeq, e_eatt, e_eisi, e_one, e_rep, e_fmt, e_callk, e_xcmp, e_obin, e_oinv, e_oin, e_olen, e_obool, e_cat, e_fo3, e_rev, e_rgl, e_oeqs, t_v, t_isi, t_call, t_meth, t_bop, t_bi, t_att, t_not, t_and, t_or, t_cmp, t_cmp2, trQ_bl, blQ_bl, t_methk, t_smeth, t_oeq, t_eisi, t_ix, t_icall, t_one, t_callk, t_oin, t_obin, t_xcmp, t_oeqs, a_nil', a_cons, s_nil, s_cons, s_set, s_setLc, s_par, s_expr, s_ret, s_retN, s_if, s_never, s_pass, s_brk, s_cont, s_par3, s_oaug, s_raise, g_v', g_tup, g_sub, g_att, gs_nil, gs_cons, gs_tup, g_unl, i_L, i_T, i_S, i_R1, i_ES, i_E, i_Z, p_nil, p_pair, o_nil, o_k, o_v, o_bop, o_uop, o_bi, o_ix, oQ_int, o_att, o_call, i_ET, i_R2, x_K, x_w, x_fn, x_gv, x_tabs, x_mth, x_prp, x_fld, x_isi, x_kwo, x_dfl, x_xf, x_exm, x_eis, x_lt, x_lfn, x_smt, x_cmt, x_cvl, y_cvl, x_opr, y_opr, y_cmt, y_K, y_w, y_fn, y_gv, y_tabs, y_mth, y_prp, y_fld, y_isi, y_kwo, y_dfl, y_xf, y_exm, y_eis, y_smt, isi_int, isi_str, isi_bl, isi_non, ii1, ii2, ii3, ii4, ii5, ii6, ii7, it1, it2, it3, it4, it5, it6, it7, it8, it9, it10, it11, it12, it13, r_add, r_sub, r_mul, r_div, r_mod, r_pow, r_shl, r_shr, r_and, r_or, r_xor, r_neg, r_inv, r_lt, r_le, r_gt, r_ge, r_eqI, r_neI, r_eqS, r_neS, r_inS, r_niS, b_int, b_intB, b_abs, b_lenS, b_strS, r_addS, r_isN, r_eqB, r_neB, List.getElem?_cons_zero, List.getElem?_cons_succ, List.set_cons_zero, List.set_cons_succ, List.map_cons, List.map_nil, List.length_cons, List.length_nil, Nat.reduceAdd, Nat.reduceSub, List.replicate_succ, List.replicate_zero, List.cons_append, List.nil_append, List.append_nil, Bool.not_true, Bool.not_false, if_true, if_false, ite_true, ite_false, Bool.false_eq_true, Bool.true_eq_false, reduceIte]
      refine x_fldv h1 rfl rfl ?_
      refine x_prpv h4' rfl (c_Mode_number (by omega) h4' ?_)
      try simp only [e_k, e_v, e_g, e_bop, e_uop, e_not, e_and, e_or, e_ite, e_cmp, e_cmp2, e_lst, e_tup, e_call, e_mk, e_bi, e_isi, e_meth, e_bm, e_icall, e_ostr, e_att, e_ix, e_sl, e_isiM, e_methk, e_smeth, e_cmeth, e_mkv, e_mkk, kw_nil, e_oeq, e_eatt, e_eisi, e_one, e_rep, e_fmt, e_callk, e_xcmp, e_obin, e_oinv, e_oin, e_olen, e_obool, e_cat, e_fo3, e_rev, e_rgl, e_oeqs, t_v, t_isi, t_call, t_meth, t_bop, t_bi, t_att, t_not, t_and, t_or, t_cmp, t_cmp2, trQ_bl, blQ_bl, t_methk, t_smeth, t_oeq, t_eisi, t_ix, t_icall, t_one, t_callk, t_oin, t_obin, t_xcmp, t_oeqs, a_nil', a_cons, s_nil, s_cons, s_set, s_setLc, s_par, s_expr, s_ret, s_retN, s_if, s_never, s_pass, s_brk, s_cont, s_par3, s_oaug, s_raise, g_v', g_tup, g_sub, g_att, gs_nil, gs_cons, gs_tup, g_unl, i_L, i_T, i_S, i_R1, i_ES, i_E, i_Z, p_nil, p_pair, o_nil, o_k, o_v, o_bop, o_uop, o_bi, o_ix, oQ_int, o_att, o_call, i_ET, i_R2, x_K, x_w, x_fn, x_gv, x_tabs, x_mth, x_prp, x_fld, x_isi, x_kwo, x_dfl, x_xf, x_exm, x_eis, x_lt, x_lfn, x_smt, x_cmt, x_cvl, y_cvl, x_opr, y_opr, y_cmt, y_K, y_w, y_fn, y_gv, y_tabs, y_mth, y_prp, y_fld, y_isi, y_kwo, y_dfl, y_xf, y_exm, y_eis, y_smt, isi_int, isi_str, isi_bl, isi_non, ii1, ii2, ii3, ii4, ii5, ii6, ii7, it1, it2, it3, it4, it5, it6, it7, it8, it9, it10, it11, it12, it13, r_add, r_sub, r_mul, r_div, r_mod, r_pow, r_shl, r_shr, r_and, r_or, r_xor, r_neg, r_inv, r_lt, r_le, r_gt, r_ge, r_eqI, r_neI, r_eqS, r_neS, r_inS, r_niS, b_int, b_intB, b_abs, b_lenS, b_strS, r_addS, r_isN, r_eqB, r_neB, List.getElem?_cons_zero, List.getElem?_cons_succ, List.set_cons_zero, List.set_cons_succ, List.map_cons, List.map_nil, List.length_cons, List.length_nil, Nat.reduceAdd, Nat.reduceSub, List.replicate_succ, List.replicate_zero, List.cons_append, List.nil_append, List.append_nil, Bool.not_true, Bool.not_false, if_true, if_false, ite_true, ite_false, Bool.false_eq_true, Bool.true_eq_false, reduceIte]
      cases e3 : Builtin.bitAnd b mu == mu with
      | false =>
        rw [e3, Bool.false_and] at h
        exact h
      | true =>
        rw [e3, Bool.true_and] at h
        try simp only [e_k, e_v, e_g, e_bop, e_uop, e_not, e_and, e_or, e_ite, e_cmp, e_cmp2, e_lst, e_tup, e_call, e_mk, e_bi, e_isi, e_meth, e_bm, e_icall, e_ostr, e_att, e_ix, e_sl, e_isiM, e_methk, e_smeth, e_cmeth, e_mkv, e_mkk, kw_nil, e_oeq, e_eatt, e_eisi, e_one, e_rep, e_fmt, e_callk, e_xcmp, e_obin, e_oinv, e_oin, e_olen, e_obool, e_cat, e_fo3, e_rev, e_rgl, e_oeqs, t_v, t_isi, t_call, t_meth, t_bop, t_bi, t_att, t_not, t_and, t_or, t_cmp, t_cmp2, trQ_bl, blQ_bl, t_methk, t_smeth, t_oeq, t_eisi, t_ix, t_icall, t_one, t_callk, t_oin, t_obin, t_xcmp, t_oeqs, a_nil', a_cons, s_nil, s_cons, s_set, s_setLc, s_par, s_expr, s_ret, s_retN, s_if, s_never, s_pass, s_brk, s_cont, s_par3, s_oaug, s_raise, g_v', g_tup, g_sub, g_att, gs_nil, gs_cons, gs_tup, g_unl, i_L, i_T, i_S, i_R1, i_ES, i_E, i_Z, p_nil, p_pair, o_nil, o_k, o_v, o_bop, o_uop, o_bi, o_ix, oQ_int, o_att, o_call, i_ET, i_R2, x_K, x_w, x_fn, x_gv, x_tabs, x_mth, x_prp, x_fld, x_isi, x_kwo, x_dfl, x_xf, x_exm, x_eis, x_lt, x_lfn, x_smt, x_cmt, x_cvl, y_cvl, x_opr, y_opr, y_cmt, y_K, y_w, y_fn, y_gv, y_tabs, y_mth, y_prp, y_fld, y_isi, y_kwo, y_dfl, y_xf, y_exm, y_eis, y_smt, isi_int, isi_str, isi_bl, isi_non, ii1, ii2, ii3, ii4, ii5, ii6, ii7, it1, it2, it3, it4, it5, it6, it7, it8, it9, it10, it11, it12, it13, r_add, r_sub, r_mul, r_div, r_mod, r_pow, r_shl, r_shr, r_and, r_or, r_xor, r_neg, r_inv, r_lt, r_le, r_gt, r_ge, r_eqI, r_neI, r_eqS, r_neS, r_inS, r_niS, b_int, b_intB, b_abs, b_lenS, b_strS, r_addS, r_isN, r_eqB, r_neB, List.getElem?_cons_zero, List.getElem?_cons_succ, List.set_cons_zero, List.set_cons_succ, List.map_cons, List.map_nil, List.length_cons, List.length_nil, Nat.reduceAdd, Nat.reduceSub, List.replicate_succ, List.replicate_zero, List.cons_append, List.nil_append, List.append_nil, Bool.not_true, Bool.not_false, if_true, if_false, ite_true, ite_false, Bool.false_eq_true, Bool.true_eq_false, reduceIte]
        refine x_fldv h1 rfl rfl ?_
        refine x_prpv h5' rfl (c_Mode_number (by omega) h5' ?_)
        try simp only [e_k, e_v, e_g, e_bop, e_uop, e_not, e_and, e_or, e_ite, e_cmp, e_cmp2, e_lst, e_tup, e_call, e_mk, e_bi, e_isi, e_meth, e_bm, e_icall, e_ostr, e_att, e_ix, e_sl, e_isiM, e_methk, e_smeth, e_cmeth, e_mkv, e_mkk, kw_nil, e_oeq, e_eatt, e_eisi, e_one, e_rep, e_fmt, e_callk, e_xcmp, e_obin, e_oinv, e_oin, e_olen, e_obool, e_cat, e_fo3, e_rev, e_rgl, e_oeqs, t_v, t_isi, t_call, t_meth, t_bop, t_bi, t_att, t_not, t_and, t_or, t_cmp, t_cmp2, trQ_bl, blQ_bl, t_methk, t_smeth, t_oeq, t_eisi, t_ix, t_icall, t_one, t_callk, t_oin, t_obin, t_xcmp, t_oeqs, a_nil', a_cons, s_nil, s_cons, s_set, s_setLc, s_par, s_expr, s_ret, s_retN, s_if, s_never, s_pass, s_brk, s_cont, s_par3, s_oaug, s_raise, g_v', g_tup, g_sub, g_att, gs_nil, gs_cons, gs_tup, g_unl, i_L, i_T, i_S, i_R1, i_ES, i_E, i_Z, p_nil, p_pair, o_nil, o_k, o_v, o_bop, o_uop, o_bi, o_ix, oQ_int, o_att, o_call, i_ET, i_R2, x_K, x_w, x_fn, x_gv, x_tabs, x_mth, x_prp, x_fld, x_isi, x_kwo, x_dfl, x_xf, x_exm, x_eis, x_lt, x_lfn, x_smt, x_cmt, x_cvl, y_cvl, x_opr, y_opr, y_cmt, y_K, y_w, y_fn, y_gv, y_tabs, y_mth, y_prp, y_fld, y_isi, y_kwo, y_dfl, y_xf, y_exm, y_eis, y_smt, isi_int, isi_str, isi_bl, isi_non, ii1, ii2, ii3, ii4, ii5, ii6, ii7, it1, it2, it3, it4, it5, it6, it7, it8, it9, it10, it11, it12, it13, r_add, r_sub, r_mul, r_div, r_mod, r_pow, r_shl, r_shr, r_and, r_or, r_xor, r_neg, r_inv, r_lt, r_le, r_gt, r_ge, r_eqI, r_neI, r_eqS, r_neS, r_inS, r_niS, b_int, b_intB, b_abs, b_lenS, b_strS, r_addS, r_isN, r_eqB, r_neB, List.getElem?_cons_zero, List.getElem?_cons_succ, List.set_cons_zero, List.set_cons_succ, List.map_cons, List.map_nil, List.length_cons, List.length_nil, Nat.reduceAdd, Nat.reduceSub, List.replicate_succ, List.replicate_zero, List.cons_append, List.nil_append, List.append_nil, Bool.not_true, Bool.not_false, if_true, if_false, ite_true, ite_false, Bool.false_eq_true, Bool.true_eq_false, reduceIte]
        exact h
end
end U

namespace U
open PySem PySem.Spec PyProof.Rows L2
/-! ### numbers of patterns -/
theorem band_nn (a b : Nat) : Builtin.bitAnd (a : Int) (b : Int) = ((a &&& b : Nat) : Int) := by simp [Builtin.bitAnd]
/-- the bits of a letter alone, by a pattern (as the law adds them up) -/
def bkI (k pl : Int) : Int := Builtin.bitOr (Builtin.bitOr (Builtin.bitOr 0 (Builtin.bitAnd (k / 2 ^ (0 : Int).toNat) 1 * 2 ^ (3 * 0 + pl).toNat)) (Builtin.bitAnd (k / 2 ^ (1 : Int).toNat) 1 * 2 ^ (3 * 1 + pl).toNat)) (Builtin.bitAnd (k / 2 ^ (2 : Int).toNat) 1 * 2 ^ (3 * 2 + pl).toNat)
def okP (mu ne pl : Int) (k : Nat) : Bool := (Builtin.bitAnd (k : Int) (patI mu pl) == patI mu pl) && (Builtin.bitAnd (k : Int) (patI ne pl) == 0)
def okL (mu ne pl : Int) (k : Nat) : Bool := (Builtin.bitAnd (bkI k pl) mu == Builtin.bitAnd mu (73 * 2 ^ pl.toNat)) && (Builtin.bitAnd (bkI k pl) ne == 0)
theorem nm0 : ∀ mu : Nat, mu < 512 → ∀ k : Nat, k < 8 → (Builtin.bitAnd (k : Int) (patI (mu : Int) 0) == patI (mu : Int) 0) = (Builtin.bitAnd (bkI k 0) (mu : Int) == Builtin.bitAnd (mu : Int) (73 * 2 ^ (0 : Int).toNat)) := by decide +kernel
theorem nm1 : ∀ mu : Nat, mu < 512 → ∀ k : Nat, k < 8 → (Builtin.bitAnd (k : Int) (patI (mu : Int) 1) == patI (mu : Int) 1) = (Builtin.bitAnd (bkI k 1) (mu : Int) == Builtin.bitAnd (mu : Int) (73 * 2 ^ (1 : Int).toNat)) := by decide +kernel
theorem nm2 : ∀ mu : Nat, mu < 512 → ∀ k : Nat, k < 8 → (Builtin.bitAnd (k : Int) (patI (mu : Int) 2) == patI (mu : Int) 2) = (Builtin.bitAnd (bkI k 2) (mu : Int) == Builtin.bitAnd (mu : Int) (73 * 2 ^ (2 : Int).toNat)) := by decide +kernel
theorem nn0 : ∀ mu : Nat, mu < 512 → ∀ k : Nat, k < 8 → (Builtin.bitAnd (k : Int) (patI (mu : Int) 0) == 0) = (Builtin.bitAnd (bkI k 0) (mu : Int) == 0) := by decide +kernel
theorem nn1 : ∀ mu : Nat, mu < 512 → ∀ k : Nat, k < 8 → (Builtin.bitAnd (k : Int) (patI (mu : Int) 1) == 0) = (Builtin.bitAnd (bkI k 1) (mu : Int) == 0) := by decide +kernel
theorem nn2 : ∀ mu : Nat, mu < 512 → ∀ k : Nat, k < 8 → (Builtin.bitAnd (k : Int) (patI (mu : Int) 2) == 0) = (Builtin.bitAnd (bkI k 2) (mu : Int) == 0) := by decide +kernel
theorem ok_PL {mu ne : Nat} (h1 : mu < 512) (h2 : ne < 512) {pl : Int} (hp : 0 ≤ pl ∧ pl ≤ 2) {k : Nat} (hk : k < 8) : okP mu ne pl k = okL mu ne pl k := by
  unfold okP okL
  obtain rfl | rfl | rfl : pl = 0 ∨ pl = 1 ∨ pl = 2 := by omega
  · rw [nm0 mu h1 k hk, nn0 ne h2 k hk]
  · rw [nm1 mu h1 k hk, nn1 ne h2 k hk]
  · rw [nm2 mu h1 k hk, nn2 ne h2 k hk]
def pats (mu ne pl : Int) : List Nat := (List.range 8).filter (okP mu ne pl)
theorem pats_L {mu ne : Nat} (h1 : mu < 512) (h2 : ne < 512) {pl : Int} (hp : 0 ≤ pl ∧ pl ≤ 2) : (List.range 8).filter (okL mu ne pl) = pats mu ne pl :=
  List.filter_congr fun k hk => (ok_PL h1 h2 hp (List.mem_range.mp hk)).symm
/-- a pattern's bits are the mode's -/
theorem tb0 : ∀ mu : Nat, mu < 512 → ∀ pl : Nat, pl < 3 → 0 ≤ patI (mu : Int) (pl : Int) ∧ (patI (mu : Int) (pl : Int)).toNat < 8 ∧ ∀ j : Nat, j < 3 → (patI (mu : Int) (pl : Int)).toNat.testBit j = mu.testBit (3 * j + pl) := by decide +kernel
theorem sub_tb {m j : Nat} (hm : m < 512) : (511 - m).testBit j = (decide (j < 9) && !m.testBit j) := by
  have := Nat.testBit_two_pow_sub_succ (x := m) (n := 9) (by omega) j
  rw [show 2 ^ 9 - (m + 1) = 511 - m by omega] at this
  exact this
theorem hi_tb {m j : Nat} (hm : m < 512) (hj : 9 ≤ j) : m.testBit j = false := Nat.testBit_lt_two_pow (Nat.lt_of_lt_of_le hm (show 2 ^ 9 ≤ 2 ^ j from Nat.pow_le_pow_right (by decide) hj))
theorem ne_ok {m c : Nat} (hm : m < 512) : Builtin.bitAnd (m : Int) (Builtin.bitAnd (c : Int) (511 - (m : Int))) = 0 ∧ 0 ≤ Builtin.bitAnd (c : Int) (511 - (m : Int)) ∧ Builtin.bitAnd (c : Int) (511 - (m : Int)) ≤ 511 := by
  rw [show (511 : Int) - (m : Int) = ((511 - m : Nat) : Int) by omega, band_nn, band_nn]
  have e : m &&& (c &&& (511 - m)) = 0 := by
    apply Nat.eq_of_testBit_eq
    intro j
    rw [Nat.testBit_and, Nat.testBit_and, sub_tb hm, Nat.zero_testBit]
    cases m.testBit j <;> simp
  have l : c &&& (511 - m) ≤ 511 - m := Nat.and_le_right
  rw [e]
  exact ⟨rfl, by omega, by omega⟩
theorem pat_mu {mu ne : Nat} (h1 : mu < 512) (h2 : ne < 512) (h : Builtin.bitAnd (mu : Int) (ne : Int) = 0) {pl : Nat} (hp : pl < 3) : okP mu ne pl (patI (mu : Int) (pl : Int)).toNat = true := by
  obtain ⟨a1, a2, a3⟩ := tb0 mu h1 pl hp
  obtain ⟨b1, b2, b3⟩ := tb0 ne h2 pl hp
  unfold okP
  rw [Int.toNat_of_nonneg a1]
  rw [band_nn] at h
  have h : mu &&& ne = 0 := by omega
  generalize ea : (patI (mu : Int) (pl : Int)).toNat = a at a2 a3
  generalize eb : (patI (ne : Int) (pl : Int)).toNat = b at b2 b3
  rw [show patI (mu : Int) (pl : Int) = (a : Int) by omega, show patI (ne : Int) (pl : Int) = (b : Int) by omega, band_nn, band_nn, Nat.and_self]
  have e : a &&& b = 0 := by
    apply Nat.eq_of_testBit_eq
    intro j
    rw [Nat.testBit_and, Nat.zero_testBit]
    by_cases hj : j < 3
    · rw [a3 j hj, b3 j hj, ← Nat.testBit_and, h, Nat.zero_testBit]
    · rw [Nat.testBit_lt_two_pow (Nat.lt_of_lt_of_le a2 (show 2 ^ 3 ≤ 2 ^ j from Nat.pow_le_pow_right (by decide) (by omega)))]
      rfl
  rw [e]
  simp
theorem pats_ne {mu ne : Nat} (h1 : mu < 512) (h2 : ne < 512) (h : Builtin.bitAnd (mu : Int) (ne : Int) = 0) {pl : Nat} (hp : pl < 3) : 1 ≤ (pats mu ne pl).length := by
  have := tb0 mu h1 pl hp
  exact List.length_pos_of_mem (List.mem_filter.mpr ⟨List.mem_range.mpr this.2.1, pat_mu h1 h2 h hp⟩)
/-- a mode that is put together -/
def putI (r x0 x1 : Nat) : Int := wpI (wpI (wpI 0 2 r) 1 x0) 0 x1
theorem put_ok : ∀ r : Nat, r < 8 → ∀ a : Nat, a < 8 → ∀ b : Nat, b < 8 → 0 ≤ putI r a b ∧ putI r a b ≤ 511 ∧ patI (putI r a b) 2 = r ∧ patI (putI r a b) 1 = a ∧ patI (putI r a b) 0 = b := by decide +kernel
theorem all_ok {b mu ne : Nat} (hb : b < 512) (h1 : mu < 512) (h2 : ne < 512) (h : ∀ pl : Nat, pl < 3 → okP mu ne pl (patI (b : Int) (pl : Int)).toNat = true) : Builtin.bitAnd (b : Int) mu = mu ∧ Builtin.bitAnd (b : Int) ne = 0 := by
  rw [band_nn, band_nn]
  have key : ∀ j : Nat, j < 9 → (b.testBit j && mu.testBit j) = mu.testBit j ∧ (b.testBit j && ne.testBit j) = false := by
    intro j hj
    have hp : j % 3 < 3 := Nat.mod_lt _ (by decide)
    have hq : j / 3 < 3 := by omega
    obtain ⟨c1, c2, c3⟩ := tb0 b hb (j % 3) hp
    obtain ⟨a1, a2, a3⟩ := tb0 mu h1 (j % 3) hp
    obtain ⟨d1, d2, d3⟩ := tb0 ne h2 (j % 3) hp
    have k := h (j % 3) hp
    unfold okP at k
    rw [Bool.and_eq_true, beq_iff_eq, beq_iff_eq] at k
    obtain ⟨k1, k2⟩ := k
    have e1 := c3 _ hq
    have e2 := a3 _ hq
    have e3 := d3 _ hq
    rw [show 3 * (j / 3) + j % 3 = j by omega] at e1 e2 e3
    generalize eb : (patI (b : Int) ((j % 3 : Nat) : Int)).toNat = b' at *
    generalize ea : (patI (mu : Int) ((j % 3 : Nat) : Int)).toNat = a' at *
    generalize ed : (patI (ne : Int) ((j % 3 : Nat) : Int)).toNat = d' at *
    rw [show patI (mu : Int) ((j % 3 : Nat) : Int) = (a' : Int) by omega, band_nn] at k1
    rw [show patI (ne : Int) ((j % 3 : Nat) : Int) = (d' : Int) by omega, band_nn] at k2
    have k1 : b' &&& a' = a' := by omega
    have k2 : b' &&& d' = 0 := by omega
    rw [← e1, ← e2, ← e3, ← Nat.testBit_and, ← Nat.testBit_and, k1, k2, Nat.zero_testBit]
    exact ⟨rfl, rfl⟩
  have f1 : b &&& mu = mu := by
    apply Nat.eq_of_testBit_eq
    intro j
    rw [Nat.testBit_and]
    by_cases hj : j < 9
    · exact (key j hj).1
    · rw [hi_tb h1 (by omega), Bool.and_false]
  have f2 : b &&& ne = 0 := by
    apply Nat.eq_of_testBit_eq
    intro j
    rw [Nat.testBit_and, Nat.zero_testBit]
    by_cases hj : j < 9
    · exact (key j hj).2
    · rw [hi_tb h2 (by omega), Bool.and_false]
  rw [f1, f2]
  exact ⟨rfl, rfl⟩
end U

namespace U
open PySem PySem.Spec PyProof.Rows L2
variable {K : PySem.W.Frag} {w : World} {n m : Nat} {H : Hp} {Q : VK} {E : XK}
abbrev inV' (ks : List Nat) : List V := ks.map fun k => V.int (k : Nat)
theorem filt_in {f : V → Option V} {g : Nat → Bool} (h : ∀ k, f (.int (k : Nat)) = if g k then some (.int (k : Nat)) else none) : ∀ ks : List Nat, (inV' ks).filterMap f = inV' (ks.filter g)
  | [] => rfl
  | k :: ks => by
    show List.filterMap f (V.int (k : Nat) :: inV' ks) = inV' (List.filter g (k :: ks))
    rw [List.filterMap_cons, h k, List.filter_cons]
    cases g k with
    | true => show V.int _ :: _ = V.int _ :: _; rw [filt_in h ks]
    | false => exact filt_in h ks
section
variable {C : Ctx} {W : WX} {σ : L2.St}
/-- [elt for x in it if cond], x in slot i -/
theorem lc_mapF {nm : Str} {i : Nat} {elt it cond : I} {b : Bool} {xs : List V} {ok : Hp → Prop} (f : V → Option V)
    (hit : ∀ R : (Hp → Prop) → List It1 → Hp → Prop, R ok (xs.map .v) H → (rd C it W).i σ H R) (hok : ∀ H', Ext H H' → ok H') (hlen : xs.length ≤ sizeLine)
    (step : ∀ x ∈ xs, ∀ (H' : Hp), Ext H H' → ∀ (P : Hp → Prop) (Pv : VK), (∀ v, f x = some v → ∀ H'', Ext H' H'' → Pv v H'') → (f x = none → ∀ H'', Ext H' H'' → P H'') →
      lcIf b (rd C cond noW).t ((wipe σ [i]).set i (some x)) H' fun bb H3 => if bb = true then (rd C elt noW).e ((wipe σ [i]).set i (some x)) H3 Pv else P H3)
    (fin : ∀ p H', Ext H H' → H p = none → H' p = some (.lst (xs.filterMap f)) → Q (.ref p) H') : (rd C (.lc [(nm, i)] elt (.v i) it b cond) W).e σ H Q := by
  rw [e_lc]
  refine hit _ fun D hD => ?_
  refine lcs_inv (H := H) (f := fun | .v x => f x | _ => none) hok _ [] _ (Ext.new hD) upd_same ?_ (by simpa using hlen) ?_
  · intro y hy H' acc nx x1 e1 hl hq
    obtain ⟨x, hx, rfl⟩ := List.mem_map.mp hy
    refine ⟨wipe_set1, ?_⟩
    refine step x hx H' x1 nx _ (fun v hv H'' x2 => ?_) fun hv H'' x2 => ?_
    · refine ⟨acc, x2.get e1, hl, hq _ ((x1.trans x2).put hD) ?_⟩
      rw [upd_same]
      show _ = some (HO.lst (acc ++ (f x).toList))
      rw [hv]
      rfl
    · refine hq _ (x1.trans x2) ?_
      rw [x2.get e1]
      show _ = some (HO.lst (acc ++ (f x).toList))
      rw [hv]
      simp
  · intro H' x e
    refine fin D H' x hD ?_
    rw [e, List.nil_append, List.filterMap_map]
    rfl
end
section
variable {x : Addr} {fo o g : List Nat} {ow gr : ON} {mu ne : Int}
theorem c_patterns {c : Nat} {p : Int} (hx : Ln K H x fo ow gr mu ne) (hc : (c, p) ∈ [(114, 2), (119, 1), (120, (0 : Int))]) (hn : 3 ≤ n) (h : ∀ r H', Ext H H' → H r = none → H' r = some (.lst (inV' (pats mu ne p))) → Q (.ref r) H') : run hd.pg K w n s_Line_patterns [.ref x, .str (S [c])] H Q E := by
  obtain ⟨dx, vo, vg, pm, pn, h1, h2, h3, h4, h5⟩ := id hx
  obtain ⟨dm, h4'⟩ := id h4
  obtain ⟨dn, h5'⟩ := id h5
  refine run_at f_Line_patterns (by omega) rfl ?_
  simp only [d_Line_patterns, b_Line_patterns, L2.start, e_k, e_v, e_g, e_bop, e_uop, e_not, e_and, e_or, e_ite, e_cmp, e_cmp2, e_lst, e_tup, e_call, e_mk, e_bi, e_isi, e_meth, e_bm, e_icall, e_ostr, e_att, e_ix, e_sl, e_isiM, e_methk, e_smeth, e_cmeth, e_mkv, e_mkk, kw_nil, e_oeq, e_eatt, e_eisi, e_one, e_rep, e_fmt, e_callk, e_xcmp, e_obin, e_oinv, e_oin, e_olen, e_obool, e_cat, e_fo3, e_rev, e_rgl, e_oeqs, t_v, t_isi, t_call, t_meth, t_bop, t_bi, t_att, t_not, t_and, t_or, t_cmp, t_cmp2, trQ_bl, blQ_bl, t_methk, t_smeth, t_oeq, t_eisi, t_ix, t_icall, t_one, t_callk, t_oin, t_obin, t_xcmp, t_oeqs, a_nil', a_cons, s_nil, s_cons, s_set, s_setLc, s_par, s_expr, s_ret, s_retN, s_if, s_never, s_pass, s_brk, s_cont, s_par3, s_oaug, s_raise, g_v', g_tup, g_sub, g_att, gs_nil, gs_cons, gs_tup, g_unl, i_L, i_T, i_S, i_R1, i_ES, i_E, i_Z, p_nil, p_pair, o_nil, o_k, o_v, o_bop, o_uop, o_bi, o_ix, oQ_int, o_att, o_call, i_ET, i_R2, x_K, x_w, x_fn, x_gv, x_tabs, x_mth, x_prp, x_fld, x_isi, x_kwo, x_dfl, x_xf, x_exm, x_eis, x_lt, x_lfn, x_smt, x_cmt, x_cvl, y_cvl, x_opr, y_opr, y_cmt, y_K, y_w, y_fn, y_gv, y_tabs, y_mth, y_prp, y_fld, y_isi, y_kwo, y_dfl, y_xf, y_exm, y_eis, y_smt, isi_int, isi_str, isi_bl, isi_non, ii1, ii2, ii3, ii4, ii5, ii6, ii7, it1, it2, it3, it4, it5, it6, it7, it8, it9, it10, it11, it12, it13, r_add, r_sub, r_mul, r_div, r_mod, r_pow, r_shl, r_shr, r_and, r_or, r_xor, r_neg, r_inv, r_lt, r_le, r_gt, r_ge, r_eqI, r_neI, r_eqS, r_neS, r_inS, r_niS, b_int, b_intB, b_abs, b_lenS, b_strS, r_addS, r_isN, r_eqB, r_neB, List.getElem?_cons_zero, List.getElem?_cons_succ, List.set_cons_zero, List.set_cons_succ, List.map_cons, List.map_nil, List.length_cons, List.length_nil, Nat.reduceAdd, Nat.reduceSub, List.replicate_succ, List.replicate_zero, List.cons_append, List.nil_append, List.append_nil, Bool.not_true, Bool.not_false, if_true, if_false, ite_true, ite_false, Bool.false_eq_true, Bool.true_eq_false, reduceIte]
  refine x_fldv h1 rfl rfl ?_
  refine ⟨s_Mode, dm, _, _, h4', mthMp, rfl, c_pattern (by omega) h4 hc fun H1 x1 => ?_⟩
  try simp only [e_k, e_v, e_g, e_bop, e_uop, e_not, e_and, e_or, e_ite, e_cmp, e_cmp2, e_lst, e_tup, e_call, e_mk, e_bi, e_isi, e_meth, e_bm, e_icall, e_ostr, e_att, e_ix, e_sl, e_isiM, e_methk, e_smeth, e_cmeth, e_mkv, e_mkk, kw_nil, e_oeq, e_eatt, e_eisi, e_one, e_rep, e_fmt, e_callk, e_xcmp, e_obin, e_oinv, e_oin, e_olen, e_obool, e_cat, e_fo3, e_rev, e_rgl, e_oeqs, t_v, t_isi, t_call, t_meth, t_bop, t_bi, t_att, t_not, t_and, t_or, t_cmp, t_cmp2, trQ_bl, blQ_bl, t_methk, t_smeth, t_oeq, t_eisi, t_ix, t_icall, t_one, t_callk, t_oin, t_obin, t_xcmp, t_oeqs, a_nil', a_cons, s_nil, s_cons, s_set, s_setLc, s_par, s_expr, s_ret, s_retN, s_if, s_never, s_pass, s_brk, s_cont, s_par3, s_oaug, s_raise, g_v', g_tup, g_sub, g_att, gs_nil, gs_cons, gs_tup, g_unl, i_L, i_T, i_S, i_R1, i_ES, i_E, i_Z, p_nil, p_pair, o_nil, o_k, o_v, o_bop, o_uop, o_bi, o_ix, oQ_int, o_att, o_call, i_ET, i_R2, x_K, x_w, x_fn, x_gv, x_tabs, x_mth, x_prp, x_fld, x_isi, x_kwo, x_dfl, x_xf, x_exm, x_eis, x_lt, x_lfn, x_smt, x_cmt, x_cvl, y_cvl, x_opr, y_opr, y_cmt, y_K, y_w, y_fn, y_gv, y_tabs, y_mth, y_prp, y_fld, y_isi, y_kwo, y_dfl, y_xf, y_exm, y_eis, y_smt, isi_int, isi_str, isi_bl, isi_non, ii1, ii2, ii3, ii4, ii5, ii6, ii7, it1, it2, it3, it4, it5, it6, it7, it8, it9, it10, it11, it12, it13, r_add, r_sub, r_mul, r_div, r_mod, r_pow, r_shl, r_shr, r_and, r_or, r_xor, r_neg, r_inv, r_lt, r_le, r_gt, r_ge, r_eqI, r_neI, r_eqS, r_neS, r_inS, r_niS, b_int, b_intB, b_abs, b_lenS, b_strS, r_addS, r_isN, r_eqB, r_neB, List.getElem?_cons_zero, List.getElem?_cons_succ, List.set_cons_zero, List.set_cons_succ, List.map_cons, List.map_nil, List.length_cons, List.length_nil, Nat.reduceAdd, Nat.reduceSub, List.replicate_succ, List.replicate_zero, List.cons_append, List.nil_append, List.append_nil, Bool.not_true, Bool.not_false, if_true, if_false, ite_true, ite_false, Bool.false_eq_true, Bool.true_eq_false, reduceIte]
  refine x_fldv (x1.get h1) rfl rfl ?_
  refine ⟨s_Mode, dn, _, _, x1.get h5', mthMp, rfl, c_pattern (by omega) (h5.ext x1) hc fun H2 x2 => ?_⟩
  try simp only [e_k, e_v, e_g, e_bop, e_uop, e_not, e_and, e_or, e_ite, e_cmp, e_cmp2, e_lst, e_tup, e_call, e_mk, e_bi, e_isi, e_meth, e_bm, e_icall, e_ostr, e_att, e_ix, e_sl, e_isiM, e_methk, e_smeth, e_cmeth, e_mkv, e_mkk, kw_nil, e_oeq, e_eatt, e_eisi, e_one, e_rep, e_fmt, e_callk, e_xcmp, e_obin, e_oinv, e_oin, e_olen, e_obool, e_cat, e_fo3, e_rev, e_rgl, e_oeqs, t_v, t_isi, t_call, t_meth, t_bop, t_bi, t_att, t_not, t_and, t_or, t_cmp, t_cmp2, trQ_bl, blQ_bl, t_methk, t_smeth, t_oeq, t_eisi, t_ix, t_icall, t_one, t_callk, t_oin, t_obin, t_xcmp, t_oeqs, a_nil', a_cons, s_nil, s_cons, s_set, s_setLc, s_par, s_expr, s_ret, s_retN, s_if, s_never, s_pass, s_brk, s_cont, s_par3, s_oaug, s_raise, g_v', g_tup, g_sub, g_att, gs_nil, gs_cons, gs_tup, g_unl, i_L, i_T, i_S, i_R1, i_ES, i_E, i_Z, p_nil, p_pair, o_nil, o_k, o_v, o_bop, o_uop, o_bi, o_ix, oQ_int, o_att, o_call, i_ET, i_R2, x_K, x_w, x_fn, x_gv, x_tabs, x_mth, x_prp, x_fld, x_isi, x_kwo, x_dfl, x_xf, x_exm, x_eis, x_lt, x_lfn, x_smt, x_cmt, x_cvl, y_cvl, x_opr, y_opr, y_cmt, y_K, y_w, y_fn, y_gv, y_tabs, y_mth, y_prp, y_fld, y_isi, y_kwo, y_dfl, y_xf, y_exm, y_eis, y_smt, isi_int, isi_str, isi_bl, isi_non, ii1, ii2, ii3, ii4, ii5, ii6, ii7, it1, it2, it3, it4, it5, it6, it7, it8, it9, it10, it11, it12, it13, r_add, r_sub, r_mul, r_div, r_mod, r_pow, r_shl, r_shr, r_and, r_or, r_xor, r_neg, r_inv, r_lt, r_le, r_gt, r_ge, r_eqI, r_neI, r_eqS, r_neS, r_inS, r_niS, b_int, b_intB, b_abs, b_lenS, b_strS, r_addS, r_isN, r_eqB, r_neB, List.getElem?_cons_zero, List.getElem?_cons_succ, List.set_cons_zero, List.set_cons_succ, List.map_cons, List.map_nil, List.length_cons, List.length_nil, Nat.reduceAdd, Nat.reduceSub, List.replicate_succ, List.replicate_zero, List.cons_append, List.nil_append, List.append_nil, Bool.not_true, Bool.not_false, if_true, if_false, ite_true, ite_false, Bool.false_eq_true, Bool.true_eq_false, reduceIte]
  refine ⟨by decide, fun t ht => ?_⟩
  have xt := Ext.new (H := H2) (o := .tup [.int (patI mu p), .int (patI ne p)]) ht
  have et : upd H2 t (.tup [.int (patI mu p), .int (patI ne p)]) t = some (.tup [.int (patI mu p), .int (patI ne p)]) := upd_same
  generalize upd H2 t (.tup [.int (patI mu p), .int (patI ne p)]) = H3 at xt et ⊢
  refine ⟨_, .inl (.inl et), rfl, ?_⟩
  simp only [gs_cons, gs_nil, g_v', e_k, e_v, e_g, e_bop, e_uop, e_not, e_and, e_or, e_ite, e_cmp, e_cmp2, e_lst, e_tup, e_call, e_mk, e_bi, e_isi, e_meth, e_bm, e_icall, e_ostr, e_att, e_ix, e_sl, e_isiM, e_methk, e_smeth, e_cmeth, e_mkv, e_mkk, kw_nil, e_oeq, e_eatt, e_eisi, e_one, e_rep, e_fmt, e_callk, e_xcmp, e_obin, e_oinv, e_oin, e_olen, e_obool, e_cat, e_fo3, e_rev, e_rgl, e_oeqs, t_v, t_isi, t_call, t_meth, t_bop, t_bi, t_att, t_not, t_and, t_or, t_cmp, t_cmp2, trQ_bl, blQ_bl, t_methk, t_smeth, t_oeq, t_eisi, t_ix, t_icall, t_one, t_callk, t_oin, t_obin, t_xcmp, t_oeqs, a_nil', a_cons, s_nil, s_cons, s_set, s_setLc, s_par, s_expr, s_ret, s_retN, s_if, s_never, s_pass, s_brk, s_cont, s_par3, s_oaug, s_raise, g_v', g_tup, g_sub, g_att, gs_nil, gs_cons, gs_tup, g_unl, i_L, i_T, i_S, i_R1, i_ES, i_E, i_Z, p_nil, p_pair, o_nil, o_k, o_v, o_bop, o_uop, o_bi, o_ix, oQ_int, o_att, o_call, i_ET, i_R2, x_K, x_w, x_fn, x_gv, x_tabs, x_mth, x_prp, x_fld, x_isi, x_kwo, x_dfl, x_xf, x_exm, x_eis, x_lt, x_lfn, x_smt, x_cmt, x_cvl, y_cvl, x_opr, y_opr, y_cmt, y_K, y_w, y_fn, y_gv, y_tabs, y_mth, y_prp, y_fld, y_isi, y_kwo, y_dfl, y_xf, y_exm, y_eis, y_smt, isi_int, isi_str, isi_bl, isi_non, ii1, ii2, ii3, ii4, ii5, ii6, ii7, it1, it2, it3, it4, it5, it6, it7, it8, it9, it10, it11, it12, it13, r_add, r_sub, r_mul, r_div, r_mod, r_pow, r_shl, r_shr, r_and, r_or, r_xor, r_neg, r_inv, r_lt, r_le, r_gt, r_ge, r_eqI, r_neI, r_eqS, r_neS, r_inS, r_niS, b_int, b_intB, b_abs, b_lenS, b_strS, r_addS, r_isN, r_eqB, r_neB, List.getElem?_cons_zero, List.getElem?_cons_succ, List.set_cons_zero, List.set_cons_succ, List.map_cons, List.map_nil, List.length_cons, List.length_nil, Nat.reduceAdd, Nat.reduceSub, List.replicate_succ, List.replicate_zero, List.cons_append, List.nil_append, List.append_nil, Bool.not_true, Bool.not_false, if_true, if_false, ite_true, ite_false, Bool.false_eq_true, Bool.true_eq_false, reduceIte]
  have y3 := x1.trans (x2.trans xt)
  refine ⟨trivial, ?_⟩
  refine lc_mapF (xs := inV' (List.range 8)) (ok := fun _ => True) (fun | .int i => if ((Builtin.bitAnd i (patI mu p) == patI mu p) && (Builtin.bitAnd i (patI ne p) == 0)) = true then some (.int i) else none | _ => none) (fun R r => ?_) (fun H' x => trivial) (by rw [List.length_map, List.length_range]; decide) ?_ ?_
  · rw [i_R1, e_k]
    refine ⟨by decide, by decide, ?_⟩
    rw [List.map_map] at r
    exact r
  · intro y hy H' x1 P Pv g1 g2
    obtain ⟨k, hk, rfl⟩ := List.mem_map.mp hy
    simp only [lcIf, for_nil, for_v, for_t, lc_nil, lc_v, lc_t, lc_turn0, lc_turn1, wipe_nil, wipe_cons, e_k, e_v, e_g, e_bop, e_uop, e_not, e_and, e_or, e_ite, e_cmp, e_cmp2, e_lst, e_tup, e_dic, e_call, e_mk, e_bi, e_isi, e_meth, e_bm, e_icall, e_ostr, e_att, e_ix, e_sl, e_lc, e_isiM, e_methk, e_smeth, e_cmeth, e_mkv, e_mkk, kw_nil, e_oeq, e_eatt, e_eisi, e_one, e_rep, e_fmt, e_callk, e_xcmp, e_obin, e_oinv, e_oin, e_olen, e_obool, e_cat, e_fo3, e_rev, e_rgl, e_oeqs, t_v, t_isi, t_call, t_meth, t_bop, t_bi, t_att, t_not, t_and, t_or, t_cmp, t_cmp2, trQ_bl, blQ_bl, t_methk, t_smeth, t_oeq, t_eisi, t_ix, t_icall, t_one, t_callk, t_oin, t_obin, t_xcmp, t_oeqs, a_nil', a_cons, s_nil, s_cons, s_set, s_setLc, s_par, s_expr, s_ret, s_retN, s_if, s_for, s_never, s_pass, s_brk, s_cont, s_par3, s_oaug, s_raise, g_v', g_tup, g_sub, g_att, gs_nil, gs_cons, gs_tup, g_unl, i_L, i_T, i_S, i_R1, i_ES, i_E, i_Z, p_nil, p_pair, o_nil, o_k, o_v, o_bop, o_uop, o_bi, o_ix, oQ_int, o_att, o_call, i_ET, i_R2, x_K, x_w, x_fn, x_gv, x_tabs, x_mth, x_prp, x_fld, x_isi, x_kwo, x_dfl, x_xf, x_exm, x_eis, x_lt, x_lfn, x_smt, x_cmt, x_cvl, y_cvl, x_opr, y_opr, y_cmt, y_K, y_w, y_fn, y_gv, y_tabs, y_mth, y_prp, y_fld, y_isi, y_kwo, y_dfl, y_xf, y_exm, y_eis, y_smt, isi_int, isi_str, isi_bl, isi_non, ii1, ii2, ii3, ii4, ii5, ii6, ii7, it1, it2, it3, it4, it5, it6, it7, it8, it9, it10, it11, it12, it13, r_add, r_sub, r_mul, r_div, r_mod, r_pow, r_shl, r_shr, r_and, r_or, r_xor, r_neg, r_inv, r_lt, r_le, r_gt, r_ge, r_eqI, r_neI, r_eqS, r_neS, r_inS, r_niS, b_int, b_intB, b_abs, b_lenS, b_strS, r_addS, r_isN, r_eqB, r_neB, List.getElem?_cons_zero, List.getElem?_cons_succ, List.set_cons_zero, List.set_cons_succ, List.map_cons, List.map_nil, List.length_cons, List.length_nil, Nat.reduceAdd, Nat.reduceSub, List.replicate_succ, List.replicate_zero, List.cons_append, List.nil_append, List.append_nil, Bool.not_true, Bool.not_false, if_true, if_false, ite_true, ite_false, Bool.false_eq_true, Bool.true_eq_false, reduceIte]
    dsimp only at g1 g2
    cases e1 : (Builtin.bitAnd (k : Nat) (patI mu p) == patI mu p) with
    | false =>
      rw [e1, Bool.false_and] at g2
      exact g2 rfl H' Ext.refl
    | true =>
      rw [e1, Bool.true_and] at g1 g2
      simp only [e_k, e_v, e_g, e_bop, e_uop, e_not, e_and, e_or, e_ite, e_cmp, e_cmp2, e_lst, e_tup, e_dic, e_call, e_mk, e_bi, e_isi, e_meth, e_bm, e_icall, e_ostr, e_att, e_ix, e_sl, e_lc, e_isiM, e_methk, e_smeth, e_cmeth, e_mkv, e_mkk, kw_nil, e_oeq, e_eatt, e_eisi, e_one, e_rep, e_fmt, e_callk, e_xcmp, e_obin, e_oinv, e_oin, e_olen, e_obool, e_cat, e_fo3, e_rev, e_rgl, e_oeqs, t_v, t_isi, t_call, t_meth, t_bop, t_bi, t_att, t_not, t_and, t_or, t_cmp, t_cmp2, trQ_bl, blQ_bl, t_methk, t_smeth, t_oeq, t_eisi, t_ix, t_icall, t_one, t_callk, t_oin, t_obin, t_xcmp, t_oeqs, a_nil', a_cons, s_nil, s_cons, s_set, s_setLc, s_par, s_expr, s_ret, s_retN, s_if, s_for, s_never, s_pass, s_brk, s_cont, s_par3, s_oaug, s_raise, g_v', g_tup, g_sub, g_att, gs_nil, gs_cons, gs_tup, g_unl, i_L, i_T, i_S, i_R1, i_ES, i_E, i_Z, p_nil, p_pair, o_nil, o_k, o_v, o_bop, o_uop, o_bi, o_ix, oQ_int, o_att, o_call, i_ET, i_R2, x_K, x_w, x_fn, x_gv, x_tabs, x_mth, x_prp, x_fld, x_isi, x_kwo, x_dfl, x_xf, x_exm, x_eis, x_lt, x_lfn, x_smt, x_cmt, x_cvl, y_cvl, x_opr, y_opr, y_cmt, y_K, y_w, y_fn, y_gv, y_tabs, y_mth, y_prp, y_fld, y_isi, y_kwo, y_dfl, y_xf, y_exm, y_eis, y_smt, isi_int, isi_str, isi_bl, isi_non, ii1, ii2, ii3, ii4, ii5, ii6, ii7, it1, it2, it3, it4, it5, it6, it7, it8, it9, it10, it11, it12, it13, r_add, r_sub, r_mul, r_div, r_mod, r_pow, r_shl, r_shr, r_and, r_or, r_xor, r_neg, r_inv, r_lt, r_le, r_gt, r_ge, r_eqI, r_neI, r_eqS, r_neS, r_inS, r_niS, b_int, b_intB, b_abs, b_lenS, b_strS, r_addS, r_isN, r_eqB, r_neB, List.getElem?_cons_zero, List.getElem?_cons_succ, List.set_cons_zero, List.set_cons_succ, List.map_cons, List.map_nil, List.length_cons, List.length_nil, Nat.reduceAdd, Nat.reduceSub, List.replicate_succ, List.replicate_zero, List.cons_append, List.nil_append, List.append_nil, Bool.not_true, Bool.not_false, if_true, if_false, ite_true, ite_false, Bool.false_eq_true, Bool.true_eq_false, reduceIte]
      cases e2 : (Builtin.bitAnd (k : Nat) (patI ne p) == 0) with
      | false =>
        rw [e2] at g2
        exact g2 rfl H' Ext.refl
      | true =>
        rw [e2] at g1
        exact g1 _ rfl H' Ext.refl
  · intro r H' x1 hr e1
    rw [filt_in (g := okP mu ne p) fun k => rfl] at e1
    exact h r H' (y3.trans x1) (none_of y3 hr) e1
end
/-- what the law tells of a line -/
structure Td (H : Hp) (u : Addr) (fo : List Nat) (ow gr : ON) (mu ne : Nat) : Prop where
  hu : ∃ vo vg, H u = some (.tup [.str (S fo), vo, vg, .int (mu : Nat), .int (ne : Nat)]) ∧ ToL H vo ow ∧ ToL H vg gr
  f : fo = tFile ∨ fo = tFolder
  w1 : Tw ow
  w2 : Tw gr
  b1 : mu < 512
  b2 : ne < 512
  b3 : Builtin.bitAnd (mu : Int) (ne : Int) = 0
theorem Td.ext {H' : Hp} {u : Addr} {fo : List Nat} {ow gr : ON} {mu ne : Nat} (h : Td H u fo ow gr mu ne) (x : Ext H H') : Td H' u fo ow gr mu ne := by
  obtain ⟨vo, vg, h1, h2, h3⟩ := h.hu
  exact { h with hu := ⟨vo, vg, x.get h1, h2.ext x, h3.ext x⟩ }
/-- a turn of the law's own patterns -/
def patB : I := forB (nthI 2 b__law_patterns)
theorem pat_turn {u d : Addr} {fo : List Nat} {vo vg lt : V} {mu ne : Nat} {p : Int} {k : Nat} {acc : List Nat} {σ5 σ6 σ7 : Option V} {D : Ends} {W : WX} (hp : 0 ≤ p ∧ p ≤ 2) (hu : H u = some (.tup [.str (S fo), vo, vg, .int (mu : Nat), .int (ne : Nat)])) (hd0 : H d = some (.lst (inV' acc))) (hl : acc.length ≤ 100)
    (h : ∀ (b6 b7 b8 : Option V) H', ExtP d H H' → H' d = some (.lst (inV' (acc ++ (if okL mu ne p k then [k] else [])))) → D.nx [some (.ref u), some lt, some (.int p), some (.ref d), some (.int (k : Nat)), b6, b7, b8] H') :
    (rd (hd.pg.ctx K w (run hd.pg K w n)) patB W).s D [some (.ref u), some lt, some (.int p), some (.ref d), some (.int (k : Nat)), σ5, σ6, σ7] H := by
  simp only [patB, forB, nthI, b__law_patterns, e_k, e_v, e_g, e_bop, e_uop, e_not, e_and, e_or, e_ite, e_cmp, e_cmp2, e_lst, e_tup, e_call, e_mk, e_bi, e_isi, e_meth, e_bm, e_icall, e_ostr, e_att, e_ix, e_sl, e_isiM, e_methk, e_smeth, e_cmeth, e_mkv, e_mkk, kw_nil, e_oeq, e_eatt, e_eisi, e_one, e_rep, e_fmt, e_callk, e_xcmp, e_obin, e_oinv, e_oin, e_olen, e_obool, e_cat, e_fo3, e_rev, e_rgl, e_oeqs, t_v, t_isi, t_call, t_meth, t_bop, t_bi, t_att, t_not, t_and, t_or, t_cmp, t_cmp2, trQ_bl, blQ_bl, t_methk, t_smeth, t_oeq, t_eisi, t_ix, t_icall, t_one, t_callk, t_oin, t_obin, t_xcmp, t_oeqs, a_nil', a_cons, s_nil, s_cons, s_set, s_setLc, s_par, s_expr, s_ret, s_retN, s_if, s_never, s_pass, s_brk, s_cont, s_par3, s_oaug, s_raise, g_v', g_tup, g_sub, g_att, gs_nil, gs_cons, gs_tup, g_unl, i_L, i_T, i_S, i_R1, i_ES, i_E, i_Z, p_nil, p_pair, o_nil, o_k, o_v, o_bop, o_uop, o_bi, o_ix, oQ_int, o_att, o_call, i_ET, i_R2, x_K, x_w, x_fn, x_gv, x_tabs, x_mth, x_prp, x_fld, x_isi, x_kwo, x_dfl, x_xf, x_exm, x_eis, x_lt, x_lfn, x_smt, x_cmt, x_cvl, y_cvl, x_opr, y_opr, y_cmt, y_K, y_w, y_fn, y_gv, y_tabs, y_mth, y_prp, y_fld, y_isi, y_kwo, y_dfl, y_xf, y_exm, y_eis, y_smt, isi_int, isi_str, isi_bl, isi_non, ii1, ii2, ii3, ii4, ii5, ii6, ii7, it1, it2, it3, it4, it5, it6, it7, it8, it9, it10, it11, it12, it13, r_add, r_sub, r_mul, r_div, r_mod, r_pow, r_shl, r_shr, r_and, r_or, r_xor, r_neg, r_inv, r_lt, r_le, r_gt, r_ge, r_eqI, r_neI, r_eqS, r_neS, r_inS, r_niS, b_int, b_intB, b_abs, b_lenS, b_strS, r_addS, r_isN, r_eqB, r_neB, List.getElem?_cons_zero, List.getElem?_cons_succ, List.set_cons_zero, List.set_cons_succ, List.map_cons, List.map_nil, List.length_cons, List.length_nil, Nat.reduceAdd, Nat.reduceSub, List.replicate_succ, List.replicate_zero, List.cons_append, List.nil_append, List.append_nil, Bool.not_true, Bool.not_false, if_true, if_false, ite_true, ite_false, Bool.false_eq_true, Bool.true_eq_false, reduceIte]
  rw [s_for, i_R1, e_k]
  refine ⟨by decide, by decide, ?_⟩
  rw [show (List.range (3 : Int).toNat) = [0, 1, 2] from rfl]
  try simp only [for_nil, for_v, for_t, lc_nil, lc_v, lc_t, lc_turn0, lc_turn1, wipe_nil, wipe_cons, true_and, and_true, upd_same, upd_upd, Option.some.injEq, HO.lst.injEq, HO.tup.injEq, HO.dK.injEq, exists_eq_left', List.singleton_append, Int.cast_ofNat_Int, and1, e_k, e_v, e_g, e_bop, e_uop, e_not, e_and, e_or, e_ite, e_cmp, e_cmp2, e_lst, e_tup, e_dic, e_call, e_mk, e_bi, e_isi, e_meth, e_bm, e_icall, e_ostr, e_att, e_ix, e_sl, e_lc, e_isiM, e_methk, e_smeth, e_cmeth, e_mkv, e_mkk, kw_nil, e_oeq, e_eatt, e_eisi, e_one, e_rep, e_fmt, e_callk, e_xcmp, e_obin, e_oinv, e_oin, e_olen, e_obool, e_cat, e_fo3, e_rev, e_rgl, e_oeqs, t_v, t_isi, t_call, t_meth, t_bop, t_bi, t_att, t_not, t_and, t_or, t_cmp, t_cmp2, trQ_bl, blQ_bl, t_methk, t_smeth, t_oeq, t_eisi, t_ix, t_icall, t_one, t_callk, t_oin, t_obin, t_xcmp, t_oeqs, a_nil', a_cons, s_nil, s_cons, s_set, s_setLc, s_par, s_expr, s_ret, s_retN, s_if, s_for, s_never, s_pass, s_brk, s_cont, s_par3, s_oaug, s_raise, g_v', g_tup, g_sub, g_att, gs_nil, gs_cons, gs_tup, g_unl, i_L, i_T, i_S, i_R1, i_ES, i_E, i_Z, p_nil, p_pair, o_nil, o_k, o_v, o_bop, o_uop, o_bi, o_ix, oQ_int, o_att, o_call, i_ET, i_R2, x_K, x_w, x_fn, x_gv, x_tabs, x_mth, x_prp, x_fld, x_isi, x_kwo, x_dfl, x_xf, x_exm, x_eis, x_lt, x_lfn, x_smt, x_cmt, x_cvl, y_cvl, x_opr, y_opr, y_cmt, y_K, y_w, y_fn, y_gv, y_tabs, y_mth, y_prp, y_fld, y_isi, y_kwo, y_dfl, y_xf, y_exm, y_eis, y_smt, isi_int, isi_str, isi_bl, isi_non, ii1, ii2, ii3, ii4, ii5, ii6, ii7, it1, it2, it3, it4, it5, it6, it7, it8, it9, it10, it11, it12, it13, r_add, r_sub, r_mul, r_div, r_mod, r_pow, r_shl, r_shr, r_and, r_or, r_xor, r_neg, r_inv, r_lt, r_le, r_gt, r_ge, r_eqI, r_neI, r_eqS, r_neS, r_inS, r_niS, b_int, b_intB, b_abs, b_lenS, b_strS, r_addS, r_isN, r_eqB, r_neB, List.getElem?_cons_zero, List.getElem?_cons_succ, List.set_cons_zero, List.set_cons_succ, List.map_cons, List.map_nil, List.length_cons, List.length_nil, Nat.reduceAdd, Nat.reduceSub, List.replicate_succ, List.replicate_zero, List.cons_append, List.nil_append, List.append_nil, Bool.not_true, Bool.not_false, if_true, if_false, ite_true, ite_false, Bool.false_eq_true, Bool.true_eq_false, reduceIte]
  refine ⟨by decide, .inl (by unfold CMul; decide), by omega, by decide, .inl (by unfold CMul; decide), by omega, by decide, .inl (by unfold CMul; decide), by omega, ⟨by omega, by omega, by decide⟩, ?_⟩
  refine x_ixT hu (i := 3) rfl ?_
  rw [r_and]
  refine x_ixT hu (i := 3) rfl ?_
  rw [r_and, r_eqI]
  show blQ _ (.bl (Builtin.bitAnd (bkI k p) (mu : Nat) == Builtin.bitAnd (mu : Nat) (73 * 2 ^ p.toNat))) H
  unfold okL at h
  cases e1 : Builtin.bitAnd (bkI k p) (mu : Nat) == Builtin.bitAnd (mu : Nat) (73 * 2 ^ p.toNat) with
  | false =>
    rw [e1, Bool.false_and] at h
    rw [if_neg (by decide), List.append_nil] at h
    exact h _ _ _ H ExtP.refl hd0
  | true =>
    rw [e1, Bool.true_and] at h
    rw [blQ_bl, if_pos rfl]
    refine x_ixT hu (i := 4) rfl ?_
    rw [r_and, r_eqI]
    show blQ _ (.bl (Builtin.bitAnd (bkI k p) (ne : Nat) == 0)) H
    cases e2 : Builtin.bitAnd (bkI k p) (ne : Nat) == 0 with
    | false =>
      rw [e2, if_neg (by decide), List.append_nil] at h
      exact h _ _ _ H ExtP.refl hd0
    | true =>
      rw [e2, if_pos rfl] at h
      rw [blQ_bl, if_pos rfl]
      refine ⟨.inl ⟨rfl, _, .inl (.inl hd0)⟩, d, inV' acc, .int (k : Nat), rfl, rfl, hd0, by rw [List.length_map, sizeLine_eq]; omega, ?_⟩
      rw [show inV' acc ++ [V.int (k : Nat)] = inV' (acc ++ [k]) from (List.map_append (l₁ := acc) (l₂ := [k])).symm]
      exact h _ _ _ _ ExtP.put upd_same
theorem pat_go {u d : Addr} {fo : List Nat} {vo vg lt : V} {mu ne : Nat} {p : Int} {D : Ends} {W : WX} (hp : 0 ≤ p ∧ p ≤ 2) (hne : u ≠ d) : ∀ (ks acc : List Nat) (σ4 σ5 σ6 σ7 : Option V) (H : Hp), acc.length + ks.length ≤ 8 → H u = some (.tup [.str (S fo), vo, vg, .int (mu : Nat), .int (ne : Nat)]) → H d = some (.lst (inV' acc)) →
    (∀ (b5 b6 b7 b8 : Option V) H', ExtP d H H' → H' d = some (.lst (inV' (acc ++ ks.filter (okL mu ne p)))) → D.nx [some (.ref u), some lt, some (.int p), some (.ref d), b5, b6, b7, b8] H') →
    forGo (fun _ => True) (rd (hd.pg.ctx K w (run hd.pg K w n)) (.v 4) W).g (rd (hd.pg.ctx K w (run hd.pg K w n)) (.v 4) W).gs (rd (hd.pg.ctx K w (run hd.pg K w n)) patB W).s D (ks.map fun k => It1.v (.int (k : Nat))) [some (.ref u), some lt, some (.int p), some (.ref d), σ4, σ5, σ6, σ7] H
  | [], acc, σ4, σ5, σ6, σ7, H, hl, hu, hd0, h => ⟨trivial, h _ _ _ _ H ExtP.refl (by rw [List.filter_nil, List.append_nil]; exact hd0)⟩
  | k :: ks, acc, σ4, σ5, σ6, σ7, H, hl, hu, hd0, h => by
    rw [List.length_cons] at hl
    rw [List.map_cons, for_v]
    refine ⟨trivial, ?_⟩
    rw [g_v']
    try simp only [List.getElem?_cons_zero, List.getElem?_cons_succ, List.set_cons_zero, List.set_cons_succ, List.map_cons, List.map_nil, List.length_cons, List.length_nil, Nat.reduceAdd, Nat.reduceSub, List.replicate_succ, List.replicate_zero, List.cons_append, List.nil_append, List.append_nil, Bool.not_true, Bool.not_false, if_true, if_false, ite_true, ite_false, Bool.false_eq_true, Bool.true_eq_false, reduceIte]
    refine pat_turn hp hu hd0 (by omega) fun b6 b7 b8 H1 x1 e1 => ?_
    refine pat_go hp hne ks (acc ++ if okL mu ne p k then [k] else []) _ _ _ _ H1 (by rw [List.length_append]; split <;> simp <;> omega) (x1.get hne hu) e1 fun c5 c6 c7 c8 H2 x2 e2 => h _ _ _ _ H2 (x1.trans x2) ?_
    rw [e2, List.append_assoc, List.filter_cons]
    congr 3
    cases okL mu ne p k <;> rfl
theorem c_lpat {u : Addr} {fo : List Nat} {ow gr : ON} {mu ne : Nat} {c : Nat} {p : Int} (ht : Td H u fo ow gr mu ne) (hc : (c, p) ∈ [(114, 2), (119, 1), (120, (0 : Int))]) (hn : 1 ≤ n) (h : ∀ r H', Ext H H' → H r = none → H' r = some (.lst (inV' (pats mu ne p))) → Q (.ref r) H') : run hd.pg K w n s__law_patterns [.ref u, .str (S [c])] H Q E := by
  obtain ⟨vo, vg, hu, h2, h3⟩ := ht.hu
  refine run_at f__law_patterns hn rfl ?_
  have hp : 0 ≤ p ∧ p ≤ 2 := by
    simp at hc
    omega
  show (rd _ b__law_patterns _).s _ _ _
  have eb : b__law_patterns = .cons (nthI 0 b__law_patterns) (.cons (nthI 1 b__law_patterns) (.cons (.for_ (.v 4) (.itR1 (.k (V.int 8))) patB) (tailI 3 b__law_patterns))) := rfl
  rw [eb]
  have go := @pat_go K w (n - 1)
  generalize patB = pb at go ⊢
  simp only [nthI, tailI, b__law_patterns, d__law_patterns, L2.start, e_k, e_v, e_g, e_bop, e_uop, e_not, e_and, e_or, e_ite, e_cmp, e_cmp2, e_lst, e_tup, e_call, e_mk, e_bi, e_isi, e_meth, e_bm, e_icall, e_ostr, e_att, e_ix, e_sl, e_isiM, e_methk, e_smeth, e_cmeth, e_mkv, e_mkk, kw_nil, e_oeq, e_eatt, e_eisi, e_one, e_rep, e_fmt, e_callk, e_xcmp, e_obin, e_oinv, e_oin, e_olen, e_obool, e_cat, e_fo3, e_rev, e_rgl, e_oeqs, t_v, t_isi, t_call, t_meth, t_bop, t_bi, t_att, t_not, t_and, t_or, t_cmp, t_cmp2, trQ_bl, blQ_bl, t_methk, t_smeth, t_oeq, t_eisi, t_ix, t_icall, t_one, t_callk, t_oin, t_obin, t_xcmp, t_oeqs, a_nil', a_cons, s_nil, s_cons, s_set, s_setLc, s_par, s_expr, s_ret, s_retN, s_if, s_never, s_pass, s_brk, s_cont, s_par3, s_oaug, s_raise, g_v', g_tup, g_sub, g_att, gs_nil, gs_cons, gs_tup, g_unl, i_L, i_T, i_S, i_R1, i_ES, i_E, i_Z, p_nil, p_pair, o_nil, o_k, o_v, o_bop, o_uop, o_bi, o_ix, oQ_int, o_att, o_call, i_ET, i_R2, x_K, x_w, x_fn, x_gv, x_tabs, x_mth, x_prp, x_fld, x_isi, x_kwo, x_dfl, x_xf, x_exm, x_eis, x_lt, x_lfn, x_smt, x_cmt, x_cvl, y_cvl, x_opr, y_opr, y_cmt, y_K, y_w, y_fn, y_gv, y_tabs, y_mth, y_prp, y_fld, y_isi, y_kwo, y_dfl, y_xf, y_exm, y_eis, y_smt, isi_int, isi_str, isi_bl, isi_non, ii1, ii2, ii3, ii4, ii5, ii6, ii7, it1, it2, it3, it4, it5, it6, it7, it8, it9, it10, it11, it12, it13, r_add, r_sub, r_mul, r_div, r_mod, r_pow, r_shl, r_shr, r_and, r_or, r_xor, r_neg, r_inv, r_lt, r_le, r_gt, r_ge, r_eqI, r_neI, r_eqS, r_neS, r_inS, r_niS, b_int, b_intB, b_abs, b_lenS, b_strS, r_addS, r_isN, r_eqB, r_neB, List.getElem?_cons_zero, List.getElem?_cons_succ, List.set_cons_zero, List.set_cons_succ, List.map_cons, List.map_nil, List.length_cons, List.length_nil, Nat.reduceAdd, Nat.reduceSub, List.replicate_succ, List.replicate_zero, List.cons_append, List.nil_append, List.append_nil, Bool.not_true, Bool.not_false, if_true, if_false, ite_true, ite_false, Bool.false_eq_true, Bool.true_eq_false, reduceIte]
  rw [e_dic]
  simp only [p_pair, p_nil]
  refine fun q hq => ?_
  have xq := Ext.new (H := H) (o := .dK []) hq
  have eq : upd H q (.dK []) q = some (.dK []) := upd_same
  show tPairs _ _ (upd H q (.dK [])) _
  simp only [tPairs, e_k, e_v, e_g, e_bop, e_uop, e_not, e_and, e_or, e_ite, e_cmp, e_cmp2, e_lst, e_tup, e_call, e_mk, e_bi, e_isi, e_meth, e_bm, e_icall, e_ostr, e_att, e_ix, e_sl, e_isiM, e_methk, e_smeth, e_cmeth, e_mkv, e_mkk, kw_nil, e_oeq, e_eatt, e_eisi, e_one, e_rep, e_fmt, e_callk, e_xcmp, e_obin, e_oinv, e_oin, e_olen, e_obool, e_cat, e_fo3, e_rev, e_rgl, e_oeqs, t_v, t_isi, t_call, t_meth, t_bop, t_bi, t_att, t_not, t_and, t_or, t_cmp, t_cmp2, trQ_bl, blQ_bl, t_methk, t_smeth, t_oeq, t_eisi, t_ix, t_icall, t_one, t_callk, t_oin, t_obin, t_xcmp, t_oeqs, a_nil', a_cons, s_nil, s_cons, s_set, s_setLc, s_par, s_expr, s_ret, s_retN, s_if, s_never, s_pass, s_brk, s_cont, s_par3, s_oaug, s_raise, g_v', g_tup, g_sub, g_att, gs_nil, gs_cons, gs_tup, g_unl, i_L, i_T, i_S, i_R1, i_ES, i_E, i_Z, p_nil, p_pair, o_nil, o_k, o_v, o_bop, o_uop, o_bi, o_ix, oQ_int, o_att, o_call, i_ET, i_R2, x_K, x_w, x_fn, x_gv, x_tabs, x_mth, x_prp, x_fld, x_isi, x_kwo, x_dfl, x_xf, x_exm, x_eis, x_lt, x_lfn, x_smt, x_cmt, x_cvl, y_cvl, x_opr, y_opr, y_cmt, y_K, y_w, y_fn, y_gv, y_tabs, y_mth, y_prp, y_fld, y_isi, y_kwo, y_dfl, y_xf, y_exm, y_eis, y_smt, isi_int, isi_str, isi_bl, isi_non, ii1, ii2, ii3, ii4, ii5, ii6, ii7, it1, it2, it3, it4, it5, it6, it7, it8, it9, it10, it11, it12, it13, r_add, r_sub, r_mul, r_div, r_mod, r_pow, r_shl, r_shr, r_and, r_or, r_xor, r_neg, r_inv, r_lt, r_le, r_gt, r_ge, r_eqI, r_neI, r_eqS, r_neS, r_inS, r_niS, b_int, b_intB, b_abs, b_lenS, b_strS, r_addS, r_isN, r_eqB, r_neB, List.getElem?_cons_zero, List.getElem?_cons_succ, List.set_cons_zero, List.set_cons_succ, List.map_cons, List.map_nil, List.length_cons, List.length_nil, Nat.reduceAdd, Nat.reduceSub, List.replicate_succ, List.replicate_zero, List.cons_append, List.nil_append, List.append_nil, Bool.not_true, Bool.not_false, if_true, if_false, ite_true, ite_false, Bool.false_eq_true, Bool.true_eq_false, reduceIte]
  refine ⟨eq, [(.inr (S [114]), .int 2), (.inr (S [119]), .int 1), (.inr (S [120]), .int 0)], rfl, by decide, ?_⟩
  rw [upd_upd]
  have em : mergeK [] [((.inr (S [114]) : Key), V.int 2), (.inr (S [119]), .int 1), (.inr (S [120]), .int 0)] = [(.inr (S [114]), .int 2), (.inr (S [119]), .int 1), (.inr (S [120]), .int 0)] := by rfl
  rw [em]
  have xq := Ext.new (H := H) (o := .dK [(.inr (S [114]), .int 2), (.inr (S [119]), .int 1), (.inr (S [120]), .int 0)]) hq
  have eq : upd H q (.dK [(.inr (S [114]), .int 2), (.inr (S [119]), .int 1), (.inr (S [120]), .int 0)]) q = some (.dK [(.inr (S [114]), .int 2), (.inr (S [119]), .int 1), (.inr (S [120]), .int 0)]) := upd_same
  generalize upd H q (.dK [(.inr (S [114]), .int 2), (.inr (S [119]), .int 1), (.inr (S [120]), .int 0)]) = H1 at xq eq ⊢
  refine .inl ⟨_, .inl eq, .int p, ?_, ?_⟩
  · simp at hc
    rcases hc with ⟨rfl, rfl⟩ | ⟨rfl, rfl⟩ | ⟨rfl, rfl⟩ <;> rfl
  refine ⟨by decide, fun d hd => ?_⟩
  have xd := Ext.new (H := H1) (o := .lst []) hd
  have ed : upd H1 d (.lst []) d = some (.lst []) := upd_same
  generalize upd H1 d (.lst []) = H2 at xd ed ⊢
  have y2 := xq.trans xd
  have nud : u ≠ d := ne_of_none (xq.get hu) hd
  rw [s_for, i_R1, e_k]
  refine ⟨by decide, by decide, ?_⟩
  try simp only [List.getElem?_cons_zero, List.getElem?_cons_succ, List.set_cons_zero, List.set_cons_succ, List.map_cons, List.map_nil, List.length_cons, List.length_nil, Nat.reduceAdd, Nat.reduceSub, List.replicate_succ, List.replicate_zero, List.cons_append, List.nil_append, List.append_nil, Bool.not_true, Bool.not_false, if_true, if_false, ite_true, ite_false, Bool.false_eq_true, Bool.true_eq_false, reduceIte]
  refine go hp nud (List.range 8) [] none none none none H2 (by decide) (y2.get hu) ed fun b5 b6 b7 b8 H3 x3 e3 => ?_
  simp only [e_k, e_v, e_g, e_bop, e_uop, e_not, e_and, e_or, e_ite, e_cmp, e_cmp2, e_lst, e_tup, e_call, e_mk, e_bi, e_isi, e_meth, e_bm, e_icall, e_ostr, e_att, e_ix, e_sl, e_isiM, e_methk, e_smeth, e_cmeth, e_mkv, e_mkk, kw_nil, e_oeq, e_eatt, e_eisi, e_one, e_rep, e_fmt, e_callk, e_xcmp, e_obin, e_oinv, e_oin, e_olen, e_obool, e_cat, e_fo3, e_rev, e_rgl, e_oeqs, t_v, t_isi, t_call, t_meth, t_bop, t_bi, t_att, t_not, t_and, t_or, t_cmp, t_cmp2, trQ_bl, blQ_bl, t_methk, t_smeth, t_oeq, t_eisi, t_ix, t_icall, t_one, t_callk, t_oin, t_obin, t_xcmp, t_oeqs, a_nil', a_cons, s_nil, s_cons, s_set, s_setLc, s_par, s_expr, s_ret, s_retN, s_if, s_never, s_pass, s_brk, s_cont, s_par3, s_oaug, s_raise, g_v', g_tup, g_sub, g_att, gs_nil, gs_cons, gs_tup, g_unl, i_L, i_T, i_S, i_R1, i_ES, i_E, i_Z, p_nil, p_pair, o_nil, o_k, o_v, o_bop, o_uop, o_bi, o_ix, oQ_int, o_att, o_call, i_ET, i_R2, x_K, x_w, x_fn, x_gv, x_tabs, x_mth, x_prp, x_fld, x_isi, x_kwo, x_dfl, x_xf, x_exm, x_eis, x_lt, x_lfn, x_smt, x_cmt, x_cvl, y_cvl, x_opr, y_opr, y_cmt, y_K, y_w, y_fn, y_gv, y_tabs, y_mth, y_prp, y_fld, y_isi, y_kwo, y_dfl, y_xf, y_exm, y_eis, y_smt, isi_int, isi_str, isi_bl, isi_non, ii1, ii2, ii3, ii4, ii5, ii6, ii7, it1, it2, it3, it4, it5, it6, it7, it8, it9, it10, it11, it12, it13, r_add, r_sub, r_mul, r_div, r_mod, r_pow, r_shl, r_shr, r_and, r_or, r_xor, r_neg, r_inv, r_lt, r_le, r_gt, r_ge, r_eqI, r_neI, r_eqS, r_neS, r_inS, r_niS, b_int, b_intB, b_abs, b_lenS, b_strS, r_addS, r_isN, r_eqB, r_neB, List.getElem?_cons_zero, List.getElem?_cons_succ, List.set_cons_zero, List.set_cons_succ, List.map_cons, List.map_nil, List.length_cons, List.length_nil, Nat.reduceAdd, Nat.reduceSub, List.replicate_succ, List.replicate_zero, List.cons_append, List.nil_append, List.append_nil, Bool.not_true, Bool.not_false, if_true, if_false, ite_true, ite_false, Bool.false_eq_true, Bool.true_eq_false, reduceIte]
  rw [List.nil_append, pats_L ht.b1 ht.b2 hp] at e3
  exact h d H3 (fun a o e => x3 a o (ne_of_none (xq.get e) hd) (y2.get e)) (none_of xq hd) e3
end U

namespace U
open PySem PySem.Spec PyProof.Rows L2
variable {K : PySem.W.Frag} {w : World} {n m : Nat} {H : Hp} {Q : VK} {E : XK}
theorem c_pickSL {p l : Addr} {z : Str} (hP : PenL H p l (m + 1)) (hn : 2 ≤ n) (hl : 1 ≤ z.cps.toList.length ∧ z.cps.toList.length ≤ 100000) (h : ∀ (i c : Nat) H', z.cps.toList[i]? = some c → PenL H' p l m → ExtP p H H' → Q (.str (S [c])) H') : run hd.pg K w n s__law_pick [.ref p, .str z] H Q E := by
  have hz : z.length = z.cps.toList.length := by show z.cps.size = _; simp
  have hs : z.length ≤ sizeLine := by rw [sizeLine_eq]; omega
  refine run_at f__law_pick (by omega) rfl ?_
  simp only [d__law_pick, b__law_pick, L2.start, e_k, e_v, e_g, e_bop, e_uop, e_not, e_and, e_or, e_ite, e_cmp, e_cmp2, e_lst, e_tup, e_dic, e_call, e_mk, e_bi, e_isi, e_meth, e_bm, e_icall, e_ostr, e_att, e_ix, e_sl, e_lc, e_isiM, e_methk, e_smeth, e_cmeth, e_mkv, e_mkk, kw_nil, e_oeq, e_eatt, e_eisi, e_one, e_rep, e_fmt, e_callk, e_xcmp, e_obin, e_oinv, e_oin, e_olen, e_obool, e_cat, e_fo3, e_rev, e_rgl, e_oeqs, t_v, t_isi, t_call, t_meth, t_bop, t_bi, t_att, t_not, t_and, t_or, t_cmp, t_cmp2, trQ_bl, blQ_bl, t_methk, t_smeth, t_oeq, t_eisi, t_ix, t_icall, t_one, t_callk, t_oin, t_obin, t_xcmp, t_oeqs, a_nil', a_cons, s_nil, s_cons, s_set, s_setLc, s_par, s_expr, s_ret, s_retN, s_if, s_for, s_never, s_pass, s_brk, s_cont, s_par3, s_oaug, s_raise, g_v', g_tup, g_sub, g_att, gs_nil, gs_cons, gs_tup, g_unl, i_L, i_T, i_S, i_R1, i_ES, i_E, i_Z, p_nil, p_pair, o_nil, o_k, o_v, o_bop, o_uop, o_bi, o_ix, oQ_int, o_att, o_call, i_ET, i_R2, x_K, x_w, x_fn, x_gv, x_tabs, x_mth, x_prp, x_fld, x_isi, x_kwo, x_dfl, x_xf, x_exm, x_eis, x_lt, x_lfn, x_smt, x_cmt, x_cvl, y_cvl, x_opr, y_opr, y_cmt, y_K, y_w, y_fn, y_gv, y_tabs, y_mth, y_prp, y_fld, y_isi, y_kwo, y_dfl, y_xf, y_exm, y_eis, y_smt, isi_int, isi_str, isi_bl, isi_non, ii1, ii2, ii3, ii4, ii5, ii6, ii7, it1, it2, it3, it4, it5, it6, it7, it8, it9, it10, it11, it12, it13, r_add, r_sub, r_mul, r_div, r_mod, r_pow, r_shl, r_shr, r_and, r_or, r_xor, r_neg, r_inv, r_lt, r_le, r_gt, r_ge, r_eqI, r_neI, r_eqS, r_neS, r_inS, r_niS, b_int, b_intB, b_abs, b_lenS, b_strS, r_addS, r_isN, r_eqB, r_neB, List.getElem?_cons_zero, List.getElem?_cons_succ, List.set_cons_zero, List.set_cons_succ, List.map_cons, List.map_nil, List.length_cons, List.length_nil, Nat.reduceAdd, Nat.reduceSub, List.replicate_succ, List.replicate_zero, List.cons_append, List.nil_append, List.append_nil, Bool.not_true, Bool.not_false, if_true, if_false, ite_true, ite_false, Bool.false_eq_true, Bool.true_eq_false, reduceIte]
  refine ⟨hs, ?_⟩
  refine c_drawL hP (by omega) ⟨by omega, by omega⟩ fun i H1 h0 h1 P1 x1 => ?_
  obtain ⟨j, rfl⟩ : ∃ j : Nat, i = j := ⟨i.toNat, by omega⟩
  have hj : j < z.cps.toList.length := by omega
  refine ⟨hs, _, atI_nat (List.getElem?_eq_getElem hj), ?_⟩
  exact h j _ H1 (List.getElem?_eq_getElem hj) P1 x1
abbrev tchar (K : PySem.W.Frag) (w : World) (n : Nat) : TE := (rd (hd.pg.ctx K w (run hd.pg K w n)) (.call s__law_pick (.cons (.v 0) (.cons (.v 2) .nil))) noW).e
theorem chars_go {p l Dl : Addr} {σ : St} {tt : TT} (hn : 2 ≤ n) (h1 : Dl ≠ p) (h2 : Dl ≠ l) (hσ : (wipe σ [7])[0]? = some (some (.ref p))) (hσ3 : (wipe σ [7])[2]? = some (some (.str (S abc)))) : ∀ (ks : List Nat) (acc : List Nat) (H : Hp), H Dl = some (.lst (acc.map fun c => V.str (S [c]))) → PenL H p l (m + ks.length) → acc.length + ks.length ≤ 100 → (∀ c ∈ acc, c ∈ abc) →
    (∀ (H' : Hp) (as : List Nat), as.length = acc.length + ks.length → (∀ c ∈ as, c ∈ abc) → PenL H' p l m → (∀ a o, a ≠ p → a ≠ Dl → H a = some o → H' a = some o) → H' Dl = some (.lst (as.map fun c => V.str (S [c]))) → Q (.ref Dl) H') →
    lcGo (fun _ => True) (rd (hd.pg.ctx K w (run hd.pg K w n)) (.v 7) noW).g (rd (hd.pg.ctx K w (run hd.pg K w n)) (.v 7) noW).gs (lcIf false tt) (tchar K w n) Dl [7] σ Q (ks.map fun k => It1.v (.int (k : Nat))) H
  | [], acc, H, hD, hP, hl, ha, h => ⟨trivial, h H acc rfl ha hP (fun _ _ _ _ z => z) hD⟩
  | k :: ks, acc, H, hD, hP, hl, ha, h => by
    rw [List.map_cons, lc_v]
    refine ⟨trivial, ?_⟩
    rw [g_v', lc_turn0]
    refine ⟨wipe_set1, ?_⟩
    simp only [tchar]
    have g0 : ((wipe σ [7]).set 7 (some (V.int (k : Nat))))[0]? = some (some (.ref p)) := by rw [List.getElem?_set_ne (by decide)]; exact hσ
    have g3 : ((wipe σ [7]).set 7 (some (V.int (k : Nat))))[2]? = some (some (.str (S abc))) := by rw [List.getElem?_set_ne (by decide)]; exact hσ3
    rw [e_call, a_cons, e_v, g0]
    rw [List.length_cons] at hl
    simp only [a_cons, a_nil', e_v, g3]
    refine c_pickSL (m := m + ks.length) (z := S abc) (by rw [List.length_cons] at hP; exact hP) hn ⟨by decide, by decide⟩ fun i c H1 hi P1 x1 => ?_
    refine ⟨_, x1.get h1 hD, by rw [List.length_map, sizeLine_eq]; omega, ?_⟩
    have e : (acc.map fun c => V.str (S [c])) ++ [V.str (S [c])] = ((acc ++ [c]).map fun c => V.str (S [c])) := by rw [List.map_append]; rfl
    rw [e]
    refine chars_go hn h1 h2 hσ hσ3 ks (acc ++ [c]) _ upd_same (P1.put h1 h2) (by rw [List.length_append]; simp; omega) (fun z hz => (List.mem_append.mp hz).elim (ha z) fun e => by rw [List.mem_singleton.mp e]; exact List.mem_of_getElem? hi) fun H' as hA hB hP' o' hD' => h H' as (by rw [hA, List.length_append, List.length_cons]; simp; omega) hB hP' (fun a o e1 e2 e3 => o' a o e1 e2 (by rw [upd_ne e2]; exact x1.get e1 e3)) hD'
theorem joinL_one : ∀ (l : List Nat), TL.joinL [] (l.map fun c => [c]) = l
  | [] => rfl
  | [a] => rfl
  | a :: b :: r => by
    have := joinL_one (b :: r)
    simp only [List.map_cons, TL.joinL] at this ⊢
    rw [this]
    rfl
theorem join_chars {p : Addr} {cs : List Nat} (hp : H p = some (.lst (cs.map fun c => V.str (S [c])))) (hl : cs.length ≤ 100) (q : Q (.str (S cs)) H) : rM K .join (.str (S [])) [.ref p] H Q := by
  refine ⟨S [], p, cs.map fun c => S [c], rfl, rfl, .inl (.inl (.inl (by rw [hp, List.map_map]; rfl))), ?_, ?_⟩
  · have e0 : ((cs.map fun c => S [c]).map (·.length)).sum = cs.length := by
      clear hp hl q
      induction cs with
      | nil => rfl
      | cons c r ih => rw [List.map_cons, List.map_cons, List.sum_cons, ih, SX.S_len, List.length_cons]; simp; omega
    rw [e0, SX.S_len, List.length_map]
    simp
    omega
  · rw [show (cs.map fun c => S [c]) = (cs.map fun c => [c]).map S by rw [List.map_map]; rfl, SX.join_S, joinL_one]
    exact q
/-- the last letter of the k-th name -/
def sg (f h k : Nat) : Nat := abc.getD ((f + h * k) % 26) 0
theorem abc_get : ∀ i : Nat, i < 26 → abc[i]? = some (abc.getD i 0) ∧ abc.getD i 0 ∈ abc := by decide +kernel
theorem sg_ne : ∀ f : Nat, f < 26 → ∀ h ∈ [1, 3, 5, 7, 9, 11], ∀ i : Nat, i < 4 → ∀ j : Nat, j < 4 → i ≠ j → sg f h i ≠ sg f h j := by decide +kernel
def Nms (f h : Nat) (acc : List (List Nat)) : Prop := ∀ i z, acc[i]? = some z → nameL z = true ∧ z.getLast? = some (sg f h i)
theorem name_one {c : Nat} (h : c ∈ abc) : nameL [c] = true := by
  unfold nameL
  rw [Bool.and_eq_true, Bool.and_eq_true]
  exact ⟨rfl, rfl, by rw [List.all_eq_true]; intro z hz; rw [List.mem_singleton.mp hz]; exact decide_eq_true h⟩
theorem name_app {c : Nat} {st : List Nat} (h : c ∈ abc) (h1 : st.length ≤ 7) (h2 : ∀ c ∈ st, c ∈ abc) : nameL (st ++ [c]) = true := by
  unfold nameL
  rw [Bool.and_eq_true, Bool.and_eq_true]
  refine ⟨decide_eq_true (by simp), decide_eq_true (by simp; omega), ?_⟩
  rw [List.all_eq_true]
  intro z hz
  rcases List.mem_append.mp hz with hz | hz
  · exact decide_eq_true (h2 z hz)
  · rw [List.mem_singleton.mp hz]; exact decide_eq_true h
theorem Nms.add {f h : Nat} {acc : List (List Nat)} (g : Nms f h acc) {z : List Nat} (h1 : nameL z = true) (h2 : z.getLast? = some (sg f h acc.length)) : Nms f h (acc ++ [z]) := by
  intro i y e
  by_cases hi : i < acc.length
  · rw [List.getElem?_append_left hi] at e
    exact g i y e
  · rw [List.getElem?_append_right (by omega)] at e
    have hj : i - acc.length = 0 := by
      cases hk : i - acc.length with
      | zero => rfl
      | succ k => rw [hk] at e; cases e
    rw [hj] at e
    cases e
    obtain rfl : i = acc.length := by omega
    exact ⟨h1, h2⟩
theorem S_app2 {a b : List Nat} : S a ++ S b = S (a ++ b) := by
  show (⟨(⟨a⟩ : Array Nat) ++ ⟨b⟩⟩ : Str) = _
  simp [S]
/-- a turn of the names -/
def nmB : I := forB (nthI 4 b__law_names)
theorem nm_go {p l q : Addr} {f h : Nat} {st : List Nat} {D : Ends} {W : WX} (hn : 1 ≤ n) (hq : q ≠ p ∧ q ≠ l) (hs : st.length ≤ 7) (hs2 : ∀ c ∈ st, c ∈ abc) (hf : f < 26) (hh : h ≤ 11) : ∀ (r k : Nat) (acc : List (List Nat)) (v7 v8 : Option V) (H : Hp), acc.length = k → Nms f h acc → H q = some (.lst (stV acc)) → PenL H p l (m + r) → k + r ≤ 4 →
    (∀ acc' v7 v8 H', acc'.length = k + r → Nms f h acc' → H' q = some (.lst (stV acc')) → PenL H' p l m → (∀ a o, a ≠ p → a ≠ q → H a = some o → H' a = some o) → D.nx [some (.ref p), some (.int 4), some (.str (S abc)), some (.str (S st)), some (.int (f : Nat)), some (.int (h : Nat)), some (.ref q), v7, v8] H') →
    forGo (fun _ => True) (rd (hd.pg.ctx K w (run hd.pg K w n)) (.v 7) W).g (rd (hd.pg.ctx K w (run hd.pg K w n)) (.v 7) W).gs (rd (hd.pg.ctx K w (run hd.pg K w n)) nmB W).s D ((List.range' k r).map fun k => It1.v (.int (k : Nat))) [some (.ref p), some (.int 4), some (.str (S abc)), some (.str (S st)), some (.int (f : Nat)), some (.int (h : Nat)), some (.ref q), v7, v8] H
  | 0, k, acc, v7, v8, H, hl, g, e, hP, hk, hx => ⟨trivial, hx acc v7 v8 H hl g e hP fun _ _ _ _ z => z⟩
  | r + 1, k, acc, v7, v8, H, hl, g, e, hP, hk, hx => by
    rw [List.range'_succ, List.map_cons, for_v]
    refine ⟨trivial, ?_⟩
    rw [g_v']
    simp only [nmB, forB, nthI, b__law_names, e_k, e_v, e_g, e_bop, e_uop, e_not, e_and, e_or, e_ite, e_cmp, e_cmp2, e_lst, e_tup, e_call, e_mk, e_bi, e_isi, e_meth, e_bm, e_icall, e_ostr, e_att, e_ix, e_sl, e_isiM, e_methk, e_smeth, e_cmeth, e_mkv, e_mkk, kw_nil, e_oeq, e_eatt, e_eisi, e_one, e_rep, e_fmt, e_callk, e_xcmp, e_obin, e_oinv, e_oin, e_olen, e_obool, e_cat, e_fo3, e_rev, e_rgl, e_oeqs, t_v, t_isi, t_call, t_meth, t_bop, t_bi, t_att, t_not, t_and, t_or, t_cmp, t_cmp2, trQ_bl, blQ_bl, t_methk, t_smeth, t_oeq, t_eisi, t_ix, t_icall, t_one, t_callk, t_oin, t_obin, t_xcmp, t_oeqs, a_nil', a_cons, s_nil, s_cons, s_set, s_setLc, s_par, s_expr, s_ret, s_retN, s_if, s_never, s_pass, s_brk, s_cont, s_par3, s_oaug, s_raise, g_v', g_tup, g_sub, g_att, gs_nil, gs_cons, gs_tup, g_unl, i_L, i_T, i_S, i_R1, i_ES, i_E, i_Z, p_nil, p_pair, o_nil, o_k, o_v, o_bop, o_uop, o_bi, o_ix, oQ_int, o_att, o_call, i_ET, i_R2, x_K, x_w, x_fn, x_gv, x_tabs, x_mth, x_prp, x_fld, x_isi, x_kwo, x_dfl, x_xf, x_exm, x_eis, x_lt, x_lfn, x_smt, x_cmt, x_cvl, y_cvl, x_opr, y_opr, y_cmt, y_K, y_w, y_fn, y_gv, y_tabs, y_mth, y_prp, y_fld, y_isi, y_kwo, y_dfl, y_xf, y_exm, y_eis, y_smt, isi_int, isi_str, isi_bl, isi_non, ii1, ii2, ii3, ii4, ii5, ii6, ii7, it1, it2, it3, it4, it5, it6, it7, it8, it9, it10, it11, it12, it13, r_add, r_sub, r_mul, r_div, r_mod, r_pow, r_shl, r_shr, r_and, r_or, r_xor, r_neg, r_inv, r_lt, r_le, r_gt, r_ge, r_eqI, r_neI, r_eqS, r_neS, r_inS, r_niS, b_int, b_intB, b_abs, b_lenS, b_strS, r_addS, r_isN, r_eqB, r_neB, List.getElem?_cons_zero, List.getElem?_cons_succ, List.set_cons_zero, List.set_cons_succ, List.map_cons, List.map_nil, List.length_cons, List.length_nil, Nat.reduceAdd, Nat.reduceSub, List.replicate_succ, List.replicate_zero, List.cons_append, List.nil_append, List.append_nil, Bool.not_true, Bool.not_false, if_true, if_false, ite_true, ite_false, Bool.false_eq_true, Bool.true_eq_false, reduceIte]
    refine ⟨.inl (by unfold CMul; omega), by decide, ?_⟩
    have hm : (f + h * k) % 26 < 26 := Nat.mod_lt _ (by decide)
    rw [show ((f : Int) + (h : Int) * (k : Int)) % 26 = (((f + h * k) % 26 : Nat) : Int) by simp]
    refine ⟨by decide, sg f h k, atI_nat (abc_get _ hm).1, ?_⟩
    have hsg : sg f h k ∈ abc := (abc_get _ hm).2
    refine ⟨.inl ⟨rfl, _, .inl (.inl e)⟩, c_drawL (m := m + r) hP hn (by decide) fun i H1 _ _ P1 x1 => ?_⟩
    have e1 := x1.get hq.1 e
    have fin : ∀ z : List Nat, nameL z = true → z.getLast? = some (sg f h k) → ∀ {N : VK}, (N .non (upd H1 q (.lst (stV (acc ++ [z]))))) → rM K M.append (.ref q) [.str (S z)] H1 N := fun z _ _ N hN => by
      refine ⟨q, stV acc, .str (S z), rfl, rfl, e1, by rw [List.length_map, sizeLine_eq]; omega, ?_⟩
      rw [show stV acc ++ [V.str (S z)] = stV (acc ++ [z]) from (List.map_append (l₁ := acc) (l₂ := [z])).symm]
      exact hN
    have go : ∀ z : List Nat, nameL z = true → z.getLast? = some (sg f h k) → ∀ v8 : Option V, forGo (fun _ => True) (rd (hd.pg.ctx K w (run hd.pg K w n)) (.v 7) W).g (rd (hd.pg.ctx K w (run hd.pg K w n)) (.v 7) W).gs (rd (hd.pg.ctx K w (run hd.pg K w n)) nmB W).s D ((List.range' (k + 1) r).map fun k => It1.v (.int (k : Nat))) [some (.ref p), some (.int 4), some (.str (S abc)), some (.str (S st)), some (.int (f : Nat)), some (.int (h : Nat)), some (.ref q), some (.int (k : Nat)), v8] (upd H1 q (.lst (stV (acc ++ [z])))) := fun z hz hz2 v8 => by
      refine nm_go hn hq hs hs2 hf hh r (k + 1) (acc ++ [z]) _ _ _ (by rw [List.length_append, hl]; rfl) (g.add hz (by rw [hl]; exact hz2)) upd_same (P1.put hq.1 hq.2) (by omega) fun acc' v7 v8 H' f1 f2 f3 f4 f5 => ?_
      exact hx acc' v7 v8 H' (by omega) f2 f3 f4 fun a o a1 a2 a3 => f5 a o a1 a2 (by rw [upd_ne a2]; exact x1.get a1 a3)
    rw [r_eqI, blQ_bl]
    cases i == 0 with
    | true =>
      rw [if_pos rfl]
      exact fin [sg f h k] (name_one hsg) rfl (go [sg f h k] (name_one hsg) rfl _)
    | false =>
      rw [if_neg (by decide)]
      have l1 := name_app hsg hs hs2
      have l2 : (st ++ [sg f h k]).getLast? = some (sg f h k) := by simp
      refine ⟨by rw [SX.S_len, SX.S_len, sizeLine_eq]; show st.length + 1 ≤ _; omega, ?_⟩
      rw [show S st ++ S [sg f h k] = S (st ++ [sg f h k]) from S_app2]
      exact fin _ l1 l2 (go _ l1 l2 _)
/-- four names of a law -/
structure N4 (ns : List (List Nat)) : Prop where
  l : ns.length = 4
  n : ∀ z ∈ ns, nameL z = true
  d : ∀ (i j : Nat) (a b : List Nat), i ≠ j → ns[i]? = some a → ns[j]? = some b → a ≠ b
theorem Nms.n4 {f h : Nat} {ns : List (List Nat)} (g : Nms f h ns) (hl : ns.length = 4) (hf : f < 26) (hh : h ∈ [1, 3, 5, 7, 9, 11]) : N4 ns := by
  refine ⟨hl, fun z hz => ?_, fun i j a b hij ha hb e => ?_⟩
  · obtain ⟨i, hi⟩ := List.getElem?_of_mem hz
    exact (g i z hi).1
  · have h1 := (g i a ha).2
    have h2 := (g j b hb).2
    rw [e, h2] at h1
    have li := (List.getElem?_eq_some_iff.mp ha).1
    have lj := (List.getElem?_eq_some_iff.mp hb).1
    exact sg_ne f hf h hh i (by omega) j (by omega) hij (Option.some.inj h1).symm
theorem c_names {p l : Addr} (hP : PenL H p l (m + 14)) (hn : 3 ≤ n) (h : ∀ q ns H', H q = none → H' q = some (.lst (stV ns)) → N4 ns → PenL H' p l m → ExtP p H H' → Q (.ref q) H') : run hd.pg K w n s__law_names [.ref p, .int 4] H Q E := by
  refine run_at f__law_names (by omega) rfl ?_
  show (rd _ b__law_names _).s _ _ _
  have eb : b__law_names = .cons (nthI 0 b__law_names) (.cons (nthI 1 b__law_names) (.cons (nthI 2 b__law_names) (.cons (nthI 3 b__law_names) (.cons (.for_ (.v 7) (.itR1 (.v 1)) nmB) (tailI 5 b__law_names))))) := rfl
  rw [eb]
  have go := @nm_go K w (n - 1)
  generalize nmB = pb at go ⊢
  simp only [nthI, tailI, b__law_names, d__law_names, L2.start, e_k, e_v, e_g, e_bop, e_uop, e_not, e_and, e_or, e_ite, e_cmp, e_cmp2, e_lst, e_tup, e_call, e_mk, e_bi, e_isi, e_meth, e_bm, e_icall, e_ostr, e_att, e_ix, e_sl, e_isiM, e_methk, e_smeth, e_cmeth, e_mkv, e_mkk, kw_nil, e_oeq, e_eatt, e_eisi, e_one, e_rep, e_fmt, e_callk, e_xcmp, e_obin, e_oinv, e_oin, e_olen, e_obool, e_cat, e_fo3, e_rev, e_rgl, e_oeqs, t_v, t_isi, t_call, t_meth, t_bop, t_bi, t_att, t_not, t_and, t_or, t_cmp, t_cmp2, trQ_bl, blQ_bl, t_methk, t_smeth, t_oeq, t_eisi, t_ix, t_icall, t_one, t_callk, t_oin, t_obin, t_xcmp, t_oeqs, a_nil', a_cons, s_nil, s_cons, s_set, s_setLc, s_par, s_expr, s_ret, s_retN, s_if, s_never, s_pass, s_brk, s_cont, s_par3, s_oaug, s_raise, g_v', g_tup, g_sub, g_att, gs_nil, gs_cons, gs_tup, g_unl, i_L, i_T, i_S, i_R1, i_ES, i_E, i_Z, p_nil, p_pair, o_nil, o_k, o_v, o_bop, o_uop, o_bi, o_ix, oQ_int, o_att, o_call, i_ET, i_R2, x_K, x_w, x_fn, x_gv, x_tabs, x_mth, x_prp, x_fld, x_isi, x_kwo, x_dfl, x_xf, x_exm, x_eis, x_lt, x_lfn, x_smt, x_cmt, x_cvl, y_cvl, x_opr, y_opr, y_cmt, y_K, y_w, y_fn, y_gv, y_tabs, y_mth, y_prp, y_fld, y_isi, y_kwo, y_dfl, y_xf, y_exm, y_eis, y_smt, isi_int, isi_str, isi_bl, isi_non, ii1, ii2, ii3, ii4, ii5, ii6, ii7, it1, it2, it3, it4, it5, it6, it7, it8, it9, it10, it11, it12, it13, r_add, r_sub, r_mul, r_div, r_mod, r_pow, r_shl, r_shr, r_and, r_or, r_xor, r_neg, r_inv, r_lt, r_le, r_gt, r_ge, r_eqI, r_neI, r_eqS, r_neS, r_inS, r_niS, b_int, b_intB, b_abs, b_lenS, b_strS, r_addS, r_isN, r_eqB, r_neB, List.getElem?_cons_zero, List.getElem?_cons_succ, List.set_cons_zero, List.set_cons_succ, List.map_cons, List.map_nil, List.length_cons, List.length_nil, Nat.reduceAdd, Nat.reduceSub, List.replicate_succ, List.replicate_zero, List.cons_append, List.nil_append, List.append_nil, Bool.not_true, Bool.not_false, if_true, if_false, ite_true, ite_false, Bool.false_eq_true, Bool.true_eq_false, reduceIte]
  refine ⟨rfl, ?_⟩
  rw [e_lc]
  simp only [e_k, e_v, e_g, e_bop, e_uop, e_not, e_and, e_or, e_ite, e_cmp, e_cmp2, e_lst, e_tup, e_call, e_mk, e_bi, e_isi, e_meth, e_bm, e_icall, e_ostr, e_att, e_ix, e_sl, e_isiM, e_methk, e_smeth, e_cmeth, e_mkv, e_mkk, kw_nil, e_oeq, e_eatt, e_eisi, e_one, e_rep, e_fmt, e_callk, e_xcmp, e_obin, e_oinv, e_oin, e_olen, e_obool, e_cat, e_fo3, e_rev, e_rgl, e_oeqs, t_v, t_isi, t_call, t_meth, t_bop, t_bi, t_att, t_not, t_and, t_or, t_cmp, t_cmp2, trQ_bl, blQ_bl, t_methk, t_smeth, t_oeq, t_eisi, t_ix, t_icall, t_one, t_callk, t_oin, t_obin, t_xcmp, t_oeqs, a_nil', a_cons, s_nil, s_cons, s_set, s_setLc, s_par, s_expr, s_ret, s_retN, s_if, s_never, s_pass, s_brk, s_cont, s_par3, s_oaug, s_raise, g_v', g_tup, g_sub, g_att, gs_nil, gs_cons, gs_tup, g_unl, i_L, i_T, i_S, i_R1, i_ES, i_E, i_Z, p_nil, p_pair, o_nil, o_k, o_v, o_bop, o_uop, o_bi, o_ix, oQ_int, o_att, o_call, i_ET, i_R2, x_K, x_w, x_fn, x_gv, x_tabs, x_mth, x_prp, x_fld, x_isi, x_kwo, x_dfl, x_xf, x_exm, x_eis, x_lt, x_lfn, x_smt, x_cmt, x_cvl, y_cvl, x_opr, y_opr, y_cmt, y_K, y_w, y_fn, y_gv, y_tabs, y_mth, y_prp, y_fld, y_isi, y_kwo, y_dfl, y_xf, y_exm, y_eis, y_smt, isi_int, isi_str, isi_bl, isi_non, ii1, ii2, ii3, ii4, ii5, ii6, ii7, it1, it2, it3, it4, it5, it6, it7, it8, it9, it10, it11, it12, it13, r_add, r_sub, r_mul, r_div, r_mod, r_pow, r_shl, r_shr, r_and, r_or, r_xor, r_neg, r_inv, r_lt, r_le, r_gt, r_ge, r_eqI, r_neI, r_eqS, r_neS, r_inS, r_niS, b_int, b_intB, b_abs, b_lenS, b_strS, r_addS, r_isN, r_eqB, r_neB, List.getElem?_cons_zero, List.getElem?_cons_succ, List.set_cons_zero, List.set_cons_succ, List.map_cons, List.map_nil, List.length_cons, List.length_nil, Nat.reduceAdd, Nat.reduceSub, List.replicate_succ, List.replicate_zero, List.cons_append, List.nil_append, List.append_nil, Bool.not_true, Bool.not_false, if_true, if_false, ite_true, ite_false, Bool.false_eq_true, Bool.true_eq_false, reduceIte]
  refine c_drawL (m := m + 13) hP (by omega) (by decide) fun i H1 i0 i1 P1 x1 => ?_
  obtain ⟨k, rfl⟩ : ∃ k : Nat, i = k := ⟨i.toNat, by omega⟩
  try dsimp only
  refine ⟨by omega, by omega, fun Dl hD => ?_⟩
  rw [show ((k : Nat) : Int).toNat = k from rfl]
  have P1 := P1.mono (show (m + 6) + k ≤ m + 13 by omega)
  obtain ⟨n1, n2⟩ := P1.ne hD
  have xD := Ext.new (H := H1) (o := .lst []) hD
  refine chars_go (m := m + 6) (by omega) n1 n2 rfl rfl (List.range k) [] _ upd_same (by simpa using P1.ext xD) (by simp; omega) (by simp) fun H2 st hl ha P2 o2 e2 => ?_
  have x2 : ExtP p H1 H2 := fun a o na ea => o2 a o na (ne_of_none ea hD) (by rw [upd_ne (ne_of_none ea hD)]; exact ea)
  have hl : st.length = k := by simpa using hl
  refine join_chars e2 (by omega) ?_
  try simp only [e_k, e_v, e_g, e_bop, e_uop, e_not, e_and, e_or, e_ite, e_cmp, e_cmp2, e_lst, e_tup, e_call, e_mk, e_bi, e_isi, e_meth, e_bm, e_icall, e_ostr, e_att, e_ix, e_sl, e_isiM, e_methk, e_smeth, e_cmeth, e_mkv, e_mkk, kw_nil, e_oeq, e_eatt, e_eisi, e_one, e_rep, e_fmt, e_callk, e_xcmp, e_obin, e_oinv, e_oin, e_olen, e_obool, e_cat, e_fo3, e_rev, e_rgl, e_oeqs, t_v, t_isi, t_call, t_meth, t_bop, t_bi, t_att, t_not, t_and, t_or, t_cmp, t_cmp2, trQ_bl, blQ_bl, t_methk, t_smeth, t_oeq, t_eisi, t_ix, t_icall, t_one, t_callk, t_oin, t_obin, t_xcmp, t_oeqs, a_nil', a_cons, s_nil, s_cons, s_set, s_setLc, s_par, s_expr, s_ret, s_retN, s_if, s_never, s_pass, s_brk, s_cont, s_par3, s_oaug, s_raise, g_v', g_tup, g_sub, g_att, gs_nil, gs_cons, gs_tup, g_unl, i_L, i_T, i_S, i_R1, i_ES, i_E, i_Z, p_nil, p_pair, o_nil, o_k, o_v, o_bop, o_uop, o_bi, o_ix, oQ_int, o_att, o_call, i_ET, i_R2, x_K, x_w, x_fn, x_gv, x_tabs, x_mth, x_prp, x_fld, x_isi, x_kwo, x_dfl, x_xf, x_exm, x_eis, x_lt, x_lfn, x_smt, x_cmt, x_cvl, y_cvl, x_opr, y_opr, y_cmt, y_K, y_w, y_fn, y_gv, y_tabs, y_mth, y_prp, y_fld, y_isi, y_kwo, y_dfl, y_xf, y_exm, y_eis, y_smt, isi_int, isi_str, isi_bl, isi_non, ii1, ii2, ii3, ii4, ii5, ii6, ii7, it1, it2, it3, it4, it5, it6, it7, it8, it9, it10, it11, it12, it13, r_add, r_sub, r_mul, r_div, r_mod, r_pow, r_shl, r_shr, r_and, r_or, r_xor, r_neg, r_inv, r_lt, r_le, r_gt, r_ge, r_eqI, r_neI, r_eqS, r_neS, r_inS, r_niS, b_int, b_intB, b_abs, b_lenS, b_strS, r_addS, r_isN, r_eqB, r_neB, List.getElem?_cons_zero, List.getElem?_cons_succ, List.set_cons_zero, List.set_cons_succ, List.map_cons, List.map_nil, List.length_cons, List.length_nil, Nat.reduceAdd, Nat.reduceSub, List.replicate_succ, List.replicate_zero, List.cons_append, List.nil_append, List.append_nil, Bool.not_true, Bool.not_false, if_true, if_false, ite_true, ite_false, Bool.false_eq_true, Bool.true_eq_false, reduceIte]
  refine c_drawL (m := m + 5) P2 (by omega) (by decide) fun f H3 f0 f1 P3 x3 => ?_
  obtain ⟨f, rfl⟩ : ∃ k : Nat, f = k := ⟨f.toNat, by omega⟩
  refine ⟨by decide, fun t ht => ?_⟩
  refine c_pickL (m := m + 4) (P3.ext (Ext.new ht)) (by omega) (.inl (.inl upd_same)) (P3.ne ht).1 ⟨by decide, by decide⟩ fun j v H4 hv P4 x4 => ?_
  obtain ⟨h', rfl, hh⟩ : ∃ z : Nat, v = .int (z : Nat) ∧ z ∈ [1, 3, 5, 7, 9, 11] := by
    have := List.mem_of_getElem? hv
    simp only [List.mem_cons, List.not_mem_nil, or_false] at this
    rcases this with rfl | rfl | rfl | rfl | rfl | rfl
    · exact ⟨1, rfl, by decide⟩
    · exact ⟨3, rfl, by decide⟩
    · exact ⟨5, rfl, by decide⟩
    · exact ⟨7, rfl, by decide⟩
    · exact ⟨9, rfl, by decide⟩
    · exact ⟨11, rfl, by decide⟩
  refine ⟨_, _, rfl, by decide, fun q hq => ?_⟩
  have nq := P4.ne hq
  have xq := Ext.new (H := H4) (o := .lst []) hq
  have y4 : ExtP p H H4 := x1.trans (x2.trans (x3.trans ((Ext.new ht).toP.trans x4)))
  have hqH : H q = none := by
    cases e : H q with
    | none => rfl
    | some o => rw [y4 q o nq.1 e] at hq; cases hq
  rw [s_for, i_R1, e_v]
  refine ⟨by decide, by decide, ?_⟩
  rw [show (List.range (4 : Int).toNat).map (fun i => It1.v (.int (i : Nat))) = (List.range' 0 4).map fun k => It1.v (.int (k : Nat)) from rfl]
  refine go (m := m) (by omega) nq (by omega) ha (by omega) (by simp at hh; omega) 4 0 [] _ _ _ rfl (fun i z e => by cases e) upd_same (P4.ext xq) (by decide) fun ns v7 v8 H5 a1 a2 a3 a4 a5 => ?_
  simp only [e_k, e_v, e_g, e_bop, e_uop, e_not, e_and, e_or, e_ite, e_cmp, e_cmp2, e_lst, e_tup, e_call, e_mk, e_bi, e_isi, e_meth, e_bm, e_icall, e_ostr, e_att, e_ix, e_sl, e_isiM, e_methk, e_smeth, e_cmeth, e_mkv, e_mkk, kw_nil, e_oeq, e_eatt, e_eisi, e_one, e_rep, e_fmt, e_callk, e_xcmp, e_obin, e_oinv, e_oin, e_olen, e_obool, e_cat, e_fo3, e_rev, e_rgl, e_oeqs, t_v, t_isi, t_call, t_meth, t_bop, t_bi, t_att, t_not, t_and, t_or, t_cmp, t_cmp2, trQ_bl, blQ_bl, t_methk, t_smeth, t_oeq, t_eisi, t_ix, t_icall, t_one, t_callk, t_oin, t_obin, t_xcmp, t_oeqs, a_nil', a_cons, s_nil, s_cons, s_set, s_setLc, s_par, s_expr, s_ret, s_retN, s_if, s_never, s_pass, s_brk, s_cont, s_par3, s_oaug, s_raise, g_v', g_tup, g_sub, g_att, gs_nil, gs_cons, gs_tup, g_unl, i_L, i_T, i_S, i_R1, i_ES, i_E, i_Z, p_nil, p_pair, o_nil, o_k, o_v, o_bop, o_uop, o_bi, o_ix, oQ_int, o_att, o_call, i_ET, i_R2, x_K, x_w, x_fn, x_gv, x_tabs, x_mth, x_prp, x_fld, x_isi, x_kwo, x_dfl, x_xf, x_exm, x_eis, x_lt, x_lfn, x_smt, x_cmt, x_cvl, y_cvl, x_opr, y_opr, y_cmt, y_K, y_w, y_fn, y_gv, y_tabs, y_mth, y_prp, y_fld, y_isi, y_kwo, y_dfl, y_xf, y_exm, y_eis, y_smt, isi_int, isi_str, isi_bl, isi_non, ii1, ii2, ii3, ii4, ii5, ii6, ii7, it1, it2, it3, it4, it5, it6, it7, it8, it9, it10, it11, it12, it13, r_add, r_sub, r_mul, r_div, r_mod, r_pow, r_shl, r_shr, r_and, r_or, r_xor, r_neg, r_inv, r_lt, r_le, r_gt, r_ge, r_eqI, r_neI, r_eqS, r_neS, r_inS, r_niS, b_int, b_intB, b_abs, b_lenS, b_strS, r_addS, r_isN, r_eqB, r_neB, List.getElem?_cons_zero, List.getElem?_cons_succ, List.set_cons_zero, List.set_cons_succ, List.map_cons, List.map_nil, List.length_cons, List.length_nil, Nat.reduceAdd, Nat.reduceSub, List.replicate_succ, List.replicate_zero, List.cons_append, List.nil_append, List.append_nil, Bool.not_true, Bool.not_false, if_true, if_false, ite_true, ite_false, Bool.false_eq_true, Bool.true_eq_false, reduceIte]
  exact h q ns H5 hqH a3 (Nms.n4 (f := f) (h := h') a2 a1 (by omega) hh) a4 (y4.trans fun a o b1 b2 => a5 a o b1 (ne_of_none b2 hq) (xq.get b2))
end U

namespace U
open PySem PySem.Spec PyProof.Rows L2
variable {K : PySem.W.Frag} {w : World} {n m : Nat} {H : Hp} {Q : VK} {E : XK}
theorem PenL.neq {p l a : Addr} {o : HO} (P : PenL H p l m) (h : H a = some o) (ho : ∀ (l' : Addr) (b g : Int), o ≠ .lst [.ref l', .int b, .int g]) : a ≠ p := fun e => by
  obtain ⟨cs, b, g, P⟩ := P
  rw [e, P.here] at h
  exact ho _ _ _ (Option.some.inj h).symm
theorem stV_ne {ls : List (List Nat)} (l' : Addr) (b g : Int) : HO.lst (stV ls) ≠ .lst [.ref l', .int b, .int g] := fun e => by
  cases ls with
  | nil => cases e
  | cons a r => cases e
theorem ToL.extP {H' : Hp} {p l : Addr} {v : V} {o : ON} (h : ToL H v o) (P : PenL H p l m) (x : ExtP p H H') : ToL H' v o := by
  cases o with
  | none => exact h
  | some ls =>
    obtain ⟨q, e, h⟩ := h
    exact ⟨q, e, x.get (P.neq h stV_ne) h⟩
theorem TpV.extQ {H' : Hp} {p l : Addr} {v : V} {o : ON} (h : TpV H v o) (P : PenL H p l m) (x : ExtP p H H') : TpV H' v o := by
  obtain ⟨cs, b, g, P⟩ := P
  exact h.extP (fun xs e => by rw [P.here] at e; cases e) x
theorem IsM.extQ {H' : Hp} {p l a : Addr} {b : Int} (h : IsM K H a b) (P : PenL H p l m) (x : ExtP p H H') : IsM K H' a b := by
  obtain ⟨dx, h⟩ := h
  exact ⟨dx, x.get (P.neq h fun _ _ _ e => by cases e) h⟩
theorem Ln.extQ {H' : Hp} {p l x : Addr} {fo : List Nat} {ow gr : ON} {mu ne : Int} (h : Ln K H x fo ow gr mu ne) (P : PenL H p l m) (y : ExtP p H H') : Ln K H' x fo ow gr mu ne := by
  obtain ⟨dx, vo, vg, pm, pn, h1, h2, h3, h4, h5⟩ := h
  exact ⟨dx, vo, vg, pm, pn, y.get (P.neq h1 fun _ _ _ e => by cases e) h1, h2.extQ P y, h3.extQ P y, h4.extQ P y, h5.extQ P y⟩
theorem Td.extQ {H' : Hp} {p l u : Addr} {fo : List Nat} {ow gr : ON} {mu ne : Nat} (h : Td H u fo ow gr mu ne) (P : PenL H p l m) (x : ExtP p H H') : Td H' u fo ow gr mu ne := by
  obtain ⟨vo, vg, h1, h2, h3⟩ := h.hu
  exact { h with hu := ⟨vo, vg, x.get (P.neq h1 fun _ _ _ e => by cases e) h1, h2.extP P x, h3.extP P x⟩ }
theorem tw_one {a : List Nat} (h : nameL a = true) : Tw (some [a]) := ⟨fun z hz => by rw [List.mem_singleton.mp hz]; exact h, (by simp), (by simp), by simp⟩
theorem tw_two {a b : List Nat} (h : nameL a = true) (h2 : nameL b = true) (hne : a ≠ b) : Tw (some [a, b]) := ⟨fun z hz => by
  simp only [List.mem_cons, List.not_mem_nil, or_false] at hz
  rcases hz with rfl | rfl
  · exact h
  · exact h2, (by simp), (by simp), by simp [hne]⟩
/-- one of the ways to tell names -/
theorem c_some {v : V} {A B C : Addr} {a b c x : List Nat} (hv : v = .non ∨ v = .ref A ∨ v = .ref B ∨ v = .ref C) (hA : H A = some (.lst (stV [x]))) (hB : H B = some (.lst (stV [a, b]))) (hC : H C = some (.lst (stV [b, c])))
    (ha : nameL a = true) (hb : nameL b = true) (hc : nameL c = true) (hx : nameL x = true) (n1 : a ≠ b) (n2 : b ≠ c) : ∃ o, ToL H v o ∧ Tw o := by
  rcases hv with rfl | rfl | rfl | rfl
  · exact ⟨none, rfl, trivial⟩
  · exact ⟨some [x], ⟨A, rfl, hA⟩, tw_one hx⟩
  · exact ⟨some [a, b], ⟨B, rfl, hB⟩, tw_two ha hb n1⟩
  · exact ⟨some [b, c], ⟨C, rfl, hC⟩, tw_two hb hc n2⟩
theorem c_line {p l q : Addr} {ns : List (List Nat)} (hP : PenL H p l (m + 9)) (hq : H q = some (.lst (stV ns))) (h4 : N4 ns) (hn : 3 ≤ n) (h : ∀ u fo ow gr mu ne H', Td H' u fo ow gr mu ne → PenL H' p l m → ExtP p H H' → Q (.ref u) H') : run hd.pg K w n s__law_line [.ref p, .ref q] H Q E := by
  refine run_at f__law_line (by omega) rfl ?_
  obtain ⟨a, b, c, d, rfl⟩ : ∃ a b c d, ns = [a, b, c, d] := by
    have := h4.l
    match ns, this with
    | [a, b, c, d], _ => exact ⟨a, b, c, d, rfl⟩
  have na := h4.n a (by simp)
  have nb := h4.n b (by simp)
  have nc := h4.n c (by simp)
  have nd := h4.n d (by simp)
  have ab := h4.d 0 1 a b (by decide) rfl rfl
  have bc := h4.d 1 2 b c (by decide) rfl rfl
  have cd := h4.d 2 3 c d (by decide) rfl rfl
  have one : ∀ {i : Nat} {v : V}, (stV [a, b, c, d])[i]? = some v → ∃ z, v = .str (S z) ∧ nameL z = true := fun hv => by
    have := List.mem_of_getElem? hv
    simp only [List.map_cons, List.map_nil, List.mem_cons, List.not_mem_nil, or_false] at this
    rcases this with rfl | rfl | rfl | rfl
    · exact ⟨a, rfl, na⟩
    · exact ⟨b, rfl, nb⟩
    · exact ⟨c, rfl, nc⟩
    · exact ⟨d, rfl, nd⟩
  simp only [d__law_line, b__law_line, L2.start, e_k, e_v, e_g, e_bop, e_uop, e_not, e_and, e_or, e_ite, e_cmp, e_cmp2, e_lst, e_tup, e_call, e_mk, e_bi, e_isi, e_meth, e_bm, e_icall, e_ostr, e_att, e_ix, e_sl, e_isiM, e_methk, e_smeth, e_cmeth, e_mkv, e_mkk, kw_nil, e_oeq, e_eatt, e_eisi, e_one, e_rep, e_fmt, e_callk, e_xcmp, e_obin, e_oinv, e_oin, e_olen, e_obool, e_cat, e_fo3, e_rev, e_rgl, e_oeqs, t_v, t_isi, t_call, t_meth, t_bop, t_bi, t_att, t_not, t_and, t_or, t_cmp, t_cmp2, trQ_bl, blQ_bl, t_methk, t_smeth, t_oeq, t_eisi, t_ix, t_icall, t_one, t_callk, t_oin, t_obin, t_xcmp, t_oeqs, a_nil', a_cons, s_nil, s_cons, s_set, s_setLc, s_par, s_expr, s_ret, s_retN, s_if, s_never, s_pass, s_brk, s_cont, s_par3, s_oaug, s_raise, g_v', g_tup, g_sub, g_att, gs_nil, gs_cons, gs_tup, g_unl, i_L, i_T, i_S, i_R1, i_ES, i_E, i_Z, p_nil, p_pair, o_nil, o_k, o_v, o_bop, o_uop, o_bi, o_ix, oQ_int, o_att, o_call, i_ET, i_R2, x_K, x_w, x_fn, x_gv, x_tabs, x_mth, x_prp, x_fld, x_isi, x_kwo, x_dfl, x_xf, x_exm, x_eis, x_lt, x_lfn, x_smt, x_cmt, x_cvl, y_cvl, x_opr, y_opr, y_cmt, y_K, y_w, y_fn, y_gv, y_tabs, y_mth, y_prp, y_fld, y_isi, y_kwo, y_dfl, y_xf, y_exm, y_eis, y_smt, isi_int, isi_str, isi_bl, isi_non, ii1, ii2, ii3, ii4, ii5, ii6, ii7, it1, it2, it3, it4, it5, it6, it7, it8, it9, it10, it11, it12, it13, r_add, r_sub, r_mul, r_div, r_mod, r_pow, r_shl, r_shr, r_and, r_or, r_xor, r_neg, r_inv, r_lt, r_le, r_gt, r_ge, r_eqI, r_neI, r_eqS, r_neS, r_inS, r_niS, b_int, b_intB, b_abs, b_lenS, b_strS, r_addS, r_isN, r_eqB, r_neB, List.getElem?_cons_zero, List.getElem?_cons_succ, List.set_cons_zero, List.set_cons_succ, List.map_cons, List.map_nil, List.length_cons, List.length_nil, Nat.reduceAdd, Nat.reduceSub, List.replicate_succ, List.replicate_zero, List.cons_append, List.nil_append, List.append_nil, Bool.not_true, Bool.not_false, if_true, if_false, ite_true, ite_false, Bool.false_eq_true, Bool.true_eq_false, reduceIte]
  refine c_pickL (m := m + 8) hP (by omega) (.inl (.inl hq)) (hP.neq hq stV_ne) ⟨by simp, by simp⟩ fun i v H1 hv P1 x1 => ?_
  obtain ⟨x, rfl, nx⟩ := one hv
  have q1 := x1.get (hP.neq hq stV_ne) hq
  refine ⟨by decide, fun A hA => ?_⟩
  have xA := Ext.new (H := H1) (o := .lst [V.str (S x)]) hA
  have eA : upd H1 A (.lst [V.str (S x)]) A = some (.lst [V.str (S x)]) := upd_same
  generalize upd H1 A (.lst [V.str (S x)]) = H2 at xA eA ⊢
  refine x_slL (.inl (.inl (xA.get q1))) fun B hB => ?_
  rw [show cutV (stV [a, b, c, d]) none (some 2) = stV [a, b] from rfl]
  have xB := Ext.new (H := H2) (o := .lst (stV [a, b])) hB
  have eB : upd H2 B (.lst (stV [a, b])) B = some (.lst (stV [a, b])) := upd_same
  generalize upd H2 B (.lst (stV [a, b])) = H3 at xB eB ⊢
  refine x_slL (.inl (.inl ((xA.trans xB).get q1))) fun C hC => ?_
  rw [show cutV (stV [a, b, c, d]) (some 1) (some 3) = stV [b, c] from rfl]
  have xC := Ext.new (H := H3) (o := .lst (stV [b, c])) hC
  have eC : upd H3 C (.lst (stV [b, c])) C = some (.lst (stV [b, c])) := upd_same
  generalize upd H3 C (.lst (stV [b, c])) = H4 at xC eC ⊢
  refine ⟨by decide, fun L hL => ?_⟩
  have xL := Ext.new (H := H4) (o := .lst [.non, .non, .ref A, .ref B, .ref C]) hL
  have eL : upd H4 L (.lst [.non, .non, .ref A, .ref B, .ref C]) L = some (.lst [.non, .non, .ref A, .ref B, .ref C]) := upd_same
  generalize upd H4 L (.lst [.non, .non, .ref A, .ref B, .ref C]) = H5 at xL eL ⊢
  have x15 := xA.trans (xB.trans (xC.trans xL))
  have P5 := P1.ext x15
  have nL : L ≠ p := (P1.ext (xA.trans (xB.trans xC))).ne hL |>.1
  refine c_pickL (m := m + 7) P5 (by omega) (.inl (.inl eL)) nL ⟨by simp, by simp⟩ fun i v2 H6 hv2 P6 x6 => ?_
  obtain ⟨ow, t2, w2⟩ : ∃ o, ToL H6 v2 o ∧ Tw o := by
    have hm := List.mem_of_getElem? hv2
    have eA5 := (xB.trans (xC.trans xL)).get eA
    have eB5 := (xC.trans xL).get eB
    have eC5 := xL.get eC
    refine c_some (A := A) (B := B) (C := C) (x := x) ?_ (x6.get (P5.neq eA5 (stV_ne (ls := [x]))) eA5) (x6.get (P5.neq eB5 stV_ne) eB5) (x6.get (P5.neq eC5 stV_ne) eC5) na nb nc nx ab bc
    simp only [List.mem_cons, List.not_mem_nil, or_false] at hm
    rcases hm with e | e | e | e | e
    · exact .inl e
    · exact .inl e
    · exact .inr (.inl e)
    · exact .inr (.inr (.inl e))
    · exact .inr (.inr (.inr e))
  have y6 : ExtP p H H6 := x1.trans (x15.toP.trans x6)
  have q6 := y6.get (hP.neq hq stV_ne) hq
  clear hv2 x6 P5 nL x15 eL xL eC xC eB xB eA xA q1 x1 P1 hv
  refine c_pickL (m := m + 6) P6 (by omega) (.inl (.inl q6)) (P6.neq q6 stV_ne) ⟨by simp, by simp⟩ fun i v H7 hv P7 x7 => ?_
  obtain ⟨z, rfl, nz⟩ := one hv
  have q7 := x7.get (P6.neq q6 stV_ne) q6
  have t2 := t2.extP P6 x7
  refine ⟨by decide, fun A1 hA1 => ?_⟩
  have xA1 := Ext.new (H := H7) (o := .lst [V.str (S z)]) hA1
  have eA1 : upd H7 A1 (.lst [V.str (S z)]) A1 = some (.lst [V.str (S z)]) := upd_same
  generalize upd H7 A1 (.lst [V.str (S z)]) = H8 at xA1 eA1 ⊢
  refine x_slL (.inl (.inl (xA1.get q7))) fun B1 hB1 => ?_
  rw [show cutV (stV [a, b, c, d]) (some 2) (some 4) = stV [c, d] from rfl]
  have xB1 := Ext.new (H := H8) (o := .lst (stV [c, d])) hB1
  have eB1 : upd H8 B1 (.lst (stV [c, d])) B1 = some (.lst (stV [c, d])) := upd_same
  generalize upd H8 B1 (.lst (stV [c, d])) = H9 at xB1 eB1 ⊢
  refine ⟨by decide, fun L1 hL1 => ?_⟩
  have xL1 := Ext.new (H := H9) (o := .lst [.non, .non, .non, .ref A1, .ref B1]) hL1
  have eL1 : upd H9 L1 (.lst [.non, .non, .non, .ref A1, .ref B1]) L1 = some (.lst [.non, .non, .non, .ref A1, .ref B1]) := upd_same
  generalize upd H9 L1 (.lst [.non, .non, .non, .ref A1, .ref B1]) = H10 at xL1 eL1 ⊢
  have x15 := xA1.trans (xB1.trans xL1)
  have P10 := P7.ext x15
  have nL1 : L1 ≠ p := (P7.ext (xA1.trans xB1)).ne hL1 |>.1
  refine c_pickL (m := m + 5) P10 (by omega) (.inl (.inl eL1)) nL1 ⟨by simp, by simp⟩ fun i v3 H11 hv3 P11 x11 => ?_
  have t2 := (t2.ext x15).extP P10 x11
  obtain ⟨gr, t3, w3⟩ : ∃ o, ToL H11 v3 o ∧ Tw o := by
    have hm := List.mem_of_getElem? hv3
    have eA5 := (xB1.trans xL1).get eA1
    have eB5 := xL1.get eB1
    have fA := x11.get (P10.neq eA5 (stV_ne (ls := [z]))) eA5
    have fB := x11.get (P10.neq eB5 stV_ne) eB5
    simp only [List.mem_cons, List.not_mem_nil, or_false] at hm
    rcases hm with e | e | e | e | e
    · exact ⟨none, e, trivial⟩
    · exact ⟨none, e, trivial⟩
    · exact ⟨none, e, trivial⟩
    · exact ⟨some [z], ⟨A1, e, fA⟩, tw_one nz⟩
    · exact ⟨some [c, d], ⟨B1, e, fB⟩, tw_two nc nd cd⟩
  have y11 : ExtP p H H11 := y6.trans (x7.trans (x15.toP.trans x11))
  clear hv3 x11 P10 nL1 x15 eL1 xL1 eB1 xB1 eA1 xA1 q7 x7 P7 hv y6 q6 P6
  refine c_drawL (m := m + 4) P11 (by omega) (by decide) fun i H12 i0 i1 P12 x12 => ?_
  obtain ⟨i, rfl⟩ : ∃ k : Nat, i = k := ⟨i.toNat, by omega⟩
  have t2 := t2.extP P11 x12
  have t3 := t3.extP P11 x12
  refine ⟨by decide, fun L2 hL2 => ?_⟩
  have xL2 := Ext.new (H := H12) (o := .lst [.int 0, .int 0, .int 256, .int 320, .int 448, .int 73, .int 292, .int 128, .int 7, .int (i : Nat)]) hL2
  have eL2 : upd H12 L2 (.lst [.int 0, .int 0, .int 256, .int 320, .int 448, .int 73, .int 292, .int 128, .int 7, .int (i : Nat)]) L2 = some (.lst [.int 0, .int 0, .int 256, .int 320, .int 448, .int 73, .int 292, .int 128, .int 7, .int (i : Nat)]) := upd_same
  generalize upd H12 L2 (.lst [.int 0, .int 0, .int 256, .int 320, .int 448, .int 73, .int 292, .int 128, .int 7, .int (i : Nat)]) = H13 at xL2 eL2 ⊢
  refine c_pickL (m := m + 3) (P12.ext xL2) (by omega) (.inl (.inl eL2)) (P12.ne hL2).1 ⟨by simp, by simp⟩ fun j v4 H14 hv4 P14 x14 => ?_
  have t2 := (t2.ext xL2).extP (P12.ext xL2) x14
  have t3 := (t3.ext xL2).extP (P12.ext xL2) x14
  obtain ⟨mu, rfl, b4⟩ : ∃ k : Nat, v4 = .int (k : Nat) ∧ k < 512 := by
    have hm := List.mem_of_getElem? hv4
    simp only [List.mem_cons, List.not_mem_nil, or_false] at hm
    rcases hm with e | e | e | e | e | e | e | e | e | e
    · exact ⟨0, e, by decide⟩
    · exact ⟨0, e, by decide⟩
    · exact ⟨256, e, by decide⟩
    · exact ⟨320, e, by decide⟩
    · exact ⟨448, e, by decide⟩
    · exact ⟨73, e, by decide⟩
    · exact ⟨292, e, by decide⟩
    · exact ⟨128, e, by decide⟩
    · exact ⟨7, e, by decide⟩
    · exact ⟨i, e, by omega⟩
  have y14 : ExtP p H H14 := y11.trans (x12.trans (xL2.toP.trans x14))
  clear hv4 x14 eL2 xL2 x12 P12 y11 P11
  refine c_drawL (m := m + 2) P14 (by omega) (by decide) fun i2 H15 i0 i1 P15 x15 => ?_
  obtain ⟨i2, rfl⟩ : ∃ k : Nat, i2 = k := ⟨i2.toNat, by omega⟩
  have t2 := t2.extP P14 x15
  have t3 := t3.extP P14 x15
  refine ⟨by decide, fun L3 hL3 => ?_⟩
  have xL3 := Ext.new (H := H15) (o := .lst [.int 0, .int 0, .int 7, .int 18, .int 73, .int 511, .int 64, .int 146, .int (i2 : Nat)]) hL3
  have eL3 : upd H15 L3 (.lst [.int 0, .int 0, .int 7, .int 18, .int 73, .int 511, .int 64, .int 146, .int (i2 : Nat)]) L3 = some (.lst [.int 0, .int 0, .int 7, .int 18, .int 73, .int 511, .int 64, .int 146, .int (i2 : Nat)]) := upd_same
  generalize upd H15 L3 (.lst [.int 0, .int 0, .int 7, .int 18, .int 73, .int 511, .int 64, .int 146, .int (i2 : Nat)]) = H16 at xL3 eL3 ⊢
  refine c_pickL (m := m + 1) (P15.ext xL3) (by omega) (.inl (.inl eL3)) (P15.ne hL3).1 ⟨by simp, by simp⟩ fun j v5 H17 hv5 P17 x17 => ?_
  have t2 := (t2.ext xL3).extP (P15.ext xL3) x17
  have t3 := (t3.ext xL3).extP (P15.ext xL3) x17
  obtain ⟨ce, rfl⟩ : ∃ k : Nat, v5 = .int (k : Nat) := by
    have hm := List.mem_of_getElem? hv5
    simp only [List.mem_cons, List.not_mem_nil, or_false] at hm
    rcases hm with e | e | e | e | e | e | e | e | e
    · exact ⟨0, e⟩
    · exact ⟨0, e⟩
    · exact ⟨7, e⟩
    · exact ⟨18, e⟩
    · exact ⟨73, e⟩
    · exact ⟨511, e⟩
    · exact ⟨64, e⟩
    · exact ⟨146, e⟩
    · exact ⟨i2, e⟩
  have y17 : ExtP p H H17 := y14.trans (x15.trans (xL3.toP.trans x17))
  clear hv5 x17 eL3 xL3 x15 P15 y14 P14
  rw [r_sub, r_and]
  obtain ⟨k1, k2, k3⟩ := ne_ok (c := ce) b4
  obtain ⟨ne, e5⟩ : ∃ k : Nat, Builtin.bitAnd (ce : Int) (511 - (mu : Int)) = (k : Nat) := ⟨(Builtin.bitAnd (ce : Int) (511 - (mu : Int))).toNat, by omega⟩
  rw [e5] at k1 k2 k3 ⊢
  try simp only [e_k, e_v, e_g, e_bop, e_uop, e_not, e_and, e_or, e_ite, e_cmp, e_cmp2, e_lst, e_tup, e_call, e_mk, e_bi, e_isi, e_meth, e_bm, e_icall, e_ostr, e_att, e_ix, e_sl, e_isiM, e_methk, e_smeth, e_cmeth, e_mkv, e_mkk, kw_nil, e_oeq, e_eatt, e_eisi, e_one, e_rep, e_fmt, e_callk, e_xcmp, e_obin, e_oinv, e_oin, e_olen, e_obool, e_cat, e_fo3, e_rev, e_rgl, e_oeqs, t_v, t_isi, t_call, t_meth, t_bop, t_bi, t_att, t_not, t_and, t_or, t_cmp, t_cmp2, trQ_bl, blQ_bl, t_methk, t_smeth, t_oeq, t_eisi, t_ix, t_icall, t_one, t_callk, t_oin, t_obin, t_xcmp, t_oeqs, a_nil', a_cons, s_nil, s_cons, s_set, s_setLc, s_par, s_expr, s_ret, s_retN, s_if, s_never, s_pass, s_brk, s_cont, s_par3, s_oaug, s_raise, g_v', g_tup, g_sub, g_att, gs_nil, gs_cons, gs_tup, g_unl, i_L, i_T, i_S, i_R1, i_ES, i_E, i_Z, p_nil, p_pair, o_nil, o_k, o_v, o_bop, o_uop, o_bi, o_ix, oQ_int, o_att, o_call, i_ET, i_R2, x_K, x_w, x_fn, x_gv, x_tabs, x_mth, x_prp, x_fld, x_isi, x_kwo, x_dfl, x_xf, x_exm, x_eis, x_lt, x_lfn, x_smt, x_cmt, x_cvl, y_cvl, x_opr, y_opr, y_cmt, y_K, y_w, y_fn, y_gv, y_tabs, y_mth, y_prp, y_fld, y_isi, y_kwo, y_dfl, y_xf, y_exm, y_eis, y_smt, isi_int, isi_str, isi_bl, isi_non, ii1, ii2, ii3, ii4, ii5, ii6, ii7, it1, it2, it3, it4, it5, it6, it7, it8, it9, it10, it11, it12, it13, r_add, r_sub, r_mul, r_div, r_mod, r_pow, r_shl, r_shr, r_and, r_or, r_xor, r_neg, r_inv, r_lt, r_le, r_gt, r_ge, r_eqI, r_neI, r_eqS, r_neS, r_inS, r_niS, b_int, b_intB, b_abs, b_lenS, b_strS, r_addS, r_isN, r_eqB, r_neB, List.getElem?_cons_zero, List.getElem?_cons_succ, List.set_cons_zero, List.set_cons_succ, List.map_cons, List.map_nil, List.length_cons, List.length_nil, Nat.reduceAdd, Nat.reduceSub, List.replicate_succ, List.replicate_zero, List.cons_append, List.nil_append, List.append_nil, Bool.not_true, Bool.not_false, if_true, if_false, ite_true, ite_false, Bool.false_eq_true, Bool.true_eq_false, reduceIte]
  refine ⟨by decide, fun L4 hL4 => ?_⟩
  have xL4 := Ext.new (H := H17) (o := .lst [.str (S tFile), .str (S tFolder)]) hL4
  have eL4 : upd H17 L4 (.lst [.str (S tFile), .str (S tFolder)]) L4 = some (.lst [.str (S tFile), .str (S tFolder)]) := upd_same
  generalize upd H17 L4 (.lst [.str (S tFile), .str (S tFolder)]) = H18 at xL4 eL4 ⊢
  refine c_pickL (m := m) (P17.ext xL4) (by omega) (.inl (.inl eL4)) (P17.ne hL4).1 ⟨by simp, by simp⟩ fun j v6 H19 hv6 P19 x19 => ?_
  have t2 := (t2.ext xL4).extP (P17.ext xL4) x19
  have t3 := (t3.ext xL4).extP (P17.ext xL4) x19
  obtain ⟨fo, rfl, hf⟩ : ∃ fo, v6 = .str (S fo) ∧ (fo = tFile ∨ fo = tFolder) := by
    have hm := List.mem_of_getElem? hv6
    simp only [List.mem_cons, List.not_mem_nil, or_false] at hm
    rcases hm with e | e
    · exact ⟨_, e, .inl rfl⟩
    · exact ⟨_, e, .inr rfl⟩
  refine ⟨by decide, fun u hu => ?_⟩
  have xu := Ext.new (H := H19) (o := .tup [.str (S fo), v2, v3, .int (mu : Nat), .int (ne : Nat)]) hu
  exact h u fo ow gr mu ne _ ⟨⟨v2, v3, upd_same, t2.ext xu, t3.ext xu⟩, hf, w2, w3, b4, by omega, k1⟩ (P19.ext xu) (y17.trans (xL4.toP.trans (x19.trans xu.toP)))
end U

namespace U
open PySem PySem.Spec PyProof.Rows L2
variable {K : PySem.W.Frag} {w : World} {n m : Nat} {H : Hp} {Q : VK} {E : XK}
section
variable {u : Addr} {fo f o g : List Nat} {ow gr : ON} {mu ne : Nat}
theorem c_made (hT : hd.Tups K) (ht : Td H u fo ow gr mu ne) (hn : 5 ≤ n) (h : ∀ x H', Ext H H' → Ln K H' x fo ow gr mu ne → Q (.ref x) H') : run hd.pg K w n s__law_line_made [.ref u] H Q E := by
  obtain ⟨vo, vg, hu, h2, h3⟩ := ht.hu
  have b1 := ht.b1
  have b2 := ht.b2
  refine run_at f__law_line_made (by omega) rfl ?_
  simp only [d__law_line_made, b__law_line_made, L2.start, e_k, e_v, e_g, e_bop, e_uop, e_not, e_and, e_or, e_ite, e_cmp, e_cmp2, e_lst, e_tup, e_call, e_mk, e_bi, e_isi, e_meth, e_bm, e_icall, e_ostr, e_att, e_ix, e_sl, e_isiM, e_methk, e_smeth, e_cmeth, e_mkv, e_mkk, kw_nil, e_oeq, e_eatt, e_eisi, e_one, e_rep, e_fmt, e_callk, e_xcmp, e_obin, e_oinv, e_oin, e_olen, e_obool, e_cat, e_fo3, e_rev, e_rgl, e_oeqs, t_v, t_isi, t_call, t_meth, t_bop, t_bi, t_att, t_not, t_and, t_or, t_cmp, t_cmp2, trQ_bl, blQ_bl, t_methk, t_smeth, t_oeq, t_eisi, t_ix, t_icall, t_one, t_callk, t_oin, t_obin, t_xcmp, t_oeqs, a_nil', a_cons, s_nil, s_cons, s_set, s_setLc, s_par, s_expr, s_ret, s_retN, s_if, s_never, s_pass, s_brk, s_cont, s_par3, s_oaug, s_raise, g_v', g_tup, g_sub, g_att, gs_nil, gs_cons, gs_tup, g_unl, i_L, i_T, i_S, i_R1, i_ES, i_E, i_Z, p_nil, p_pair, o_nil, o_k, o_v, o_bop, o_uop, o_bi, o_ix, oQ_int, o_att, o_call, i_ET, i_R2, x_K, x_w, x_fn, x_gv, x_tabs, x_mth, x_prp, x_fld, x_isi, x_kwo, x_dfl, x_xf, x_exm, x_eis, x_lt, x_lfn, x_smt, x_cmt, x_cvl, y_cvl, x_opr, y_opr, y_cmt, y_K, y_w, y_fn, y_gv, y_tabs, y_mth, y_prp, y_fld, y_isi, y_kwo, y_dfl, y_xf, y_exm, y_eis, y_smt, isi_int, isi_str, isi_bl, isi_non, ii1, ii2, ii3, ii4, ii5, ii6, ii7, it1, it2, it3, it4, it5, it6, it7, it8, it9, it10, it11, it12, it13, r_add, r_sub, r_mul, r_div, r_mod, r_pow, r_shl, r_shr, r_and, r_or, r_xor, r_neg, r_inv, r_lt, r_le, r_gt, r_ge, r_eqI, r_neI, r_eqS, r_neS, r_inS, r_niS, b_int, b_intB, b_abs, b_lenS, b_strS, r_addS, r_isN, r_eqB, r_neB, List.getElem?_cons_zero, List.getElem?_cons_succ, List.set_cons_zero, List.set_cons_succ, List.map_cons, List.map_nil, List.length_cons, List.length_nil, Nat.reduceAdd, Nat.reduceSub, List.replicate_succ, List.replicate_zero, List.cons_append, List.nil_append, List.append_nil, Bool.not_true, Bool.not_false, if_true, if_false, ite_true, ite_false, Bool.false_eq_true, Bool.true_eq_false, reduceIte]
  refine ⟨_, .inl (.inl hu), rfl, ?_⟩
  simp only [gs_cons, gs_nil, g_v', e_k, e_v, e_g, e_bop, e_uop, e_not, e_and, e_or, e_ite, e_cmp, e_cmp2, e_lst, e_tup, e_call, e_mk, e_bi, e_isi, e_meth, e_bm, e_icall, e_ostr, e_att, e_ix, e_sl, e_isiM, e_methk, e_smeth, e_cmeth, e_mkv, e_mkk, kw_nil, e_oeq, e_eatt, e_eisi, e_one, e_rep, e_fmt, e_callk, e_xcmp, e_obin, e_oinv, e_oin, e_olen, e_obool, e_cat, e_fo3, e_rev, e_rgl, e_oeqs, t_v, t_isi, t_call, t_meth, t_bop, t_bi, t_att, t_not, t_and, t_or, t_cmp, t_cmp2, trQ_bl, blQ_bl, t_methk, t_smeth, t_oeq, t_eisi, t_ix, t_icall, t_one, t_callk, t_oin, t_obin, t_xcmp, t_oeqs, a_nil', a_cons, s_nil, s_cons, s_set, s_setLc, s_par, s_expr, s_ret, s_retN, s_if, s_never, s_pass, s_brk, s_cont, s_par3, s_oaug, s_raise, g_v', g_tup, g_sub, g_att, gs_nil, gs_cons, gs_tup, g_unl, i_L, i_T, i_S, i_R1, i_ES, i_E, i_Z, p_nil, p_pair, o_nil, o_k, o_v, o_bop, o_uop, o_bi, o_ix, oQ_int, o_att, o_call, i_ET, i_R2, x_K, x_w, x_fn, x_gv, x_tabs, x_mth, x_prp, x_fld, x_isi, x_kwo, x_dfl, x_xf, x_exm, x_eis, x_lt, x_lfn, x_smt, x_cmt, x_cvl, y_cvl, x_opr, y_opr, y_cmt, y_K, y_w, y_fn, y_gv, y_tabs, y_mth, y_prp, y_fld, y_isi, y_kwo, y_dfl, y_xf, y_exm, y_eis, y_smt, isi_int, isi_str, isi_bl, isi_non, ii1, ii2, ii3, ii4, ii5, ii6, ii7, it1, it2, it3, it4, it5, it6, it7, it8, it9, it10, it11, it12, it13, r_add, r_sub, r_mul, r_div, r_mod, r_pow, r_shl, r_shr, r_and, r_or, r_xor, r_neg, r_inv, r_lt, r_le, r_gt, r_ge, r_eqI, r_neI, r_eqS, r_neS, r_inS, r_niS, b_int, b_intB, b_abs, b_lenS, b_strS, r_addS, r_isN, r_eqB, r_neB, List.getElem?_cons_zero, List.getElem?_cons_succ, List.set_cons_zero, List.set_cons_succ, List.map_cons, List.map_nil, List.length_cons, List.length_nil, Nat.reduceAdd, Nat.reduceSub, List.replicate_succ, List.replicate_zero, List.cons_append, List.nil_append, List.append_nil, Bool.not_true, Bool.not_false, if_true, if_false, ite_true, ite_false, Bool.false_eq_true, Bool.true_eq_false, reduceIte]
  refine ⟨trivial, ?_⟩
  exact mk_Line (by omega) hT ht.f h2 ht.w1 h3 ht.w2 (.inr rfl) ⟨by omega, by omega⟩ (.inr rfl) ⟨by omega, by omega⟩ ht.b3 fun x H' x1 l => h x H' x1 l
/-- what lets must tell -/
def okLet (fo f o g : List Nat) (ow gr : ON) (mu ne b : Int) : Bool := (f == fo) && ((okN o ow && okN g gr) && ((Builtin.bitAnd b mu == mu) && (Builtin.bitAnd b ne == 0)))
theorem c_llets {b : Int} (ht : Td H u fo ow gr mu ne) (hn : 1 ≤ n) (h : Q (.bl (okLet fo f o g ow gr mu ne b)) H) : run hd.pg K w n s__law_lets [.ref u, .str (S f), .int b, .str (S o), .str (S g)] H Q E := by
  obtain ⟨vo, vg, hu, h2, h3⟩ := ht.hu
  refine run_at f__law_lets (by omega) rfl ?_
  unfold okLet at h
  show (rd _ b__law_lets _).s _ _ _
  have eb : b__law_lets = .cons (nthI 0 b__law_lets) (tailI 1 b__law_lets) := rfl
  -- the last rows
  have last : f = fo → okN o ow = true → (rd (hd.pg.ctx K w (run hd.pg K w (n - 1))) (tailI 1 b__law_lets) fun cls dd _ H' => E cls dd H').s { nx := fun _ H' => Q .non H', rt := Q } [some (.ref u), some (.str (S f)), some (.int b), some (.str (S o)), some (.str (S g))] H := fun ef eo => by
    rw [ef, eo, beq_self_eq_true, Bool.true_and, Bool.true_and] at h
    simp only [tailI, b__law_lets, e_k, e_v, e_g, e_bop, e_uop, e_not, e_and, e_or, e_ite, e_cmp, e_cmp2, e_lst, e_tup, e_call, e_mk, e_bi, e_isi, e_meth, e_bm, e_icall, e_ostr, e_att, e_ix, e_sl, e_isiM, e_methk, e_smeth, e_cmeth, e_mkv, e_mkk, kw_nil, e_oeq, e_eatt, e_eisi, e_one, e_rep, e_fmt, e_callk, e_xcmp, e_obin, e_oinv, e_oin, e_olen, e_obool, e_cat, e_fo3, e_rev, e_rgl, e_oeqs, t_v, t_isi, t_call, t_meth, t_bop, t_bi, t_att, t_not, t_and, t_or, t_cmp, t_cmp2, trQ_bl, blQ_bl, t_methk, t_smeth, t_oeq, t_eisi, t_ix, t_icall, t_one, t_callk, t_oin, t_obin, t_xcmp, t_oeqs, a_nil', a_cons, s_nil, s_cons, s_set, s_setLc, s_par, s_expr, s_ret, s_retN, s_if, s_never, s_pass, s_brk, s_cont, s_par3, s_oaug, s_raise, g_v', g_tup, g_sub, g_att, gs_nil, gs_cons, gs_tup, g_unl, i_L, i_T, i_S, i_R1, i_ES, i_E, i_Z, p_nil, p_pair, o_nil, o_k, o_v, o_bop, o_uop, o_bi, o_ix, oQ_int, o_att, o_call, i_ET, i_R2, x_K, x_w, x_fn, x_gv, x_tabs, x_mth, x_prp, x_fld, x_isi, x_kwo, x_dfl, x_xf, x_exm, x_eis, x_lt, x_lfn, x_smt, x_cmt, x_cvl, y_cvl, x_opr, y_opr, y_cmt, y_K, y_w, y_fn, y_gv, y_tabs, y_mth, y_prp, y_fld, y_isi, y_kwo, y_dfl, y_xf, y_exm, y_eis, y_smt, isi_int, isi_str, isi_bl, isi_non, ii1, ii2, ii3, ii4, ii5, ii6, ii7, it1, it2, it3, it4, it5, it6, it7, it8, it9, it10, it11, it12, it13, r_add, r_sub, r_mul, r_div, r_mod, r_pow, r_shl, r_shr, r_and, r_or, r_xor, r_neg, r_inv, r_lt, r_le, r_gt, r_ge, r_eqI, r_neI, r_eqS, r_neS, r_inS, r_niS, b_int, b_intB, b_abs, b_lenS, b_strS, r_addS, r_isN, r_eqB, r_neB, List.getElem?_cons_zero, List.getElem?_cons_succ, List.set_cons_zero, List.set_cons_succ, List.map_cons, List.map_nil, List.length_cons, List.length_nil, Nat.reduceAdd, Nat.reduceSub, List.replicate_succ, List.replicate_zero, List.cons_append, List.nil_append, List.append_nil, Bool.not_true, Bool.not_false, if_true, if_false, ite_true, ite_false, Bool.false_eq_true, Bool.true_eq_false, reduceIte]
    refine x_ixT hu (i := 2) rfl ?_
    rw [r_isnN]
    have fin : okN g gr = true → rIxU K w hd.pg.tabs (.ref u) (.int 3) H fun y H1 => rBin K .BitAnd (.int b) y H1 fun x H2 => rIxU K w hd.pg.tabs (.ref u) (.int 3) H2 fun y H3 => rCmp K w hd.pg.tabs .Eq x y H3 (blQ fun c H4 => if c = true then rIxU K w hd.pg.tabs (.ref u) (.int 4) H4 fun y H5 => rBin K .BitAnd (.int b) y H5 fun x H6 => rCmp K w hd.pg.tabs .Eq x (.int 0) H6 Q else Q (.bl false) H4) := fun eg => by
      rw [eg, Bool.true_and] at h
      refine x_ixT hu (i := 3) rfl ?_
      rw [r_and]
      refine x_ixT hu (i := 3) rfl ?_
      rw [r_eqI, blQ_bl]
      cases e3 : Builtin.bitAnd b mu == mu with
      | false =>
        rw [e3, Bool.false_and] at h
        exact h
      | true =>
        rw [e3, Bool.true_and] at h
        rw [if_pos rfl]
        refine x_ixT hu (i := 4) rfl ?_
        rw [r_and, r_eqI]
        exact h
    cases gr with
    | none =>
      obtain rfl : vg = .non := h3
      exact fin rfl
    | some ls =>
      obtain ⟨t, rfl, ht⟩ := h3
      rw [blQ_bl, if_pos (by rfl)]
      refine x_ixT hu (i := 2) rfl ?_
      refine r_niL (.inl (.inl (.inl ht))) rfl (flat_strs _) ?_
      rw [inV_strs]
      cases e : ls.contains g with
      | true => exact fin e
      | false =>
        rw [show okN g (some ls) = false from e, Bool.false_and] at h
        exact h
  rw [eb]
  generalize tailI 1 b__law_lets = R at last ⊢
  simp only [nthI, d__law_lets, b__law_lets, L2.start, e_k, e_v, e_g, e_bop, e_uop, e_not, e_and, e_or, e_ite, e_cmp, e_cmp2, e_lst, e_tup, e_call, e_mk, e_bi, e_isi, e_meth, e_bm, e_icall, e_ostr, e_att, e_ix, e_sl, e_isiM, e_methk, e_smeth, e_cmeth, e_mkv, e_mkk, kw_nil, e_oeq, e_eatt, e_eisi, e_one, e_rep, e_fmt, e_callk, e_xcmp, e_obin, e_oinv, e_oin, e_olen, e_obool, e_cat, e_fo3, e_rev, e_rgl, e_oeqs, t_v, t_isi, t_call, t_meth, t_bop, t_bi, t_att, t_not, t_and, t_or, t_cmp, t_cmp2, trQ_bl, blQ_bl, t_methk, t_smeth, t_oeq, t_eisi, t_ix, t_icall, t_one, t_callk, t_oin, t_obin, t_xcmp, t_oeqs, a_nil', a_cons, s_nil, s_cons, s_set, s_setLc, s_par, s_expr, s_ret, s_retN, s_if, s_never, s_pass, s_brk, s_cont, s_par3, s_oaug, s_raise, g_v', g_tup, g_sub, g_att, gs_nil, gs_cons, gs_tup, g_unl, i_L, i_T, i_S, i_R1, i_ES, i_E, i_Z, p_nil, p_pair, o_nil, o_k, o_v, o_bop, o_uop, o_bi, o_ix, oQ_int, o_att, o_call, i_ET, i_R2, x_K, x_w, x_fn, x_gv, x_tabs, x_mth, x_prp, x_fld, x_isi, x_kwo, x_dfl, x_xf, x_exm, x_eis, x_lt, x_lfn, x_smt, x_cmt, x_cvl, y_cvl, x_opr, y_opr, y_cmt, y_K, y_w, y_fn, y_gv, y_tabs, y_mth, y_prp, y_fld, y_isi, y_kwo, y_dfl, y_xf, y_exm, y_eis, y_smt, isi_int, isi_str, isi_bl, isi_non, ii1, ii2, ii3, ii4, ii5, ii6, ii7, it1, it2, it3, it4, it5, it6, it7, it8, it9, it10, it11, it12, it13, r_add, r_sub, r_mul, r_div, r_mod, r_pow, r_shl, r_shr, r_and, r_or, r_xor, r_neg, r_inv, r_lt, r_le, r_gt, r_ge, r_eqI, r_neI, r_eqS, r_neS, r_inS, r_niS, b_int, b_intB, b_abs, b_lenS, b_strS, r_addS, r_isN, r_eqB, r_neB, List.getElem?_cons_zero, List.getElem?_cons_succ, List.set_cons_zero, List.set_cons_succ, List.map_cons, List.map_nil, List.length_cons, List.length_nil, Nat.reduceAdd, Nat.reduceSub, List.replicate_succ, List.replicate_zero, List.cons_append, List.nil_append, List.append_nil, Bool.not_true, Bool.not_false, if_true, if_false, ite_true, ite_false, Bool.false_eq_true, Bool.true_eq_false, reduceIte]
  refine x_ixT hu (i := 0) rfl ?_
  rw [r_neS, SX.S_beq, show (fo == f) = (f == fo) from BEq.comm]
  cases e : f == fo with
  | false =>
    rw [e, Bool.false_and] at h
    exact h
  | true =>
    have e := eq_of_beq e
    rw [blQ_bl, if_neg (by decide)]
    refine x_ixT hu (i := 1) rfl ?_
    rw [r_isnN]
    cases ow with
    | none =>
      obtain rfl : vo = .non := h2
      exact last e rfl
    | some ls =>
      obtain ⟨t, rfl, ht⟩ := h2
      rw [blQ_bl, if_pos (by rfl)]
      refine x_ixT hu (i := 1) rfl ?_
      refine r_niL (.inl (.inl (.inl ht))) rfl (flat_strs _) ?_
      rw [inV_strs]
      cases e2 : ls.contains o with
      | true => exact last e e2
      | false =>
        rw [show okN o (some ls) = false from e2, Bool.false_and, Bool.false_and, Bool.and_false] at h
        exact h
end
end U

namespace U
open PySem PySem.Spec PyProof.Rows L2
variable {K : PySem.W.Frag} {w : World} {n m : Nat} {H : Hp} {Q : VK} {E : XK}
theorem xor_ok : ∀ mu : Nat, mu < 512 → ∀ i : Nat, i < 9 → 0 ≤ Builtin.bitXor (mu : Int) (1 * 2 ^ ((i : Int)).toNat) ∧ Builtin.bitXor (mu : Int) (1 * 2 ^ ((i : Int)).toNat) ≤ 511 := by decide +kernel
theorem dp_bls {H : Hp} {L : Addr} {bs : List Bool} (h : H L = some (.lst (bs.map V.bl))) : Dp K H (.ref L) (.list (bs.map .bool)) := by
  refine .lst (.inl (.inl h)) ?_
  clear h
  induction bs with
  | nil => exact .nil
  | cons b r ih => exact .cons (.bl b) ih
section
variable {p l u x q : Addr} {fo f o g : List Nat} {ow gr : ON} {mu ne b : Nat} {v4 v5 : Option V}
theorem lets_end (hx : Ln K H x fo ow gr mu ne) (ht : Td H u fo ow gr mu ne) (hb : b < 512) (hn : 4 ≤ n) (h : ∀ H', Ext H H' → Q (.bl true) H') :
    (rd (hd.pg.ctx K w (run hd.pg K w (n - 1))) (tailI 5 b__law_lets_right) fun cls dd _ H' => E cls dd H').s { nx := fun _ H' => Q .non H', rt := Q } [some (.ref p), some (.ref u), some (.ref x), some (.ref q), v4, v5, some (.int (b : Nat)), some (.str (S f)), some (.str (S o)), some (.str (S g)), none] H := by
  simp only [tailI, b__law_lets_right, e_k, e_v, e_g, e_bop, e_uop, e_not, e_and, e_or, e_ite, e_cmp, e_cmp2, e_lst, e_tup, e_call, e_mk, e_bi, e_isi, e_meth, e_bm, e_icall, e_ostr, e_att, e_ix, e_sl, e_isiM, e_methk, e_smeth, e_cmeth, e_mkv, e_mkk, kw_nil, e_oeq, e_eatt, e_eisi, e_one, e_rep, e_fmt, e_callk, e_xcmp, e_obin, e_oinv, e_oin, e_olen, e_obool, e_cat, e_fo3, e_rev, e_rgl, e_oeqs, t_v, t_isi, t_call, t_meth, t_bop, t_bi, t_att, t_not, t_and, t_or, t_cmp, t_cmp2, trQ_bl, blQ_bl, t_methk, t_smeth, t_oeq, t_eisi, t_ix, t_icall, t_one, t_callk, t_oin, t_obin, t_xcmp, t_oeqs, a_nil', a_cons, s_nil, s_cons, s_set, s_setLc, s_par, s_expr, s_ret, s_retN, s_if, s_never, s_pass, s_brk, s_cont, s_par3, s_oaug, s_raise, g_v', g_tup, g_sub, g_att, gs_nil, gs_cons, gs_tup, g_unl, i_L, i_T, i_S, i_R1, i_ES, i_E, i_Z, p_nil, p_pair, o_nil, o_k, o_v, o_bop, o_uop, o_bi, o_ix, oQ_int, o_att, o_call, i_ET, i_R2, x_K, x_w, x_fn, x_gv, x_tabs, x_mth, x_prp, x_fld, x_isi, x_kwo, x_dfl, x_xf, x_exm, x_eis, x_lt, x_lfn, x_smt, x_cmt, x_cvl, y_cvl, x_opr, y_opr, y_cmt, y_K, y_w, y_fn, y_gv, y_tabs, y_mth, y_prp, y_fld, y_isi, y_kwo, y_dfl, y_xf, y_exm, y_eis, y_smt, isi_int, isi_str, isi_bl, isi_non, ii1, ii2, ii3, ii4, ii5, ii6, ii7, it1, it2, it3, it4, it5, it6, it7, it8, it9, it10, it11, it12, it13, r_add, r_sub, r_mul, r_div, r_mod, r_pow, r_shl, r_shr, r_and, r_or, r_xor, r_neg, r_inv, r_lt, r_le, r_gt, r_ge, r_eqI, r_neI, r_eqS, r_neS, r_inS, r_niS, b_int, b_intB, b_abs, b_lenS, b_strS, r_addS, r_isN, r_eqB, r_neB, List.getElem?_cons_zero, List.getElem?_cons_succ, List.set_cons_zero, List.set_cons_succ, List.map_cons, List.map_nil, List.length_cons, List.length_nil, Nat.reduceAdd, Nat.reduceSub, List.replicate_succ, List.replicate_zero, List.cons_append, List.nil_append, List.append_nil, Bool.not_true, Bool.not_false, if_true, if_false, ite_true, ite_false, Bool.false_eq_true, Bool.true_eq_false, reduceIte]
  obtain ⟨dx, vo, vg, pm, pn, h1, _⟩ := id hx
  refine ⟨s_Line, dx, _, _, h1, mthLe, rfl, c_lets (b := (b : Nat)) hx (.inr rfl) ⟨by omega, by omega⟩ (by omega) ?_⟩
  refine ⟨s_Line, dx, _, _, h1, mthLe, rfl, mk_Mode (b := (b : Nat)) (by omega) ⟨by omega, by omega⟩ fun mo H1 x1 hm => ?_⟩
  refine c_lets (b := (b : Nat)) (hx.ext x1) (.inl ⟨mo, rfl, hm⟩) ⟨by omega, by omega⟩ (by omega) ?_

  generalize hr : ((f == fo) && ((okN o ow && okN g gr) && ((Builtin.bitAnd (b : Int) (mu : Int) == (mu : Int)) && (Builtin.bitAnd (b : Int) (ne : Int) == 0)))) = r
  try simp only [e_k, e_v, e_g, e_bop, e_uop, e_not, e_and, e_or, e_ite, e_cmp, e_cmp2, e_lst, e_tup, e_call, e_mk, e_bi, e_isi, e_meth, e_bm, e_icall, e_ostr, e_att, e_ix, e_sl, e_isiM, e_methk, e_smeth, e_cmeth, e_mkv, e_mkk, kw_nil, e_oeq, e_eatt, e_eisi, e_one, e_rep, e_fmt, e_callk, e_xcmp, e_obin, e_oinv, e_oin, e_olen, e_obool, e_cat, e_fo3, e_rev, e_rgl, e_oeqs, t_v, t_isi, t_call, t_meth, t_bop, t_bi, t_att, t_not, t_and, t_or, t_cmp, t_cmp2, trQ_bl, blQ_bl, t_methk, t_smeth, t_oeq, t_eisi, t_ix, t_icall, t_one, t_callk, t_oin, t_obin, t_xcmp, t_oeqs, a_nil', a_cons, s_nil, s_cons, s_set, s_setLc, s_par, s_expr, s_ret, s_retN, s_if, s_never, s_pass, s_brk, s_cont, s_par3, s_oaug, s_raise, g_v', g_tup, g_sub, g_att, gs_nil, gs_cons, gs_tup, g_unl, i_L, i_T, i_S, i_R1, i_ES, i_E, i_Z, p_nil, p_pair, o_nil, o_k, o_v, o_bop, o_uop, o_bi, o_ix, oQ_int, o_att, o_call, i_ET, i_R2, x_K, x_w, x_fn, x_gv, x_tabs, x_mth, x_prp, x_fld, x_isi, x_kwo, x_dfl, x_xf, x_exm, x_eis, x_lt, x_lfn, x_smt, x_cmt, x_cvl, y_cvl, x_opr, y_opr, y_cmt, y_K, y_w, y_fn, y_gv, y_tabs, y_mth, y_prp, y_fld, y_isi, y_kwo, y_dfl, y_xf, y_exm, y_eis, y_smt, isi_int, isi_str, isi_bl, isi_non, ii1, ii2, ii3, ii4, ii5, ii6, ii7, it1, it2, it3, it4, it5, it6, it7, it8, it9, it10, it11, it12, it13, r_add, r_sub, r_mul, r_div, r_mod, r_pow, r_shl, r_shr, r_and, r_or, r_xor, r_neg, r_inv, r_lt, r_le, r_gt, r_ge, r_eqI, r_neI, r_eqS, r_neS, r_inS, r_niS, b_int, b_intB, b_abs, b_lenS, b_strS, r_addS, r_isN, r_eqB, r_neB, List.getElem?_cons_zero, List.getElem?_cons_succ, List.set_cons_zero, List.set_cons_succ, List.map_cons, List.map_nil, List.length_cons, List.length_nil, Nat.reduceAdd, Nat.reduceSub, List.replicate_succ, List.replicate_zero, List.cons_append, List.nil_append, List.append_nil, Bool.not_true, Bool.not_false, if_true, if_false, ite_true, ite_false, Bool.false_eq_true, Bool.true_eq_false, reduceIte]
  refine ⟨by decide, fun L hL => ?_⟩
  have xL := Ext.new (H := H1) (o := .lst [.bl r, .bl r]) hL
  have eL : upd H1 L (.lst [.bl r, .bl r]) L = some (.lst [.bl r, .bl r]) := upd_same
  generalize upd H1 L (.lst [.bl r, .bl r]) = H2 at xL eL ⊢
  have y2 := x1.trans xL
  refine ⟨.inl ⟨rfl, _, .inl (.inl eL)⟩, s_Line, dx, _, _, y2.get h1, mthLe, rfl, kw_ok rfl rfl rfl (c_lets (b := (b : Nat)) (hx.ext y2) (.inr rfl) ⟨by omega, by omega⟩ (by omega) ?_)⟩
  rw [hr]
  refine ⟨L, [.bl r, .bl r], .bl r, rfl, rfl, eL, by simp; decide, ?_⟩
  have hL0 := none_of x1 hL
  have y3 : Ext H (upd H2 L (.lst ([.bl r, .bl r] ++ [.bl r]))) := y2.put hL0
  have e3 : upd H2 L (.lst ([.bl r, .bl r] ++ [.bl r])) L = some (.lst ([r, r, r].map V.bl)) := upd_same
  show rRep _ _ (upd H2 L (.lst ([.bl r, .bl r] ++ [.bl r]))) _
  generalize upd H2 L (.lst ([.bl r, .bl r] ++ [.bl r])) = H3 at y3 e3 ⊢
  refine rep_sm (dp_bls e3) (Sm.lst Sm.bools) (by simp) (by decide) ?_
  refine c_llets (ht.ext y3) (by omega) ?_
  rw [show okLet fo f o g ow gr mu ne b = r from hr]
  refine ⟨by decide, fun M hM => ?_⟩
  have xM := Ext.new (H := H3) (o := .lst [.bl r]) hM
  have eM : upd H3 M (.lst [.bl r]) M = some (.lst [.bl r]) := upd_same
  generalize upd H3 M (.lst [.bl r]) = H4 at xM eM ⊢
  refine ⟨M, 3, [.bl r], rfl, rfl, eM, by decide, by decide, by simp; decide, fun N hN => ?_⟩
  have xN := Ext.new (H := H4) (o := .lst ([r, r, r].map V.bl)) hN
  have eN : upd H4 N (.lst ([r, r, r].map V.bl)) N = some (.lst ([r, r, r].map V.bl)) := upd_same
  show rRep _ _ (upd H4 N (.lst ([r, r, r].map V.bl))) _
  generalize upd H4 N (.lst ([r, r, r].map V.bl)) = H5 at xN eN ⊢
  refine rep_sm (dp_bls eN) (Sm.lst Sm.bools) (by simp) (by decide) ?_
  rw [r_eqS, beq_self_eq_true]
  exact h H5 (y3.trans (xM.trans xN))
theorem pick_tell {p l : Addr} {v : V} {o : ON} (hP : PenL H p l (m + 1)) (hv : ToL H v o) (ho : Tw o) (hn : 2 ≤ n) (hne : v ≠ .non) (h : ∀ z H', PenL H' p l m → ExtP p H H' → Q (.str (S z)) H') : run hd.pg K w n s__law_pick [.ref p, v] H Q E := by
  cases o with
  | none => exact absurd hv hne
  | some ls =>
    obtain ⟨q, rfl, hq⟩ := hv
    obtain ⟨h1, h2, h3, h4⟩ := ho
    refine c_pickL (m := m) hP hn (.inl (.inl hq)) (hP.neq hq stV_ne) ⟨by rw [List.length_map]; omega, by rw [List.length_map]; omega⟩ fun i v H1 hv P1 x1 => ?_
    obtain ⟨z, hz, rfl⟩ := List.mem_map.mp (List.mem_of_getElem? hv)
    exact h z H1 P1 x1
theorem c_lets_right {ns : List (List Nat)} (hP : PenL H p l (m + 9)) (hx : Ln K H x fo ow gr mu ne) (ht : Td H u fo ow gr mu ne) (hq : H q = some (.lst (stV ns))) (h4 : N4 ns) (hn : 4 ≤ n) (h : ∀ H', PenL H' p l m → ExtP p H H' → Q (.bl true) H') : run hd.pg K w n s__law_lets_right [.ref p, .ref u, .ref x, .ref q] H Q E := by
  refine run_at f__law_lets_right (by omega) rfl ?_
  have last := @lets_end K w n
  show (rd _ b__law_lets_right _).s _ _ _
  rw [s_split 5 rfl]
  generalize tailI 5 b__law_lets_right = R at last ⊢
  simp only [headI, d__law_lets_right, b__law_lets_right, L2.start, e_k, e_v, e_g, e_bop, e_uop, e_not, e_and, e_or, e_ite, e_cmp, e_cmp2, e_lst, e_tup, e_call, e_mk, e_bi, e_isi, e_meth, e_bm, e_icall, e_ostr, e_att, e_ix, e_sl, e_isiM, e_methk, e_smeth, e_cmeth, e_mkv, e_mkk, kw_nil, e_oeq, e_eatt, e_eisi, e_one, e_rep, e_fmt, e_callk, e_xcmp, e_obin, e_oinv, e_oin, e_olen, e_obool, e_cat, e_fo3, e_rev, e_rgl, e_oeqs, t_v, t_isi, t_call, t_meth, t_bop, t_bi, t_att, t_not, t_and, t_or, t_cmp, t_cmp2, trQ_bl, blQ_bl, t_methk, t_smeth, t_oeq, t_eisi, t_ix, t_icall, t_one, t_callk, t_oin, t_obin, t_xcmp, t_oeqs, a_nil', a_cons, s_nil, s_cons, s_set, s_setLc, s_par, s_expr, s_ret, s_retN, s_if, s_never, s_pass, s_brk, s_cont, s_par3, s_oaug, s_raise, g_v', g_tup, g_sub, g_att, gs_nil, gs_cons, gs_tup, g_unl, i_L, i_T, i_S, i_R1, i_ES, i_E, i_Z, p_nil, p_pair, o_nil, o_k, o_v, o_bop, o_uop, o_bi, o_ix, oQ_int, o_att, o_call, i_ET, i_R2, x_K, x_w, x_fn, x_gv, x_tabs, x_mth, x_prp, x_fld, x_isi, x_kwo, x_dfl, x_xf, x_exm, x_eis, x_lt, x_lfn, x_smt, x_cmt, x_cvl, y_cvl, x_opr, y_opr, y_cmt, y_K, y_w, y_fn, y_gv, y_tabs, y_mth, y_prp, y_fld, y_isi, y_kwo, y_dfl, y_xf, y_exm, y_eis, y_smt, isi_int, isi_str, isi_bl, isi_non, ii1, ii2, ii3, ii4, ii5, ii6, ii7, it1, it2, it3, it4, it5, it6, it7, it8, it9, it10, it11, it12, it13, r_add, r_sub, r_mul, r_div, r_mod, r_pow, r_shl, r_shr, r_and, r_or, r_xor, r_neg, r_inv, r_lt, r_le, r_gt, r_ge, r_eqI, r_neI, r_eqS, r_neS, r_inS, r_niS, b_int, b_intB, b_abs, b_lenS, b_strS, r_addS, r_isN, r_eqB, r_neB, List.getElem?_cons_zero, List.getElem?_cons_succ, List.set_cons_zero, List.set_cons_succ, List.map_cons, List.map_nil, List.length_cons, List.length_nil, Nat.reduceAdd, Nat.reduceSub, List.replicate_succ, List.replicate_zero, List.cons_append, List.nil_append, List.append_nil, Bool.not_true, Bool.not_false, if_true, if_false, ite_true, ite_false, Bool.false_eq_true, Bool.true_eq_false, reduceIte]
  refine c_drawL (m := m + 8) hP (by omega) (by decide) fun i H1 i0 i1 P1 x1 => ?_
  obtain ⟨i, rfl⟩ : ∃ k : Nat, i = k := ⟨i.toNat, by omega⟩
  have b1 := ht.b1
  have b2 := ht.b2
  have ht := ht.extQ hP x1
  have hx := hx.extQ hP x1
  have hq1 := x1.get (hP.neq hq stV_ne) hq
  obtain ⟨vo, vg, hu, t2, t3⟩ := ht.hu
  refine ⟨⟨by omega, by omega, by decide⟩, ?_⟩
  refine x_ixT hu (i := 3) rfl ?_
  refine x_ixT hu (i := 3) rfl ?_
  rw [r_xor]
  refine x_ixT hu (i := 4) rfl ?_
  rw [r_sub]
  refine x_ixT hu (i := 4) rfl ?_
  rw [r_sub, r_xor]
  obtain ⟨c1, e1⟩ : ∃ k : Nat, Builtin.bitXor (mu : Int) (1 * 2 ^ ((i : Int)).toNat) = (k : Nat) ∧ k < 512 := by
    have := xor_ok mu b1 i (by omega)
    exact ⟨(Builtin.bitXor (mu : Int) (1 * 2 ^ ((i : Int)).toNat)).toNat, by omega, by omega⟩
  obtain ⟨c2, e2⟩ : ∃ k : Nat, Builtin.bitXor (511 - (ne : Int)) (1 * 2 ^ ((i : Int)).toNat) = (k : Nat) ∧ k < 512 := by
    have := xor_ok (511 - ne) (by omega) i (by omega)
    rw [show ((511 - ne : Nat) : Int) = 511 - (ne : Int) by omega] at this
    exact ⟨(Builtin.bitXor (511 - (ne : Int)) (1 * 2 ^ ((i : Int)).toNat)).toNat, by omega, by omega⟩
  rw [e1.1, e2.1, show (511 : Int) - (ne : Int) = ((511 - ne : Nat) : Int) by omega]
  refine c_drawL (m := m + 7) P1 (by omega) (by decide) fun j H2 j0 j1 P2 x2 => ?_
  obtain ⟨j, rfl⟩ : ∃ k : Nat, j = k := ⟨j.toNat, by omega⟩
  have hq2 := x2.get (P1.neq hq1 stV_ne) hq1
  have ht := ht.extQ P1 x2
  have hx := hx.extQ P1 x2
  refine ⟨by decide, fun L hL => ?_⟩
  have xL := Ext.new (H := H2) (o := .lst [.int (mu : Nat), .int (c1 : Nat), .int ((511 - ne : Nat) : Int), .int (c2 : Nat), .int (j : Nat)]) hL
  have eL : upd H2 L (.lst [.int (mu : Nat), .int (c1 : Nat), .int ((511 - ne : Nat) : Int), .int (c2 : Nat), .int (j : Nat)]) L = some (.lst [.int (mu : Nat), .int (c1 : Nat), .int ((511 - ne : Nat) : Int), .int (c2 : Nat), .int (j : Nat)]) := upd_same
  generalize upd H2 L (.lst [.int (mu : Nat), .int (c1 : Nat), .int ((511 - ne : Nat) : Int), .int (c2 : Nat), .int (j : Nat)]) = H3 at xL eL ⊢
  refine c_pickL (m := m + 6) (P2.ext xL) (by omega) (.inl (.inl eL)) (P2.ne hL).1 ⟨by simp, by simp⟩ fun k v6 H4 hv6 P4 x4 => ?_
  obtain ⟨b, rfl, hb⟩ : ∃ k : Nat, v6 = .int (k : Nat) ∧ k < 512 := by
    have hm := List.mem_of_getElem? hv6
    simp only [List.mem_cons, List.not_mem_nil, or_false] at hm
    rcases hm with e | e | e | e | e
    · exact ⟨mu, e, b1⟩
    · exact ⟨c1, e, e1.2⟩
    · exact ⟨511 - ne, e, by omega⟩
    · exact ⟨c2, e, e2.2⟩
    · exact ⟨j, e, by omega⟩
  have ht := (ht.ext xL).extQ (P2.ext xL) x4
  have hx := (hx.ext xL).extQ (P2.ext xL) x4
  have hq4 := x4.get ((P2.ext xL).neq (xL.get hq2) stV_ne) (xL.get hq2)
  have y4 : ExtP p H H4 := x1.trans (x2.trans (xL.toP.trans x4))
  obtain ⟨vo, vg, hu, t2, t3⟩ := ht.hu
  refine x_ixT hu (i := 0) rfl ?_
  refine x_ixT hu (i := 0) rfl ?_
  refine x_ixT hu (i := 0) rfl ?_
  refine ⟨by decide, fun M hM => ?_⟩
  have xM := Ext.new (H := H4) (o := .lst [.str (S fo), .str (S fo), .str (S fo), .str (S tFile), .str (S tFolder)]) hM
  have eM : upd H4 M (.lst [.str (S fo), .str (S fo), .str (S fo), .str (S tFile), .str (S tFolder)]) M = some (.lst [.str (S fo), .str (S fo), .str (S fo), .str (S tFile), .str (S tFolder)]) := upd_same
  generalize upd H4 M (.lst [.str (S fo), .str (S fo), .str (S fo), .str (S tFile), .str (S tFolder)]) = H5 at xM eM ⊢
  refine c_pickL (m := m + 5) (P4.ext xM) (by omega) (.inl (.inl eM)) (P4.ne hM).1 ⟨by simp, by simp⟩ fun k v7 H6 hv7 P6 x6 => ?_
  obtain ⟨f, rfl⟩ : ∃ z : List Nat, v7 = .str (S z) := by
    have hm := List.mem_of_getElem? hv7
    simp only [List.mem_cons, List.not_mem_nil, or_false] at hm
    rcases hm with e | e | e | e | e
    · exact ⟨fo, e⟩
    · exact ⟨fo, e⟩
    · exact ⟨fo, e⟩
    · exact ⟨_, e⟩
    · exact ⟨_, e⟩
  have ht := (ht.ext xM).extQ (P4.ext xM) x6
  have hx := (hx.ext xM).extQ (P4.ext xM) x6
  have hq6 := x6.get ((P4.ext xM).neq (xM.get hq4) stV_ne) (xM.get hq4)
  have y6 : ExtP p H H6 := y4.trans (xM.toP.trans x6)
  refine ⟨_, _, rfl, ?_⟩
  clear hv7 hv6 eM xM x6 P4 x4 eL xL P2 x2 P1 x1 hu t2 t3 hq4 hq2 hq1
  refine c_pickL (m := m + 4) P6 (by omega) (.inl (.inl hq6)) (P6.neq hq6 stV_ne) ⟨by rw [List.length_map, h4.l]; decide, by rw [List.length_map, h4.l]; decide⟩ fun k v8 H7 hv8 P7 x7 => ?_
  have hq7 := x7.get (P6.neq hq6 stV_ne) hq6
  refine c_pickL (m := m + 3) P7 (by omega) (.inl (.inl hq7)) (P7.neq hq7 stV_ne) ⟨by rw [List.length_map, h4.l]; decide, by rw [List.length_map, h4.l]; decide⟩ fun k v9 H8 hv9 P8 x8 => ?_
  obtain ⟨o, _, rfl⟩ := List.mem_map.mp (List.mem_of_getElem? hv8)
  obtain ⟨g, _, rfl⟩ := List.mem_map.mp (List.mem_of_getElem? hv9)
  have ht := (ht.extQ P6 x7).extQ P7 x8
  have hx := (hx.extQ P6 x7).extQ P7 x8
  have y8 : ExtP p H H8 := y6.trans (x7.trans x8)
  refine ⟨_, _, rfl, ?_⟩
  clear hv8 hv9 P6 x7 P7 x8 hq6 hq7 y6 y4
  refine c_drawL (m := m + 2) P8 (by omega) (by decide) fun i2 H9 _ _ P9 x9 => ?_
  have ht := ht.extQ P8 x9
  have hx := hx.extQ P8 x9
  have y9 := y8.trans x9
  have fin : ∀ (v4 : Option V) (o g : List Nat) (H' : Hp), PenL H' p l m → ExtP p H H' → Td H' u fo ow gr mu ne → Ln K H' x fo ow gr mu ne → (rd (hd.pg.ctx K w (run hd.pg K w (n - 1))) R fun cls dd _ H' => E cls dd H').s { nx := fun _ H' => Q .non H', rt := Q } [some (.ref p), some (.ref u), some (.ref x), some (.ref q), v4, some (.ref L), some (.int (b : Nat)), some (.str (S f)), some (.str (S o)), some (.str (S g)), none] H' := fun v4 o g H' P' z' t' l' => last l' t' hb hn fun H'' x'' => h H'' (P'.ext x'') (z'.trans x''.toP)
  have two : ∀ (v4 : Option V) (o : List Nat) (H' : Hp), PenL H' p l (m + 1) → ExtP p H H' → Td H' u fo ow gr mu ne → Ln K H' x fo ow gr mu ne → rIxU K w hd.pg.tabs (.ref u) (.int 2) H' fun x_1 H1 => if (false ^^ match x_1 with | .non => true | _ => false) = true then (rd (hd.pg.ctx K w (run hd.pg K w (n - 1))) R fun cls dd _ H' => E cls dd H').s { nx := fun _ H' => Q .non H', rt := Q } [some (.ref p), some (.ref u), some (.ref x), some (.ref q), v4, some (.ref L), some (.int (b : Nat)), some (.str (S f)), some (.str (S o)), some (.str (S g)), none] H1 else rIxU K w hd.pg.tabs (.ref u) (.int 2) H1 fun x_2 H1 => run hd.pg K w (n - 1) s__law_pick [.ref p, x_2] H1 (fun x_3 H1 => (rd (hd.pg.ctx K w (run hd.pg K w (n - 1))) R fun cls dd _ H' => E cls dd H').s { nx := fun _ H' => Q .non H', rt := Q } [some (.ref p), some (.ref u), some (.ref x), some (.ref q), v4, some (.ref L), some (.int (b : Nat)), some (.str (S f)), some (.str (S o)), some x_3, none] H1) fun cls d H' => E cls d H' := fun v4 o H' P' z' t' l' => by
    obtain ⟨vo, vg, hu, t2, t3⟩ := t'.hu
    refine x_ixT hu (i := 2) rfl ?_
    cases hgr : gr with
    | none =>
      rw [hgr] at t3
      obtain rfl : vg = .non := t3
      exact fin v4 o g H' (P'.mono (by omega)) z' t' l'
    | some ls =>
      have hne : vg ≠ .non := fun e => by
        rw [hgr] at t3
        obtain ⟨_, e2, _⟩ := t3
        rw [e] at e2
        cases e2
      rw [if_neg (by cases vg <;> first | exact absurd rfl hne | exact Bool.false_ne_true)]
      refine x_ixT hu (i := 2) rfl ?_
      exact pick_tell P' t3 t'.w2 (by omega) hne fun z H2 P2 x2 => fin v4 o z H2 P2 (z'.trans x2) (t'.extQ P' x2) (l'.extQ P' x2)
  rw [r_eqI, blQ_bl]
  cases i2 == 0 with
  | false => exact fin _ o g H9 (P9.mono (by omega)) y9 ht hx
  | true =>
    rw [if_pos rfl]
    obtain ⟨vo, vg, hu, t2, t3⟩ := ht.hu
    refine x_ixT hu (i := 1) rfl ?_
    cases how : ow with
    | none =>
      rw [how] at t2
      obtain rfl : vo = .non := t2
      exact two _ o H9 (P9.mono (by omega)) y9 ht hx
    | some ls =>
      have hne : vo ≠ .non := fun e => by
        rw [how] at t2
        obtain ⟨_, e2, _⟩ := t2
        rw [e] at e2
        cases e2
      rw [if_neg (by cases vo <;> first | exact absurd rfl hne | exact Bool.false_ne_true)]
      refine x_ixT hu (i := 1) rfl ?_
      exact pick_tell (m := m + 1) P9 t2 ht.w1 (by omega) hne fun z H2 P2 x2 => two _ z H2 P2 (y9.trans x2) (ht.extQ P9 x2) (hx.extQ P9 x2)
end
end U

namespace U
open PySem PySem.Spec PyProof.Rows L2
variable {K : PySem.W.Frag} {w : World} {n m : Nat} {H : Hp} {Q : VK} {E : XK}
section
variable {p l u x q : Addr} {fo f o g : List Nat} {ow gr : ON} {mu ne : Nat}
theorem eqv_nats : ∀ ks : List Nat, PyData.eqv (.list (ks.map fun k => .int (k : Nat))) (.list (ks.map fun k => .int (k : Nat))) = true := fun ks => by
  have h : ∀ ks : List Nat, PyData.eqvAll (ks.map fun k => .int (k : Nat)) (ks.map fun k => .int (k : Nat)) = true := fun ks => by
    induction ks with
    | nil => rfl
    | cons k r ih =>
      show (PyData.eqv (.int (k : Nat)) (.int (k : Nat)) && _) = true
      rw [ih, Bool.and_true]
      show ((k : Int) == (k : Int)) = true
      exact beq_self_eq_true _
  exact h ks
theorem dp_nats {H : Hp} {L : Addr} {ks : List Nat} (h : H L = some (.lst (inV' ks))) : Dp K H (.ref L) (.list (ks.map fun k => .int (k : Nat))) := by
  refine .lst (.inl (.inl h)) ?_
  clear h
  induction ks with
  | nil => exact .nil
  | cons b r ih => exact .cons (.int _) ih
theorem sh_nats (ks : List Nat) : SeqAt.shaped (.list (ks.map fun k => .int (k : Nat))) = true := (shaped_flat fun d hd => by
  obtain ⟨c, _, rfl⟩ := List.mem_map.mp hd
  exact ⟨rfl, rfl⟩).1
theorem same_lists {T : List KTab} {a b : Addr} {ks : List Nat} (h1 : H a = some (.lst (inV' ks))) (h2 : H b = some (.lst (inV' ks))) (q : Q (.bl false) H) : rCmp K w T .NotEq (.ref a) (.ref b) H Q := by
  refine r_neD rfl (dp_nats h1) (dp_nats h2) (sh_nats ks) (sh_nats ks) ?_
  rw [eqv_nats]
  exact q
def prB : I := forB (nthI 1 b__law_patterns_right)
theorem pr_turn {mo : Addr} {b : Int} {c : Nat} {pl : Nat} {D : Ends} {W : WX} {v6 v7 v8 : Option V} (hP : PenL H p l (m + 1)) (hx : Ln K H x fo ow gr mu ne) (ht : Td H u fo ow gr mu ne) (hm : IsM K H mo b) (hb : 0 ≤ b ∧ b ≤ 511) (hc : (c, (pl : Int)) ∈ [(114, 2), (119, 1), (120, (0 : Int))]) (hn : 3 ≤ n)
    (h : ∀ mo' k v6 v7 H', k < 8 → okP mu ne pl k = true → IsM K H' mo' (wpI b pl k) → PenL H' p l m → ExtP p H H' → D.nx [some (.ref p), some (.ref u), some (.ref x), some (.ref q), some (.ref mo'), some (.str (S [c])), v6, v7, v8] H') :
    (rd (hd.pg.ctx K w (run hd.pg K w n)) prB W).s D [some (.ref p), some (.ref u), some (.ref x), some (.ref q), some (.ref mo), some (.str (S [c])), v6, v7, v8] H := by
  have hpl : pl < 3 := by simp at hc; omega
  simp only [prB, forB, nthI, b__law_patterns_right, e_k, e_v, e_g, e_bop, e_uop, e_not, e_and, e_or, e_ite, e_cmp, e_cmp2, e_lst, e_tup, e_call, e_mk, e_bi, e_isi, e_meth, e_bm, e_icall, e_ostr, e_att, e_ix, e_sl, e_isiM, e_methk, e_smeth, e_cmeth, e_mkv, e_mkk, kw_nil, e_oeq, e_eatt, e_eisi, e_one, e_rep, e_fmt, e_callk, e_xcmp, e_obin, e_oinv, e_oin, e_olen, e_obool, e_cat, e_fo3, e_rev, e_rgl, e_oeqs, t_v, t_isi, t_call, t_meth, t_bop, t_bi, t_att, t_not, t_and, t_or, t_cmp, t_cmp2, trQ_bl, blQ_bl, t_methk, t_smeth, t_oeq, t_eisi, t_ix, t_icall, t_one, t_callk, t_oin, t_obin, t_xcmp, t_oeqs, a_nil', a_cons, s_nil, s_cons, s_set, s_setLc, s_par, s_expr, s_ret, s_retN, s_if, s_never, s_pass, s_brk, s_cont, s_par3, s_oaug, s_raise, g_v', g_tup, g_sub, g_att, gs_nil, gs_cons, gs_tup, g_unl, i_L, i_T, i_S, i_R1, i_ES, i_E, i_Z, p_nil, p_pair, o_nil, o_k, o_v, o_bop, o_uop, o_bi, o_ix, oQ_int, o_att, o_call, i_ET, i_R2, x_K, x_w, x_fn, x_gv, x_tabs, x_mth, x_prp, x_fld, x_isi, x_kwo, x_dfl, x_xf, x_exm, x_eis, x_lt, x_lfn, x_smt, x_cmt, x_cvl, y_cvl, x_opr, y_opr, y_cmt, y_K, y_w, y_fn, y_gv, y_tabs, y_mth, y_prp, y_fld, y_isi, y_kwo, y_dfl, y_xf, y_exm, y_eis, y_smt, isi_int, isi_str, isi_bl, isi_non, ii1, ii2, ii3, ii4, ii5, ii6, ii7, it1, it2, it3, it4, it5, it6, it7, it8, it9, it10, it11, it12, it13, r_add, r_sub, r_mul, r_div, r_mod, r_pow, r_shl, r_shr, r_and, r_or, r_xor, r_neg, r_inv, r_lt, r_le, r_gt, r_ge, r_eqI, r_neI, r_eqS, r_neS, r_inS, r_niS, b_int, b_intB, b_abs, b_lenS, b_strS, r_addS, r_isN, r_eqB, r_neB, List.getElem?_cons_zero, List.getElem?_cons_succ, List.set_cons_zero, List.set_cons_succ, List.map_cons, List.map_nil, List.length_cons, List.length_nil, Nat.reduceAdd, Nat.reduceSub, List.replicate_succ, List.replicate_zero, List.cons_append, List.nil_append, List.append_nil, Bool.not_true, Bool.not_false, if_true, if_false, ite_true, ite_false, Bool.false_eq_true, Bool.true_eq_false, reduceIte]
  refine c_lpat ht hc (by omega) fun r1 H1 x1 n1 e1 => ?_
  obtain ⟨dx, vo, vg, pm, pn, h1, _⟩ := id hx
  refine ⟨s_Line, dx, _, _, x1.get h1, mthPa, rfl, c_patterns (hx.ext x1) hc hn fun r2 H2 x2 n2 e2 => ?_⟩
  refine ⟨_, _, rfl, ?_⟩
  refine same_lists e2 (x2.get e1) ?_
  try simp only [e_k, e_v, e_g, e_bop, e_uop, e_not, e_and, e_or, e_ite, e_cmp, e_cmp2, e_lst, e_tup, e_call, e_mk, e_bi, e_isi, e_meth, e_bm, e_icall, e_ostr, e_att, e_ix, e_sl, e_isiM, e_methk, e_smeth, e_cmeth, e_mkv, e_mkk, kw_nil, e_oeq, e_eatt, e_eisi, e_one, e_rep, e_fmt, e_callk, e_xcmp, e_obin, e_oinv, e_oin, e_olen, e_obool, e_cat, e_fo3, e_rev, e_rgl, e_oeqs, t_v, t_isi, t_call, t_meth, t_bop, t_bi, t_att, t_not, t_and, t_or, t_cmp, t_cmp2, trQ_bl, blQ_bl, t_methk, t_smeth, t_oeq, t_eisi, t_ix, t_icall, t_one, t_callk, t_oin, t_obin, t_xcmp, t_oeqs, a_nil', a_cons, s_nil, s_cons, s_set, s_setLc, s_par, s_expr, s_ret, s_retN, s_if, s_never, s_pass, s_brk, s_cont, s_par3, s_oaug, s_raise, g_v', g_tup, g_sub, g_att, gs_nil, gs_cons, gs_tup, g_unl, i_L, i_T, i_S, i_R1, i_ES, i_E, i_Z, p_nil, p_pair, o_nil, o_k, o_v, o_bop, o_uop, o_bi, o_ix, oQ_int, o_att, o_call, i_ET, i_R2, x_K, x_w, x_fn, x_gv, x_tabs, x_mth, x_prp, x_fld, x_isi, x_kwo, x_dfl, x_xf, x_exm, x_eis, x_lt, x_lfn, x_smt, x_cmt, x_cvl, y_cvl, x_opr, y_opr, y_cmt, y_K, y_w, y_fn, y_gv, y_tabs, y_mth, y_prp, y_fld, y_isi, y_kwo, y_dfl, y_xf, y_exm, y_eis, y_smt, isi_int, isi_str, isi_bl, isi_non, ii1, ii2, ii3, ii4, ii5, ii6, ii7, it1, it2, it3, it4, it5, it6, it7, it8, it9, it10, it11, it12, it13, r_add, r_sub, r_mul, r_div, r_mod, r_pow, r_shl, r_shr, r_and, r_or, r_xor, r_neg, r_inv, r_lt, r_le, r_gt, r_ge, r_eqI, r_neI, r_eqS, r_neS, r_inS, r_niS, b_int, b_intB, b_abs, b_lenS, b_strS, r_addS, r_isN, r_eqB, r_neB, List.getElem?_cons_zero, List.getElem?_cons_succ, List.set_cons_zero, List.set_cons_succ, List.map_cons, List.map_nil, List.length_cons, List.length_nil, Nat.reduceAdd, Nat.reduceSub, List.replicate_succ, List.replicate_zero, List.cons_append, List.nil_append, List.append_nil, Bool.not_true, Bool.not_false, if_true, if_false, ite_true, ite_false, Bool.false_eq_true, Bool.true_eq_false, reduceIte]
  refine ⟨.inl ⟨rfl, _, .inl (.inl e2)⟩, r2, inV' (pats mu ne pl), .int 9, rfl, rfl, e2, ?_, ?_⟩
  · have : (pats mu ne pl).length ≤ (List.range 8).length := List.length_filter_le ..
    rw [List.length_map, sizeLine_eq]
    simp at this
    omega
  have x3 : Ext H1 (upd H2 r2 (.lst (inV' (pats mu ne pl) ++ [.int 9]))) := x2.put n2
  have y3 := x1.trans x3
  generalize upd H2 r2 (.lst (inV' (pats mu ne pl) ++ [.int 9])) = H3 at x3 y3 ⊢
  refine ⟨s_Line, dx, _, _, y3.get h1, mthPa, rfl, kw_ok rfl rfl rfl (c_patterns (hx.ext y3) hc hn fun r3 H4 x4 n4 e4 => ?_)⟩
  have y4 := x3.trans x4
  refine same_lists e4 (y4.get e1) ?_
  try simp only [e_k, e_v, e_g, e_bop, e_uop, e_not, e_and, e_or, e_ite, e_cmp, e_cmp2, e_lst, e_tup, e_call, e_mk, e_bi, e_isi, e_meth, e_bm, e_icall, e_ostr, e_att, e_ix, e_sl, e_isiM, e_methk, e_smeth, e_cmeth, e_mkv, e_mkk, kw_nil, e_oeq, e_eatt, e_eisi, e_one, e_rep, e_fmt, e_callk, e_xcmp, e_obin, e_oinv, e_oin, e_olen, e_obool, e_cat, e_fo3, e_rev, e_rgl, e_oeqs, t_v, t_isi, t_call, t_meth, t_bop, t_bi, t_att, t_not, t_and, t_or, t_cmp, t_cmp2, trQ_bl, blQ_bl, t_methk, t_smeth, t_oeq, t_eisi, t_ix, t_icall, t_one, t_callk, t_oin, t_obin, t_xcmp, t_oeqs, a_nil', a_cons, s_nil, s_cons, s_set, s_setLc, s_par, s_expr, s_ret, s_retN, s_if, s_never, s_pass, s_brk, s_cont, s_par3, s_oaug, s_raise, g_v', g_tup, g_sub, g_att, gs_nil, gs_cons, gs_tup, g_unl, i_L, i_T, i_S, i_R1, i_ES, i_E, i_Z, p_nil, p_pair, o_nil, o_k, o_v, o_bop, o_uop, o_bi, o_ix, oQ_int, o_att, o_call, i_ET, i_R2, x_K, x_w, x_fn, x_gv, x_tabs, x_mth, x_prp, x_fld, x_isi, x_kwo, x_dfl, x_xf, x_exm, x_eis, x_lt, x_lfn, x_smt, x_cmt, x_cvl, y_cvl, x_opr, y_opr, y_cmt, y_K, y_w, y_fn, y_gv, y_tabs, y_mth, y_prp, y_fld, y_isi, y_kwo, y_dfl, y_xf, y_exm, y_eis, y_smt, isi_int, isi_str, isi_bl, isi_non, ii1, ii2, ii3, ii4, ii5, ii6, ii7, it1, it2, it3, it4, it5, it6, it7, it8, it9, it10, it11, it12, it13, r_add, r_sub, r_mul, r_div, r_mod, r_pow, r_shl, r_shr, r_and, r_or, r_xor, r_neg, r_inv, r_lt, r_le, r_gt, r_ge, r_eqI, r_neI, r_eqS, r_neS, r_inS, r_niS, b_int, b_intB, b_abs, b_lenS, b_strS, r_addS, r_isN, r_eqB, r_neB, List.getElem?_cons_zero, List.getElem?_cons_succ, List.set_cons_zero, List.set_cons_succ, List.map_cons, List.map_nil, List.length_cons, List.length_nil, Nat.reduceAdd, Nat.reduceSub, List.replicate_succ, List.replicate_zero, List.cons_append, List.nil_append, List.append_nil, Bool.not_true, Bool.not_false, if_true, if_false, ite_true, ite_false, Bool.false_eq_true, Bool.true_eq_false, reduceIte]
  have z4 := x1.trans y4
  obtain ⟨dm, hm'⟩ := id hm
  refine ⟨s_Mode, dm, _, _, z4.get hm', mthMw, rfl, ?_⟩
  have e14 := y4.get e1
  have hl := pats_ne ht.b1 ht.b2 ht.b3 hpl
  refine c_pickL (m := m) (hP.ext z4) (by omega) (.inl (.inl e14)) ((hP.ext z4).neq e14 fun l' a g e => ?_) ⟨by rw [List.length_map]; exact hl, ?_⟩ fun i v H5 hv P5 x5 => ?_
  · match hh : pats mu ne pl, e with
    | [], e => cases e
    | _ :: _, e => cases e
  · have : (pats mu ne pl).length ≤ (List.range 8).length := List.length_filter_le ..
    rw [List.length_map]
    simp at this
    omega
  obtain ⟨k, hk, rfl⟩ := List.mem_map.mp (List.mem_of_getElem? hv)
  obtain ⟨hk1, hk2⟩ := List.mem_filter.mp hk
  have hk1 := List.mem_range.mp hk1
  have hm5 := (hm.ext z4).extQ (hP.ext z4) x5
  refine c_with_pattern (by omega) hm5 hb hc ⟨by omega, by omega⟩ fun mo' H6 x6 m6 => ?_
  exact h mo' k _ _ H6 hk1 hk2 m6 (P5.ext x6) (z4.toP.trans (x5.trans x6.toP))
theorem first_in {v : V} {o : ON} {T : List KTab} (hv : ToL H v o) (ho : Tw o) (hne : v ≠ .non) (h : ∀ z, okN z o = true → Q (.str (S z)) H) : rIxU K w T v (.int 0) H Q := by
  cases o with
  | none => exact absurd hv hne
  | some ls =>
    obtain ⟨q, rfl, hq⟩ := hv
    obtain ⟨h1, h2, h3, h4⟩ := ho
    match ls, h2, hq, h with
    | a :: r, _, hq, h => exact x_ixL (.inl (.inl hq)) (i := ((0 : Nat) : Int)) (atI_nat rfl) (h a (by show (a :: r).contains a = true; simp))
theorem c_patterns_right {ns : List (List Nat)} (hP : PenL H p l (m + 3)) (hx : Ln K H x fo ow gr mu ne) (ht : Td H u fo ow gr mu ne) (hq : H q = some (.lst (stV ns))) (h4 : N4 ns) (hn : 4 ≤ n) (h : ∀ H', PenL H' p l m → ExtP p H H' → Q (.bl true) H') : run hd.pg K w n s__law_patterns_right [.ref p, .ref u, .ref x, .ref q] H Q E := by
  refine run_at f__law_patterns_right (by omega) rfl ?_
  have b1 := ht.b1
  have b2 := ht.b2
  show (rd _ b__law_patterns_right _).s _ _ _
  have eb : b__law_patterns_right = .cons (nthI 0 b__law_patterns_right) (.cons (.for_ (.v 5) (.itS (.k (V.str (S [114, 119, 120])))) prB) (tailI 2 b__law_patterns_right)) := rfl
  rw [eb]
  have turn := @pr_turn K w (n - 1)
  generalize prB = pb at turn ⊢
  simp only [nthI, tailI, d__law_patterns_right, b__law_patterns_right, L2.start, e_k, e_v, e_g, e_bop, e_uop, e_not, e_and, e_or, e_ite, e_cmp, e_cmp2, e_lst, e_tup, e_call, e_mk, e_bi, e_isi, e_meth, e_bm, e_icall, e_ostr, e_att, e_ix, e_sl, e_isiM, e_methk, e_smeth, e_cmeth, e_mkv, e_mkk, kw_nil, e_oeq, e_eatt, e_eisi, e_one, e_rep, e_fmt, e_callk, e_xcmp, e_obin, e_oinv, e_oin, e_olen, e_obool, e_cat, e_fo3, e_rev, e_rgl, e_oeqs, t_v, t_isi, t_call, t_meth, t_bop, t_bi, t_att, t_not, t_and, t_or, t_cmp, t_cmp2, trQ_bl, blQ_bl, t_methk, t_smeth, t_oeq, t_eisi, t_ix, t_icall, t_one, t_callk, t_oin, t_obin, t_xcmp, t_oeqs, a_nil', a_cons, s_nil, s_cons, s_set, s_setLc, s_par, s_expr, s_ret, s_retN, s_if, s_never, s_pass, s_brk, s_cont, s_par3, s_oaug, s_raise, g_v', g_tup, g_sub, g_att, gs_nil, gs_cons, gs_tup, g_unl, i_L, i_T, i_S, i_R1, i_ES, i_E, i_Z, p_nil, p_pair, o_nil, o_k, o_v, o_bop, o_uop, o_bi, o_ix, oQ_int, o_att, o_call, i_ET, i_R2, x_K, x_w, x_fn, x_gv, x_tabs, x_mth, x_prp, x_fld, x_isi, x_kwo, x_dfl, x_xf, x_exm, x_eis, x_lt, x_lfn, x_smt, x_cmt, x_cvl, y_cvl, x_opr, y_opr, y_cmt, y_K, y_w, y_fn, y_gv, y_tabs, y_mth, y_prp, y_fld, y_isi, y_kwo, y_dfl, y_xf, y_exm, y_eis, y_smt, isi_int, isi_str, isi_bl, isi_non, ii1, ii2, ii3, ii4, ii5, ii6, ii7, it1, it2, it3, it4, it5, it6, it7, it8, it9, it10, it11, it12, it13, r_add, r_sub, r_mul, r_div, r_mod, r_pow, r_shl, r_shr, r_and, r_or, r_xor, r_neg, r_inv, r_lt, r_le, r_gt, r_ge, r_eqI, r_neI, r_eqS, r_neS, r_inS, r_niS, b_int, b_intB, b_abs, b_lenS, b_strS, r_addS, r_isN, r_eqB, r_neB, List.getElem?_cons_zero, List.getElem?_cons_succ, List.set_cons_zero, List.set_cons_succ, List.map_cons, List.map_nil, List.length_cons, List.length_nil, Nat.reduceAdd, Nat.reduceSub, List.replicate_succ, List.replicate_zero, List.cons_append, List.nil_append, List.append_nil, Bool.not_true, Bool.not_false, if_true, if_false, ite_true, ite_false, Bool.false_eq_true, Bool.true_eq_false, reduceIte]
  refine mk_Mode (b := 0) (by omega) (by decide) fun mo H1 x1 hm => ?_
  rw [s_for, i_S, e_k]
  show forGo _ _ _ _ _ [.v (.str (S [114])), .v (.str (S [119])), .v (.str (S [120]))] _ _
  rw [for_v]
  refine ⟨trivial, ?_⟩
  rw [g_v']
  try simp only [List.getElem?_cons_zero, List.getElem?_cons_succ, List.set_cons_zero, List.set_cons_succ, List.map_cons, List.map_nil, List.length_cons, List.length_nil, Nat.reduceAdd, Nat.reduceSub, List.replicate_succ, List.replicate_zero, List.cons_append, List.nil_append, List.append_nil, Bool.not_true, Bool.not_false, if_true, if_false, ite_true, ite_false, Bool.false_eq_true, Bool.true_eq_false, reduceIte]
  have wr : ∀ {b : Int} {pl k : Nat}, (0 ≤ b ∧ b ≤ 511) → pl < 3 → k < 8 → 0 ≤ wpI b pl k ∧ wpI b pl k ≤ 511 := fun h1 h2 h3 => wp_range h1 ⟨by omega, by omega⟩ ⟨by omega, by omega⟩
  refine turn (m := m + 2) (pl := 2) (hP.ext x1) (hx.ext x1) (ht.ext x1) hm (by decide) (by decide) (by omega) fun m1 k1 v6 v7 H2 l1 o1 hm1 P2 x2 => ?_
  have hx2 := (hx.ext x1).extQ (hP.ext x1) x2
  have ht2 := (ht.ext x1).extQ (hP.ext x1) x2
  try simp only [List.getElem?_cons_zero, List.getElem?_cons_succ, List.set_cons_zero, List.set_cons_succ, List.map_cons, List.map_nil, List.length_cons, List.length_nil, Nat.reduceAdd, Nat.reduceSub, List.replicate_succ, List.replicate_zero, List.cons_append, List.nil_append, List.append_nil, Bool.not_true, Bool.not_false, if_true, if_false, ite_true, ite_false, Bool.false_eq_true, Bool.true_eq_false, reduceIte]
  rw [for_v]
  refine ⟨trivial, ?_⟩
  rw [g_v']
  try simp only [List.getElem?_cons_zero, List.getElem?_cons_succ, List.set_cons_zero, List.set_cons_succ, List.map_cons, List.map_nil, List.length_cons, List.length_nil, Nat.reduceAdd, Nat.reduceSub, List.replicate_succ, List.replicate_zero, List.cons_append, List.nil_append, List.append_nil, Bool.not_true, Bool.not_false, if_true, if_false, ite_true, ite_false, Bool.false_eq_true, Bool.true_eq_false, reduceIte]
  have w1 := wr (b := 0) (pl := 2) (k := k1) (by decide) (by decide) l1
  refine turn (m := m + 1) (pl := 1) P2 hx2 ht2 hm1 w1 (by decide) (by omega) fun m2 k2 v6 v7 H3 l2 o2 hm2 P3 x3 => ?_
  have hx3 := hx2.extQ P2 x3
  have ht3 := ht2.extQ P2 x3
  try simp only [List.getElem?_cons_zero, List.getElem?_cons_succ, List.set_cons_zero, List.set_cons_succ, List.map_cons, List.map_nil, List.length_cons, List.length_nil, Nat.reduceAdd, Nat.reduceSub, List.replicate_succ, List.replicate_zero, List.cons_append, List.nil_append, List.append_nil, Bool.not_true, Bool.not_false, if_true, if_false, ite_true, ite_false, Bool.false_eq_true, Bool.true_eq_false, reduceIte]
  rw [for_v]
  refine ⟨trivial, ?_⟩
  rw [g_v']
  try simp only [List.getElem?_cons_zero, List.getElem?_cons_succ, List.set_cons_zero, List.set_cons_succ, List.map_cons, List.map_nil, List.length_cons, List.length_nil, Nat.reduceAdd, Nat.reduceSub, List.replicate_succ, List.replicate_zero, List.cons_append, List.nil_append, List.append_nil, Bool.not_true, Bool.not_false, if_true, if_false, ite_true, ite_false, Bool.false_eq_true, Bool.true_eq_false, reduceIte]
  have w2 := wr (pl := 1) (k := k2) w1 (by decide) l2
  refine turn (m := m) (pl := 0) P3 hx3 ht3 hm2 w2 (by decide) (by omega) fun m3 k3 v6 v7 H4 l3 o3 hm3 P4 x4 => ?_
  have hx4 := hx3.extQ P3 x4
  have ht4 := ht3.extQ P3 x4
  have y4 : ExtP p H H4 := x1.toP.trans (x2.trans (x3.trans x4))
  have hq4 := y4.get (hP.neq hq stV_ne) hq
  obtain ⟨a, b, c, d, rfl⟩ : ∃ a b c d, ns = [a, b, c, d] := by
    have := h4.l
    match ns, this with
    | [a, b, c, d], _ => exact ⟨a, b, c, d, rfl⟩
  dsimp only
  rw [for_nil]
  refine ⟨trivial, ?_⟩
  try simp only [e_k, e_v, e_g, e_bop, e_uop, e_not, e_and, e_or, e_ite, e_cmp, e_cmp2, e_lst, e_tup, e_call, e_mk, e_bi, e_isi, e_meth, e_bm, e_icall, e_ostr, e_att, e_ix, e_sl, e_isiM, e_methk, e_smeth, e_cmeth, e_mkv, e_mkk, kw_nil, e_oeq, e_eatt, e_eisi, e_one, e_rep, e_fmt, e_callk, e_xcmp, e_obin, e_oinv, e_oin, e_olen, e_obool, e_cat, e_fo3, e_rev, e_rgl, e_oeqs, t_v, t_isi, t_call, t_meth, t_bop, t_bi, t_att, t_not, t_and, t_or, t_cmp, t_cmp2, trQ_bl, blQ_bl, t_methk, t_smeth, t_oeq, t_eisi, t_ix, t_icall, t_one, t_callk, t_oin, t_obin, t_xcmp, t_oeqs, a_nil', a_cons, s_nil, s_cons, s_set, s_setLc, s_par, s_expr, s_ret, s_retN, s_if, s_never, s_pass, s_brk, s_cont, s_par3, s_oaug, s_raise, g_v', g_tup, g_sub, g_att, gs_nil, gs_cons, gs_tup, g_unl, i_L, i_T, i_S, i_R1, i_ES, i_E, i_Z, p_nil, p_pair, o_nil, o_k, o_v, o_bop, o_uop, o_bi, o_ix, oQ_int, o_att, o_call, i_ET, i_R2, x_K, x_w, x_fn, x_gv, x_tabs, x_mth, x_prp, x_fld, x_isi, x_kwo, x_dfl, x_xf, x_exm, x_eis, x_lt, x_lfn, x_smt, x_cmt, x_cvl, y_cvl, x_opr, y_opr, y_cmt, y_K, y_w, y_fn, y_gv, y_tabs, y_mth, y_prp, y_fld, y_isi, y_kwo, y_dfl, y_xf, y_exm, y_eis, y_smt, isi_int, isi_str, isi_bl, isi_non, ii1, ii2, ii3, ii4, ii5, ii6, ii7, it1, it2, it3, it4, it5, it6, it7, it8, it9, it10, it11, it12, it13, r_add, r_sub, r_mul, r_div, r_mod, r_pow, r_shl, r_shr, r_and, r_or, r_xor, r_neg, r_inv, r_lt, r_le, r_gt, r_ge, r_eqI, r_neI, r_eqS, r_neS, r_inS, r_niS, b_int, b_intB, b_abs, b_lenS, b_strS, r_addS, r_isN, r_eqB, r_neB, List.getElem?_cons_zero, List.getElem?_cons_succ, List.set_cons_zero, List.set_cons_succ, List.map_cons, List.map_nil, List.length_cons, List.length_nil, Nat.reduceAdd, Nat.reduceSub, List.replicate_succ, List.replicate_zero, List.cons_append, List.nil_append, List.append_nil, Bool.not_true, Bool.not_false, if_true, if_false, ite_true, ite_false, Bool.false_eq_true, Bool.true_eq_false, reduceIte]
  obtain ⟨q0, q1, q2, q3, q4⟩ := put_ok k1 l1 k2 l2 k3 l3
  have hb : IsM K H4 m3 (putI k1 k2 k3) := hm3
  obtain ⟨B, eB, hB⟩ : ∃ B : Nat, putI k1 k2 k3 = (B : Nat) ∧ B < 512 := ⟨(putI k1 k2 k3).toNat, by omega, by omega⟩
  rw [eB] at hb q2 q3 q4
  have ok : okLet fo fo [] [] none none mu ne B = true := by
    have := all_ok hB b1 b2 fun pl hpl => by
      obtain rfl | rfl | rfl : pl = 0 ∨ pl = 1 ∨ pl = 2 := by omega
      · rw [show patI (B : Int) ((0 : Nat) : Int) = k3 from q4]; exact o3
      · rw [show patI (B : Int) ((1 : Nat) : Int) = k2 from q3]; exact o2
      · rw [show patI (B : Int) ((2 : Nat) : Int) = k1 from q2]; exact o1
    unfold okLet okN
    rw [this.1, this.2, beq_self_eq_true, beq_self_eq_true]
    rfl
  obtain ⟨dx, v0, v1, pm, pn, h1, _⟩ := id hx4
  obtain ⟨vo, vg, hu, t2, t3⟩ := ht4.hu
  have call : ∀ o g : List Nat, okN o ow = true → okN g gr = true → run hd.pg K w (n - 1) s_Line_lets [.ref x, .str (S fo), .ref m3, .str (S o), .str (S g)] H4 (fun x H1 => rXc (hd.pg.ctx K w (run hd.pg K w (n - 1))) .Is x (.bl true) H1 Q) fun cls d H' => E cls d H' := fun o g e1 e2 => by
    refine c_lets hx4 (.inl ⟨m3, rfl, hb⟩) ⟨by omega, by omega⟩ (by omega) ?_
    rw [e1, e2]
    rw [show ((fo == fo) && ((true && true) && ((Builtin.bitAnd (B : Int) (mu : Int) == (mu : Int)) && (Builtin.bitAnd (B : Int) (ne : Int) == 0)))) = true from ok]
    exact .inr ⟨true, true, rfl, rfl, h H4 P4 y4⟩
  have last : ∀ o : List Nat, okN o ow = true → ∃ cn dx fs key, H4 x = some (.ins (He.ga K cn) dx fs) ∧ hd.pg.mth cn s_lets = some key ∧ List.lookup s_lets fs = none ∧ rIxU K w hd.pg.tabs (.ref u) (.int 0) H4 fun x_4 H1 => rIxU K w hd.pg.tabs (.ref u) (.int 2) H1 fun x_5 H1 =>
      if (false ^^ match x_5 with | .non => true | _ => false) = true then rIxU K w hd.pg.tabs (.ref q) (.int 3) H1 fun x_6 H1 => run hd.pg K w (n - 1) key [.ref x, x_4, .ref m3, .str (S o), x_6] H1 (fun x H1 => rXc (hd.pg.ctx K w (run hd.pg K w (n - 1))) .Is x (.bl true) H1 Q) fun cls d H' => E cls d H'
      else rIxU K w hd.pg.tabs (.ref u) (.int 2) H1 fun x_6 H1 => rIxU K w hd.pg.tabs x_6 (.int 0) H1 fun x_7 H1 => run hd.pg K w (n - 1) key [.ref x, x_4, .ref m3, .str (S o), x_7] H1 (fun x H1 => rXc (hd.pg.ctx K w (run hd.pg K w (n - 1))) .Is x (.bl true) H1 Q) fun cls d H' => E cls d H' := fun o ho => by
    refine ⟨s_Line, dx, _, _, h1, mthLe, rfl, ?_⟩
    refine x_ixT hu (i := 0) rfl ?_
    refine x_ixT hu (i := 2) rfl ?_
    by_cases hne : vg = .non
    · subst hne
      rw [if_pos (by rfl)]
      refine x_ixL (.inl (.inl hq4)) (i := 3) rfl ?_
      cases gr with
      | none => exact call o _ ho rfl
      | some ls =>
        obtain ⟨_, e2, _⟩ := t3
        cases e2
    · rw [if_neg (by cases vg <;> first | exact absurd rfl hne | exact Bool.false_ne_true)]
      refine x_ixT hu (i := 2) rfl ?_
      exact first_in t3 ht4.w2 hne fun z hz => call o z ho hz
  refine x_ixT hu (i := 1) rfl ?_
  by_cases hne : vo = .non
  · subst hne
    rw [if_pos (by rfl)]
    refine x_ixL (.inl (.inl hq4)) (i := 0) rfl ?_
    cases ow with
    | none => exact last _ rfl
    | some ls =>
      obtain ⟨_, e2, _⟩ := t2
      cases e2
  · rw [if_neg (by cases vo <;> first | exact absurd rfl hne | exact Bool.false_ne_true)]
    refine x_ixT hu (i := 1) rfl ?_
    exact first_in t2 ht4.w1 hne fun z hz => last z hz
end
end U

namespace U
open PySem PySem.Spec PyProof.Rows L2
variable {K : PySem.W.Frag} {w : World} {n m : Nat} {H : Hp} {Q : VK} {E : XK}
theorem mk_LineD {Q' : Addr → Hp → Prop} {args : List V} {mu : Int} (ha : ∀ x : Addr, d_Line___init__.fill (.ref x :: .str (S tFile) :: args) = [.ref x, .str (S tFile), .non, .non, .int mu, .int 0]) (hn : 4 ≤ n) (hT : hd.Tups K) (b3 : 0 ≤ mu ∧ mu ≤ 511) (hmn : Builtin.bitAnd mu 0 = 0) (h : ∀ x H', Ext H H' → Ln K H' x tFile none none mu 0 → Q' x H') :
    ∀ x dx, H x = none → H dx = none → dx ≠ x → ∃ key, hd.pg.mth s_Line "__init__" = some key ∧ run hd.pg K w n key (.ref x :: .str (S tFile) :: args) (upd (upd H dx (.own x)) x (.ins (He.ga K s_Line) dx [])) (fun v H2 => v = .non ∧ Q' x H2) E := by
  intro x dx a b c
  obtain ⟨key, hk, hr⟩ := mk_Line (K := K) (w := w) (n := n) (E := E) (Q' := Q') (vo := .non) (vg := .non) (vm := .int mu) (vn := .int 0) (ow := none) (gr := none) hn hT (.inl rfl) rfl trivial rfl trivial (.inr rfl) b3 (.inr rfl) (by decide) hmn h x dx a b c
  rw [mthL] at hk
  cases hk
  exact ⟨_, mthL, run_fill f_Line___init__ (ha x) rfl rfl hr⟩
theorem eq_lists {T : List KTab} {a b : Addr} {ks : List Nat} (h1 : H a = some (.lst (inV' ks))) (h2 : H b = some (.lst (inV' ks))) (q : Q (.bl true) H) : rCmp K w T .Eq (.ref a) (.ref b) H Q := by
  refine r_eqD rfl (dp_nats h1) (dp_nats h2) (sh_nats ks) (sh_nats ks) ?_
  rw [eqv_nats]
  exact q
theorem pt1 : pats 0 0 1 = List.range 8 := by decide +kernel
theorem pt2 : pats 73 0 0 = [7] := by decide +kernel
def lbody : I := forB (nthI 1 b_law)
theorem law_turn {a p l : Addr} {v2 v3 v4 v5 v6 : Option V} {D : Ends} {W : WX} (hP : PenL H p l (m + 134)) (hT : hd.Tups K) (hn : 8 ≤ n) (h : ∀ H' v3 v4 v5 v6, PenL H' p l m → D.nx [some (.ref a), some (.ref p), v2, v3, v4, v5, v6] H') :
    (rd (hd.pg.ctx K w (run hd.pg K w n)) lbody W).s D [some (.ref a), some (.ref p), v2, v3, v4, v5, v6] H := by
  simp only [lbody, forB, nthI, b_law, e_k, e_v, e_g, e_bop, e_uop, e_not, e_and, e_or, e_ite, e_cmp, e_cmp2, e_lst, e_tup, e_call, e_mk, e_bi, e_isi, e_meth, e_bm, e_icall, e_ostr, e_att, e_ix, e_sl, e_isiM, e_methk, e_smeth, e_cmeth, e_mkv, e_mkk, kw_nil, e_oeq, e_eatt, e_eisi, e_one, e_rep, e_fmt, e_callk, e_xcmp, e_obin, e_oinv, e_oin, e_olen, e_obool, e_cat, e_fo3, e_rev, e_rgl, e_oeqs, t_v, t_isi, t_call, t_meth, t_bop, t_bi, t_att, t_not, t_and, t_or, t_cmp, t_cmp2, trQ_bl, blQ_bl, t_methk, t_smeth, t_oeq, t_eisi, t_ix, t_icall, t_one, t_callk, t_oin, t_obin, t_xcmp, t_oeqs, a_nil', a_cons, s_nil, s_cons, s_set, s_setLc, s_par, s_expr, s_ret, s_retN, s_if, s_never, s_pass, s_brk, s_cont, s_par3, s_oaug, s_raise, g_v', g_tup, g_sub, g_att, gs_nil, gs_cons, gs_tup, g_unl, i_L, i_T, i_S, i_R1, i_ES, i_E, i_Z, p_nil, p_pair, o_nil, o_k, o_v, o_bop, o_uop, o_bi, o_ix, oQ_int, o_att, o_call, i_ET, i_R2, x_K, x_w, x_fn, x_gv, x_tabs, x_mth, x_prp, x_fld, x_isi, x_kwo, x_dfl, x_xf, x_exm, x_eis, x_lt, x_lfn, x_smt, x_cmt, x_cvl, y_cvl, x_opr, y_opr, y_cmt, y_K, y_w, y_fn, y_gv, y_tabs, y_mth, y_prp, y_fld, y_isi, y_kwo, y_dfl, y_xf, y_exm, y_eis, y_smt, isi_int, isi_str, isi_bl, isi_non, ii1, ii2, ii3, ii4, ii5, ii6, ii7, it1, it2, it3, it4, it5, it6, it7, it8, it9, it10, it11, it12, it13, r_add, r_sub, r_mul, r_div, r_mod, r_pow, r_shl, r_shr, r_and, r_or, r_xor, r_neg, r_inv, r_lt, r_le, r_gt, r_ge, r_eqI, r_neI, r_eqS, r_neS, r_inS, r_niS, b_int, b_intB, b_abs, b_lenS, b_strS, r_addS, r_isN, r_eqB, r_neB, List.getElem?_cons_zero, List.getElem?_cons_succ, List.set_cons_zero, List.set_cons_succ, List.map_cons, List.map_nil, List.length_cons, List.length_nil, Nat.reduceAdd, Nat.reduceSub, List.replicate_succ, List.replicate_zero, List.cons_append, List.nil_append, List.append_nil, Bool.not_true, Bool.not_false, if_true, if_false, ite_true, ite_false, Bool.false_eq_true, Bool.true_eq_false, reduceIte]
  refine c_names (m := m + 120) hP (by omega) fun q ns H1 _ e1 h4 P1 x1 => ?_
  refine c_line (m := m + 111) P1 e1 h4 (by omega) fun u fo ow gr mu ne H2 ht P2 x2 => ?_
  refine c_made hT ht (by omega) fun x H3 x3 hx => ?_
  rw [s_for, i_R1, e_k]
  refine ⟨by decide, by decide, ?_⟩
  try simp only [List.getElem?_cons_zero, List.getElem?_cons_succ, List.set_cons_zero, List.set_cons_succ, List.map_cons, List.map_nil, List.length_cons, List.length_nil, Nat.reduceAdd, Nat.reduceSub, List.replicate_succ, List.replicate_zero, List.cons_append, List.nil_append, List.append_nil, Bool.not_true, Bool.not_false, if_true, if_false, ite_true, ite_false, Bool.false_eq_true, Bool.true_eq_false, reduceIte]
  have e3 := x3.get (x2.get (P1.neq e1 stV_ne) e1)
  refine fors_inv (fun r σ H => (∀ i ∈ r, ∃ v, i = It1.v v) ∧ PenL H p l (m + 3 + 9 * r.length) ∧ Ln K H x fo ow gr mu ne ∧ Td H u fo ow gr mu ne ∧ H q = some (.lst (stV ns)) ∧ ∃ v6, σ = [some (.ref a), some (.ref p), v2, some (.ref q), some (.ref u), some (.ref x), v6]) (fun _ _ _ _ => trivial) _ _ _ ⟨?_, (P2.ext x3).mono (by rw [List.length_map, List.length_range]; show m + 3 + 9 * 12 ≤ m + 111; omega), hx, ht.ext x3, e3, _, rfl⟩ ?_ ?_
  · intro i hi
    obtain ⟨k, _, rfl⟩ := List.mem_map.mp hi
    exact ⟨_, rfl⟩
  · intro z r σ H i D' h1 h2 h3 h5
    obtain ⟨i1, i2, i3, i4, i5, v6, rfl⟩ := i
    obtain ⟨v, rfl⟩ := i1 z (List.mem_cons_self ..)
    simp only [g_v', List.set_cons_zero, List.set_cons_succ]
    simp only [e_k, e_v, e_g, e_bop, e_uop, e_not, e_and, e_or, e_ite, e_cmp, e_cmp2, e_lst, e_tup, e_call, e_mk, e_bi, e_isi, e_meth, e_bm, e_icall, e_ostr, e_att, e_ix, e_sl, e_isiM, e_methk, e_smeth, e_cmeth, e_mkv, e_mkk, kw_nil, e_oeq, e_eatt, e_eisi, e_one, e_rep, e_fmt, e_callk, e_xcmp, e_obin, e_oinv, e_oin, e_olen, e_obool, e_cat, e_fo3, e_rev, e_rgl, e_oeqs, t_v, t_isi, t_call, t_meth, t_bop, t_bi, t_att, t_not, t_and, t_or, t_cmp, t_cmp2, trQ_bl, blQ_bl, t_methk, t_smeth, t_oeq, t_eisi, t_ix, t_icall, t_one, t_callk, t_oin, t_obin, t_xcmp, t_oeqs, a_nil', a_cons, s_nil, s_cons, s_set, s_setLc, s_par, s_expr, s_ret, s_retN, s_if, s_never, s_pass, s_brk, s_cont, s_par3, s_oaug, s_raise, g_v', g_tup, g_sub, g_att, gs_nil, gs_cons, gs_tup, g_unl, i_L, i_T, i_S, i_R1, i_ES, i_E, i_Z, p_nil, p_pair, o_nil, o_k, o_v, o_bop, o_uop, o_bi, o_ix, oQ_int, o_att, o_call, i_ET, i_R2, x_K, x_w, x_fn, x_gv, x_tabs, x_mth, x_prp, x_fld, x_isi, x_kwo, x_dfl, x_xf, x_exm, x_eis, x_lt, x_lfn, x_smt, x_cmt, x_cvl, y_cvl, x_opr, y_opr, y_cmt, y_K, y_w, y_fn, y_gv, y_tabs, y_mth, y_prp, y_fld, y_isi, y_kwo, y_dfl, y_xf, y_exm, y_eis, y_smt, isi_int, isi_str, isi_bl, isi_non, ii1, ii2, ii3, ii4, ii5, ii6, ii7, it1, it2, it3, it4, it5, it6, it7, it8, it9, it10, it11, it12, it13, r_add, r_sub, r_mul, r_div, r_mod, r_pow, r_shl, r_shr, r_and, r_or, r_xor, r_neg, r_inv, r_lt, r_le, r_gt, r_ge, r_eqI, r_neI, r_eqS, r_neS, r_inS, r_niS, b_int, b_intB, b_abs, b_lenS, b_strS, r_addS, r_isN, r_eqB, r_neB, List.getElem?_cons_zero, List.getElem?_cons_succ, List.set_cons_zero, List.set_cons_succ, List.map_cons, List.map_nil, List.length_cons, List.length_nil, Nat.reduceAdd, Nat.reduceSub, List.replicate_succ, List.replicate_zero, List.cons_append, List.nil_append, List.append_nil, Bool.not_true, Bool.not_false, if_true, if_false, ite_true, ite_false, Bool.false_eq_true, Bool.true_eq_false, reduceIte]
    refine c_lets_right (m := m + 3 + 9 * r.length) (by rw [List.length_cons] at i2; rw [show m + 3 + 9 * r.length + 9 = m + 3 + 9 * (r.length + 1) by omega]; exact i2) i3 i4 i5 h4 (by omega) fun H' P' x' => ?_
    try simp only [List.getElem?_cons_zero, List.getElem?_cons_succ, List.set_cons_zero, List.set_cons_succ, List.map_cons, List.map_nil, List.length_cons, List.length_nil, Nat.reduceAdd, Nat.reduceSub, List.replicate_succ, List.replicate_zero, List.cons_append, List.nil_append, List.append_nil, Bool.not_true, Bool.not_false, if_true, if_false, ite_true, ite_false, Bool.false_eq_true, Bool.true_eq_false, reduceIte]
    exact h1 _ _ ⟨fun j hj => i1 j (List.mem_cons_of_mem _ hj), P', i3.extQ i2 x', i4.extQ i2 x', x'.get (i2.neq i5 stV_ne) i5, _, rfl⟩
  · intro σ H i
    obtain ⟨i1, i2, i3, i4, i5, v6, rfl⟩ := i
    try simp only [e_k, e_v, e_g, e_bop, e_uop, e_not, e_and, e_or, e_ite, e_cmp, e_cmp2, e_lst, e_tup, e_call, e_mk, e_bi, e_isi, e_meth, e_bm, e_icall, e_ostr, e_att, e_ix, e_sl, e_isiM, e_methk, e_smeth, e_cmeth, e_mkv, e_mkk, kw_nil, e_oeq, e_eatt, e_eisi, e_one, e_rep, e_fmt, e_callk, e_xcmp, e_obin, e_oinv, e_oin, e_olen, e_obool, e_cat, e_fo3, e_rev, e_rgl, e_oeqs, t_v, t_isi, t_call, t_meth, t_bop, t_bi, t_att, t_not, t_and, t_or, t_cmp, t_cmp2, trQ_bl, blQ_bl, t_methk, t_smeth, t_oeq, t_eisi, t_ix, t_icall, t_one, t_callk, t_oin, t_obin, t_xcmp, t_oeqs, a_nil', a_cons, s_nil, s_cons, s_set, s_setLc, s_par, s_expr, s_ret, s_retN, s_if, s_never, s_pass, s_brk, s_cont, s_par3, s_oaug, s_raise, g_v', g_tup, g_sub, g_att, gs_nil, gs_cons, gs_tup, g_unl, i_L, i_T, i_S, i_R1, i_ES, i_E, i_Z, p_nil, p_pair, o_nil, o_k, o_v, o_bop, o_uop, o_bi, o_ix, oQ_int, o_att, o_call, i_ET, i_R2, x_K, x_w, x_fn, x_gv, x_tabs, x_mth, x_prp, x_fld, x_isi, x_kwo, x_dfl, x_xf, x_exm, x_eis, x_lt, x_lfn, x_smt, x_cmt, x_cvl, y_cvl, x_opr, y_opr, y_cmt, y_K, y_w, y_fn, y_gv, y_tabs, y_mth, y_prp, y_fld, y_isi, y_kwo, y_dfl, y_xf, y_exm, y_eis, y_smt, isi_int, isi_str, isi_bl, isi_non, ii1, ii2, ii3, ii4, ii5, ii6, ii7, it1, it2, it3, it4, it5, it6, it7, it8, it9, it10, it11, it12, it13, r_add, r_sub, r_mul, r_div, r_mod, r_pow, r_shl, r_shr, r_and, r_or, r_xor, r_neg, r_inv, r_lt, r_le, r_gt, r_ge, r_eqI, r_neI, r_eqS, r_neS, r_inS, r_niS, b_int, b_intB, b_abs, b_lenS, b_strS, r_addS, r_isN, r_eqB, r_neB, List.getElem?_cons_zero, List.getElem?_cons_succ, List.set_cons_zero, List.set_cons_succ, List.map_cons, List.map_nil, List.length_cons, List.length_nil, Nat.reduceAdd, Nat.reduceSub, List.replicate_succ, List.replicate_zero, List.cons_append, List.nil_append, List.append_nil, Bool.not_true, Bool.not_false, if_true, if_false, ite_true, ite_false, Bool.false_eq_true, Bool.true_eq_false, reduceIte]
    refine c_patterns_right (m := m) i2 i3 i4 i5 h4 (by omega) fun H' P' x' => ?_
    try simp only [List.getElem?_cons_zero, List.getElem?_cons_succ, List.set_cons_zero, List.set_cons_succ, List.map_cons, List.map_nil, List.length_cons, List.length_nil, Nat.reduceAdd, Nat.reduceSub, List.replicate_succ, List.replicate_zero, List.cons_append, List.nil_append, List.append_nil, Bool.not_true, Bool.not_false, if_true, if_false, ite_true, ite_false, Bool.false_eq_true, Bool.true_eq_false, reduceIte]
    exact h H' _ _ _ _ P'
def TI (a p l : Addr) (r : List It1) (σ : St) (H : Hp) : Prop := (∀ i ∈ r, ∃ v, i = It1.v v) ∧ PenL H p l (134 * r.length) ∧ ∃ v2 v3 v4 v5 v6, σ = [some (.ref a), some (.ref p), v2, v3, v4, v5, v6]
theorem law_run {a : Addr} {ns : List Int} (hT : hd.Tups K) (ha : SqL K H a (ns.map V.int)) (hl : ns.length ≤ 63) (hn : 9 ≤ n) (h : ∀ H', Q (.bl true) H') : run hd.pg K w n s_law [.ref a] H Q E := by
  refine run_at f_law (by omega) rfl ?_
  show (rd _ b_law _).s _ _ _
  have tA := @law_turn K w (n - 1)
  have fin : ∀ (H1 : Hp) (v1 v2 v3 v4 v5 v6 : Option V), (rd (hd.pg.ctx K w (run hd.pg K w (n - 1))) (tailI 2 b_law) fun cls dd _ H' => E cls dd H').s { nx := fun _ H' => Q .non H', rt := Q } [some (.ref a), v1, v2, v3, v4, v5, v6] H1 := by
    intro H1 v1 v2 v3 v4 v5 v6
    simp only [tailI, b_law, e_k, e_v, e_g, e_bop, e_uop, e_not, e_and, e_or, e_ite, e_cmp, e_cmp2, e_lst, e_tup, e_call, e_mk, e_bi, e_isi, e_meth, e_bm, e_icall, e_ostr, e_att, e_ix, e_sl, e_isiM, e_methk, e_smeth, e_cmeth, e_mkv, e_mkk, kw_nil, e_oeq, e_eatt, e_eisi, e_one, e_rep, e_fmt, e_callk, e_xcmp, e_obin, e_oinv, e_oin, e_olen, e_obool, e_cat, e_fo3, e_rev, e_rgl, e_oeqs, t_v, t_isi, t_call, t_meth, t_bop, t_bi, t_att, t_not, t_and, t_or, t_cmp, t_cmp2, trQ_bl, blQ_bl, t_methk, t_smeth, t_oeq, t_eisi, t_ix, t_icall, t_one, t_callk, t_oin, t_obin, t_xcmp, t_oeqs, a_nil', a_cons, s_nil, s_cons, s_set, s_setLc, s_par, s_expr, s_ret, s_retN, s_if, s_never, s_pass, s_brk, s_cont, s_par3, s_oaug, s_raise, g_v', g_tup, g_sub, g_att, gs_nil, gs_cons, gs_tup, g_unl, i_L, i_T, i_S, i_R1, i_ES, i_E, i_Z, p_nil, p_pair, o_nil, o_k, o_v, o_bop, o_uop, o_bi, o_ix, oQ_int, o_att, o_call, i_ET, i_R2, x_K, x_w, x_fn, x_gv, x_tabs, x_mth, x_prp, x_fld, x_isi, x_kwo, x_dfl, x_xf, x_exm, x_eis, x_lt, x_lfn, x_smt, x_cmt, x_cvl, y_cvl, x_opr, y_opr, y_cmt, y_K, y_w, y_fn, y_gv, y_tabs, y_mth, y_prp, y_fld, y_isi, y_kwo, y_dfl, y_xf, y_exm, y_eis, y_smt, isi_int, isi_str, isi_bl, isi_non, ii1, ii2, ii3, ii4, ii5, ii6, ii7, it1, it2, it3, it4, it5, it6, it7, it8, it9, it10, it11, it12, it13, r_add, r_sub, r_mul, r_div, r_mod, r_pow, r_shl, r_shr, r_and, r_or, r_xor, r_neg, r_inv, r_lt, r_le, r_gt, r_ge, r_eqI, r_neI, r_eqS, r_neS, r_inS, r_niS, b_int, b_intB, b_abs, b_lenS, b_strS, r_addS, r_isN, r_eqB, r_neB, List.getElem?_cons_zero, List.getElem?_cons_succ, List.set_cons_zero, List.set_cons_succ, List.map_cons, List.map_nil, List.length_cons, List.length_nil, Nat.reduceAdd, Nat.reduceSub, List.replicate_succ, List.replicate_zero, List.cons_append, List.nil_append, List.append_nil, Bool.not_true, Bool.not_false, if_true, if_false, ite_true, ite_false, Bool.false_eq_true, Bool.true_eq_false, reduceIte]
    refine mk_LineD (mu := 0) (args := []) (fun x => rfl) (by omega) hT (by decide) (by decide +kernel) fun x H2 x2 hx => ?_
    obtain ⟨dx, _, _, _, _, h1, _⟩ := id hx
    refine ⟨s_Line, dx, _, _, h1, mthPa, rfl, c_patterns (c := 119) (p := 1) hx (by decide) (by omega) fun r H3 x3 _ e3 => ?_⟩
    rw [pt1] at e3
    refine ⟨_, rfl, by unfold RgOk; decide, fun q hq => ?_⟩
    refine eq_lists (ks := List.range 8) (upd_get e3 hq) (by rw [upd_same]; rfl) ?_
    try simp only [e_k, e_v, e_g, e_bop, e_uop, e_not, e_and, e_or, e_ite, e_cmp, e_cmp2, e_lst, e_tup, e_call, e_mk, e_bi, e_isi, e_meth, e_bm, e_icall, e_ostr, e_att, e_ix, e_sl, e_isiM, e_methk, e_smeth, e_cmeth, e_mkv, e_mkk, kw_nil, e_oeq, e_eatt, e_eisi, e_one, e_rep, e_fmt, e_callk, e_xcmp, e_obin, e_oinv, e_oin, e_olen, e_obool, e_cat, e_fo3, e_rev, e_rgl, e_oeqs, t_v, t_isi, t_call, t_meth, t_bop, t_bi, t_att, t_not, t_and, t_or, t_cmp, t_cmp2, trQ_bl, blQ_bl, t_methk, t_smeth, t_oeq, t_eisi, t_ix, t_icall, t_one, t_callk, t_oin, t_obin, t_xcmp, t_oeqs, a_nil', a_cons, s_nil, s_cons, s_set, s_setLc, s_par, s_expr, s_ret, s_retN, s_if, s_never, s_pass, s_brk, s_cont, s_par3, s_oaug, s_raise, g_v', g_tup, g_sub, g_att, gs_nil, gs_cons, gs_tup, g_unl, i_L, i_T, i_S, i_R1, i_ES, i_E, i_Z, p_nil, p_pair, o_nil, o_k, o_v, o_bop, o_uop, o_bi, o_ix, oQ_int, o_att, o_call, i_ET, i_R2, x_K, x_w, x_fn, x_gv, x_tabs, x_mth, x_prp, x_fld, x_isi, x_kwo, x_dfl, x_xf, x_exm, x_eis, x_lt, x_lfn, x_smt, x_cmt, x_cvl, y_cvl, x_opr, y_opr, y_cmt, y_K, y_w, y_fn, y_gv, y_tabs, y_mth, y_prp, y_fld, y_isi, y_kwo, y_dfl, y_xf, y_exm, y_eis, y_smt, isi_int, isi_str, isi_bl, isi_non, ii1, ii2, ii3, ii4, ii5, ii6, ii7, it1, it2, it3, it4, it5, it6, it7, it8, it9, it10, it11, it12, it13, r_add, r_sub, r_mul, r_div, r_mod, r_pow, r_shl, r_shr, r_and, r_or, r_xor, r_neg, r_inv, r_lt, r_le, r_gt, r_ge, r_eqI, r_neI, r_eqS, r_neS, r_inS, r_niS, b_int, b_intB, b_abs, b_lenS, b_strS, r_addS, r_isN, r_eqB, r_neB, List.getElem?_cons_zero, List.getElem?_cons_succ, List.set_cons_zero, List.set_cons_succ, List.map_cons, List.map_nil, List.length_cons, List.length_nil, Nat.reduceAdd, Nat.reduceSub, List.replicate_succ, List.replicate_zero, List.cons_append, List.nil_append, List.append_nil, Bool.not_true, Bool.not_false, if_true, if_false, ite_true, ite_false, Bool.false_eq_true, Bool.true_eq_false, reduceIte]
    refine mk_LineD (mu := 73) (args := [.non, .non, .int 73]) (fun x => rfl) (by omega) hT (by decide) (by decide +kernel) fun x H4 x4 hx => ?_
    obtain ⟨dx, _, _, _, _, h1, _⟩ := id hx
    refine ⟨s_Line, dx, _, _, h1, mthPa, rfl, c_patterns (c := 120) (p := 0) hx (by decide) (by omega) fun r H5 x5 _ e5 => ?_⟩
    rw [pt2] at e5
    refine ⟨by decide, fun q hq => ?_⟩
    exact eq_lists (ks := [7]) (upd_get e5 hq) upd_same (h _)
  rw [s_split 1 rfl, show tailI 1 b_law = .cons (.for_ (.v 2) (.itR1 (.k (V.int 8))) lbody) (tailI 2 b_law) from rfl]
  generalize tailI 2 b_law = R at fin ⊢
  generalize hlb : lbody = body at tA ⊢
  simp only [headI, b_law]
  rw [s_cons, s_set, e_call]
  simp only [d_law, L2.start, e_k, e_v, e_g, e_bop, e_uop, e_not, e_and, e_or, e_ite, e_cmp, e_cmp2, e_lst, e_tup, e_call, e_mk, e_bi, e_isi, e_meth, e_bm, e_icall, e_ostr, e_att, e_ix, e_sl, e_isiM, e_methk, e_smeth, e_cmeth, e_mkv, e_mkk, kw_nil, e_oeq, e_eatt, e_eisi, e_one, e_rep, e_fmt, e_callk, e_xcmp, e_obin, e_oinv, e_oin, e_olen, e_obool, e_cat, e_fo3, e_rev, e_rgl, e_oeqs, t_v, t_isi, t_call, t_meth, t_bop, t_bi, t_att, t_not, t_and, t_or, t_cmp, t_cmp2, trQ_bl, blQ_bl, t_methk, t_smeth, t_oeq, t_eisi, t_ix, t_icall, t_one, t_callk, t_oin, t_obin, t_xcmp, t_oeqs, a_nil', a_cons, s_nil, s_cons, s_set, s_setLc, s_par, s_expr, s_ret, s_retN, s_if, s_never, s_pass, s_brk, s_cont, s_par3, s_oaug, s_raise, g_v', g_tup, g_sub, g_att, gs_nil, gs_cons, gs_tup, g_unl, i_L, i_T, i_S, i_R1, i_ES, i_E, i_Z, p_nil, p_pair, o_nil, o_k, o_v, o_bop, o_uop, o_bi, o_ix, oQ_int, o_att, o_call, i_ET, i_R2, x_K, x_w, x_fn, x_gv, x_tabs, x_mth, x_prp, x_fld, x_isi, x_kwo, x_dfl, x_xf, x_exm, x_eis, x_lt, x_lfn, x_smt, x_cmt, x_cvl, y_cvl, x_opr, y_opr, y_cmt, y_K, y_w, y_fn, y_gv, y_tabs, y_mth, y_prp, y_fld, y_isi, y_kwo, y_dfl, y_xf, y_exm, y_eis, y_smt, isi_int, isi_str, isi_bl, isi_non, ii1, ii2, ii3, ii4, ii5, ii6, ii7, it1, it2, it3, it4, it5, it6, it7, it8, it9, it10, it11, it12, it13, r_add, r_sub, r_mul, r_div, r_mod, r_pow, r_shl, r_shr, r_and, r_or, r_xor, r_neg, r_inv, r_lt, r_le, r_gt, r_ge, r_eqI, r_neI, r_eqS, r_neS, r_inS, r_niS, b_int, b_intB, b_abs, b_lenS, b_strS, r_addS, r_isN, r_eqB, r_neB, List.getElem?_cons_zero, List.getElem?_cons_succ, List.set_cons_zero, List.set_cons_succ, List.map_cons, List.map_nil, List.length_cons, List.length_nil, Nat.reduceAdd, Nat.reduceSub, List.replicate_succ, List.replicate_zero, List.cons_append, List.nil_append, List.append_nil, Bool.not_true, Bool.not_false, if_true, if_false, ite_true, ite_false, Bool.false_eq_true, Bool.true_eq_false, reduceIte]
  refine c_pen ha hl (by omega) fun p H1 hp x1 P1 => ?_
  obtain ⟨l, P1⟩ := P1
  try dsimp only
  try simp only [e_k, e_v, e_g, e_bop, e_uop, e_not, e_and, e_or, e_ite, e_cmp, e_cmp2, e_lst, e_tup, e_call, e_mk, e_bi, e_isi, e_meth, e_bm, e_icall, e_ostr, e_att, e_ix, e_sl, e_isiM, e_methk, e_smeth, e_cmeth, e_mkv, e_mkk, kw_nil, e_oeq, e_eatt, e_eisi, e_one, e_rep, e_fmt, e_callk, e_xcmp, e_obin, e_oinv, e_oin, e_olen, e_obool, e_cat, e_fo3, e_rev, e_rgl, e_oeqs, t_v, t_isi, t_call, t_meth, t_bop, t_bi, t_att, t_not, t_and, t_or, t_cmp, t_cmp2, trQ_bl, blQ_bl, t_methk, t_smeth, t_oeq, t_eisi, t_ix, t_icall, t_one, t_callk, t_oin, t_obin, t_xcmp, t_oeqs, a_nil', a_cons, s_nil, s_cons, s_set, s_setLc, s_par, s_expr, s_ret, s_retN, s_if, s_never, s_pass, s_brk, s_cont, s_par3, s_oaug, s_raise, g_v', g_tup, g_sub, g_att, gs_nil, gs_cons, gs_tup, g_unl, i_L, i_T, i_S, i_R1, i_ES, i_E, i_Z, p_nil, p_pair, o_nil, o_k, o_v, o_bop, o_uop, o_bi, o_ix, oQ_int, o_att, o_call, i_ET, i_R2, x_K, x_w, x_fn, x_gv, x_tabs, x_mth, x_prp, x_fld, x_isi, x_kwo, x_dfl, x_xf, x_exm, x_eis, x_lt, x_lfn, x_smt, x_cmt, x_cvl, y_cvl, x_opr, y_opr, y_cmt, y_K, y_w, y_fn, y_gv, y_tabs, y_mth, y_prp, y_fld, y_isi, y_kwo, y_dfl, y_xf, y_exm, y_eis, y_smt, isi_int, isi_str, isi_bl, isi_non, ii1, ii2, ii3, ii4, ii5, ii6, ii7, it1, it2, it3, it4, it5, it6, it7, it8, it9, it10, it11, it12, it13, r_add, r_sub, r_mul, r_div, r_mod, r_pow, r_shl, r_shr, r_and, r_or, r_xor, r_neg, r_inv, r_lt, r_le, r_gt, r_ge, r_eqI, r_neI, r_eqS, r_neS, r_inS, r_niS, b_int, b_intB, b_abs, b_lenS, b_strS, r_addS, r_isN, r_eqB, r_neB, List.getElem?_cons_zero, List.getElem?_cons_succ, List.set_cons_zero, List.set_cons_succ, List.map_cons, List.map_nil, List.length_cons, List.length_nil, Nat.reduceAdd, Nat.reduceSub, List.replicate_succ, List.replicate_zero, List.cons_append, List.nil_append, List.append_nil, Bool.not_true, Bool.not_false, if_true, if_false, ite_true, ite_false, Bool.false_eq_true, Bool.true_eq_false, reduceIte]
  rw [s_for, i_R1, e_k]
  refine ⟨by decide, by decide, ?_⟩
  refine fors_inv (TI a p l) (fun _ _ _ _ => trivial) _ _ _ ⟨?_, P1.mono (by decide), _, _, _, _, _, rfl⟩ ?_ ?_
  · intro i hi
    obtain ⟨k, _, rfl⟩ := List.mem_map.mp hi
    exact ⟨_, rfl⟩
  · intro z r σ H i D' h1 h2 h3 h4
    obtain ⟨i1, i2, v2, v3, v4, v5, v6, rfl⟩ := i
    obtain ⟨v, rfl⟩ := i1 z (List.mem_cons_self ..)
    simp only [g_v', List.set_cons_zero, List.set_cons_succ]
    refine tA (m := 134 * r.length) (l := l) (by rw [List.length_cons] at i2; rw [show 134 * r.length + 134 = 134 * (r.length + 1) by omega]; exact i2) hT (by omega) fun H' w3 w4 w5 w6 q => ?_
    exact h1 _ _ ⟨fun j hj => i1 j (List.mem_cons_of_mem _ hj), q, _, _, _, _, _, rfl⟩
  · intro σ H i
    obtain ⟨i1, i2, v2, v3, v4, v5, v6, rfl⟩ := i
    exact fin _ _ _ _ _ _ _
theorem goal : Goal hd 9 := by
  intro w K H a ns hl _ hT hU hS
  have e : ("law" : Str) = s_law := by decide +kernel
  rw [e]
  exact law_run hU hS hl (by omega) fun _ => rfl
end U

open PySem PySem.W PySem.Calls PyProof.Rows
theorem PySem.Challenge.cw_modesdown_k35_lines_let_holds : PySem.Challenge.rw_modesdown_k35_lines_let.Holds := by
  w_on; o_law
  refine HandSHeadRun.head_any (r := OpenLaw.row PySem.Challenge.rw_modesdown_k35_lines_let) (q := view (OpenLaw.row PySem.Challenge.rw_modesdown_k35_lines_let).prog [38]) (H := U.hd.hook U.fl 6) (ob := U.hd.ob U.fl 6) (M := 8000) (loose := U.loose) (d := HandSHeadRun.topDef (OpenLaw.row PySem.Challenge.rw_modesdown_k35_lines_let).prog 38) (kwd := []) (U.Hd.ob_eq U.hd U.fl 6)
    (by kernel_rfl) (fun s => by kernel_rfl) U.runQ (by kernel_rfl) (by kernel_rfl) (by kernel_rfl) (by rfl) (by first | assumption | decide +kernel) (by decide +kernel) ⟨rfl, rfl, rfl, rfl, rfl, by decide +kernel⟩ ?hw ?hc
  case hw => w_witness2
  case hc =>
    exact U.law_end (h := U.hd) (l := PySem.Challenge.rw_modesdown_k35_lines_let) (m := 6) (n := 9) (x := U.s__law_script) (di := U.d_law) rfl (by kernel_rfl) (by kernel_rfl) U.stat U.bnd U.bne (by kernel_rfl) ⟨⟨rfl, by decide, by decide⟩, rfl⟩ (by kernel_rfl) ⟨rfl, rfl, rfl⟩ (by decide +kernel) (by decide +kernel) U.goal
