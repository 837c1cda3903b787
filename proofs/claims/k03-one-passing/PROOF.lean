import PyProof.Rows.All
import Wide.All
import OpenK.AllK
import Wide.FinOn
import HandS.ForMost
import HandS.ForExc
import HandS.Deep
import HandS.IsInst
import HandS.Wide
import HandS.Zip
import HandS.More
import HandS.SortKw
import HandS.ExcIs
import HandS.TryOnly
import HandS.ExcValue
import PySem.Challenge.RW_passby_k03_one_passing
set_option Elab.async false
set_option linter.all false
set_option maxRecDepth 100000
set_option maxHeartbeats 4000000
/-! PbBase: short names of readings, calls of defs as facts, heaps that grow. -/
namespace Pb
open PySem PySem.Spec L2

/-! ### readings by short names -/
abbrev rSub : R2 := rI0 fun i j => .int (i - j)
abbrev rMul : R2 := rI CMul fun i j => .int (i * j)
abbrev rDiv : R2 := rI CDivW fun i j => .int (i / j)
abbrev rMod : R2 := rI (fun _ j => 0 < j) fun i j => .int (i % j)
abbrev rAnd : R2 := rI0 fun i j => .int (Builtin.bitAnd i j)
abbrev rOr : R2 := rI0 fun i j => .int (Builtin.bitOr i j)
abbrev rShr : R2 := rI (fun _ j => 0 ≤ j) fun i j => .int (i / 2 ^ j.toNat)
abbrev rShl : R2 := rI CPow fun i j => .int (i * 2 ^ j.toNat)
abbrev rPow : R2 := rI CPow fun i j => .int (i ^ j.toNat)
abbrev rNeg : V → Hp → VK → Prop := rU fun i => .int (-i)
abbrev rLt : R2 := rI0 fun i j => .bl (decide (i < j))
abbrev rLe : R2 := rI0 fun i j => .bl (decide (i ≤ j))
abbrev rGt : R2 := rI0 fun i j => .bl (decide (j < i))
abbrev rGe : R2 := rI0 fun i j => .bl (decide (j ≤ i))
abbrev rIsN : R2 := fun x y H Q => y = .non ∧ Q (.bl (decide (x = .non))) H
abbrev rNotN : R2 := fun x y H Q => y = .non ∧ Q (.bl (!decide (x = .non))) H
def rLen (K : PySem.W.Frag) : List V → Hp → VK → Prop := fun xs H Q => ∃ p ys, xs = [.ref p] ∧ (SqL K H p ys ∨ SqT K H p ys) ∧ Q (.int ys.length) H
def rListOf (K : PySem.W.Frag) : List V → Hp → VK → Prop := fun xs H Q => ∃ p ys, xs = [.ref p] ∧ (SqL K H p ys ∨ SqT K H p ys) ∧ ∀ l, H l = none → Q (.ref l) (upd H l (.lst ys))
def rMax2 : List V → Hp → VK → Prop := fun xs H Q => ∃ i j, xs = [.int i, .int j] ∧ Q (.int (if j > i then j else i)) H
def rInsert : V → List V → Hp → VK → Prop := fun x vs H Q => ∃ (l : Addr) (xs : List V) (i : Int) (y : V), x = .ref l ∧ vs = [.int i, y] ∧ H l = some (.lst xs) ∧ xs.length < sizeLine ∧ 0 ≤ i ∧ i < 2 ^ 63 ∧ Q .non (upd H l (.lst (xs.take i.toNat ++ [y] ++ xs.drop i.toNat)))
/-- a + b: of ints, of lists -/
def rPlus : R2 := fun x y H Q => rI0 (fun i j => .int (i + j)) x y H Q ∨ rCat x y H Q
def rEqA (K : PySem.W.Frag) : R2 := fun x y H Q => rEq x y H Q ∨ rEqD K x y H Q
def rNeA (K : PySem.W.Frag) : R2 := fun x y H Q => rNe x y H Q ∨ rNeD K x y H Q
def rSlA (K : PySem.W.Frag) : V → Option Int → Option Int → Hp → VK → Prop := fun x lo hi H Q => rSlL K x lo hi H Q ∨ rSlT K x lo hi H Q
section
variable {X : Cx}
theorem op_plus : OpR X (binaryOp .Add) rPlus := op_add.or op_cat
theorem op_eqA (hu : X.A.units + 64 < cLine) : OpR X (compareOp .Eq) (rEqA X.K) := op_eq.or (op_eqD hu)
theorem op_neA (hu : X.A.units + 64 < cLine) : OpR X (compareOp .NotEq) (rNeA X.K) := op_ne.or (op_neD hu)
theorem sl_any : SlR X (rSlA X.K) := sl_list.or sl_tup
end
theorem hu65 {A : Around} {k : Nat} (hr : Room k A) : A.units + 65 < cLine := by
  have := hr.un
  omega

/-! ### the built-ins' names -/
theorem bt_len : bootBuiltins "len" = some (.builtin "len") := by decide +kernel
theorem bt_isinstance : bootBuiltins "isinstance" = some (.builtin "isinstance") := by decide +kernel
theorem bt_max : bootBuiltins "max" = some (.builtin "max") := by decide +kernel
theorem bt_min : bootBuiltins "min" = some (.builtin "min") := by decide +kernel
theorem bt_sorted : bootBuiltins "sorted" = some (.builtin "sorted") := by decide +kernel
theorem bt_list : bootBuiltins "list" = some (.type "list") := by decide +kernel
theorem bt_tuple : bootBuiltins "tuple" = some (.type "tuple") := by decide +kernel
theorem bt_int : bootBuiltins "int" = some (.type "int") := by decide +kernel
theorem bt_bool : bootBuiltins "bool" = some (.type "bool") := by decide +kernel
theorem bt_str : bootBuiltins "str" = some (.type "str") := by decide +kernel
theorem bt_dict : bootBuiltins "dict" = some (.type "dict") := by decide +kernel
theorem bt_sum : bootBuiltins "sum" = some (.builtin "sum") := by decide +kernel
theorem bt_ValueError : bootBuiltins "ValueError" = some (.type "ValueError") := by decide +kernel

/-! ### a def of the module, as a fact: what it is called by, its level, what it promises -/
structure Cal (P : Program) (w : World) (K : PySem.W.Frag) (mg : Str → Option Value) (base : Heap) (CX : CXT) (x : Str) (k : Nat) (ps : List Str) (ds : List Value) (sp : Sp) : Prop where
  ex : ∃ (f : Addr) (fd : FuncData), FnOk P w K mg base CX k f fd ps sp ∧ mg x = some (.ref f) ∧ PySem.W.keepIn K (.ref f) = true ∧ Binds K fd ps ds
structure Mth (P : Program) (w : World) (K : PySem.W.Frag) (mg : Str → Option Value) (base : Heap) (CX : CXT) (C : Addr) (m : Str) (k : Nat) (ps : List Str) (sp : Sp) : Prop where
  ex : ∃ (f : Addr) (fd : FuncData), FnOk P w K mg base CX k f fd ps sp ∧ Meth K C m f ∧ Binds K fd ps []
structure Mak (P : Program) (w : World) (K : PySem.W.Frag) (mg : Str → Option Value) (base : Heap) (CX : CXT) (C : Addr) (k : Nat) (ps : List Str) (sp : Sp) : Prop where
  ex : ∃ (f : Addr) (fd : FuncData), FnOk P w K mg base CX k f fd ps sp ∧ Mk K C f ∧ Binds K fd ps []
section
variable {X : Cx} {CX : CXT} {k : Nat} {C : Addr} {ps : List Str} {sp : Sp} {dvs : List V} {ds : List Value} {E : XK} {x m : Str} {p pos apos : Pos} {e o : Expr} {es : List Expr} {ta : TE} {t : TA}
theorem pe_cal (C : Cal X.prog X.w X.K X.mg X.base CX x k ps ds sp) (hr : Room k X.A) (hd : Vals dvs ds) (hg : Gl X x) (hx : Passes CX X E)
    (ha : PA X (e :: es) t) (hdb : (x == ("__debug__" : Str)) = false := by decide) (he : starEach (e :: es) X.env = (false, eval e X.env) :: starEach es X.env := by rfl) (hpl : (backTo pos (starEach es X.env)).any (·.1) = false := by rfl) :
    PE X (.Call (.Name x p) (e :: es) [] pos) (tCall sp dvs E t) := by
  obtain ⟨f, fd, F, hm, hk, hb⟩ := C.ex
  exact pe_call F hr hg hm hk hb hd hx ha hdb he hpl
theorem pe_mth {pl : Sem Bool} (ho : PE X o ta) (c : Cls X.K C) (M : Mth X.prog X.w X.K X.mg X.base CX C m k ps sp) (hr : Room k X.A) (hx : Passes CX X E) (ha : PA X (e :: es) t)
    (hst : starEach (e :: es) X.env = (false, eval e X.env) :: starEach es X.env := by rfl) (hpl : (backTo pos (starEach es X.env)).any (·.1) = false := by rfl)
    (ht : eval (.Call (.Attribute o m apos) (e :: es) [] pos) X.env = (do
      let ov ← eval o X.env
      standAt apos.atName
      let (f, first) ← holding [ov] (getMethod ov m pl)
      callWith pos f first (backTo pos (starEach (e :: es) X.env)) (backToKw pos (keywordEach [] X.env))) := by rfl) :
    PE X (.Call (.Attribute o m apos) (e :: es) [] pos) (tMeth C m sp [] E ta t) := by
  obtain ⟨f, fd, F, hm, hb⟩ := M.ex
  exact pe_meth ho c hm F hr hb .nil hx ha hst hpl ht
theorem pe_mth0 {pl : Sem Bool} (ho : PE X o ta) (c : Cls X.K C) (M : Mth X.prog X.w X.K X.mg X.base CX C m k ps sp) (hr : Room k X.A) (hx : Passes CX X E)
    (ht : eval (.Call (.Attribute o m apos) [] [] pos) X.env = (do
      let ov ← eval o X.env
      standAt apos.atName
      let (f, first) ← holding [ov] (getMethod ov m pl)
      callWith pos f first (backTo pos (starEach [] X.env)) (backToKw pos (keywordEach [] X.env))) := by rfl) :
    PE X (.Call (.Attribute o m apos) [] [] pos) (tMeth C m sp [] E ta tNil) := by
  obtain ⟨f, fd, F, hm, hb⟩ := M.ex
  exact pe_meth0 ho c hm F hr hb .nil hx ht
theorem pe_mk0 (M : Mak X.prog X.w X.K X.mg X.base CX C k ps sp) (hr : Room (k + 1) X.A) (hg : Gl X x) (hm : X.mg x = some (.ref C)) (hx : Passes CX X E) (hdb : (x == ("__debug__" : Str)) = false := by decide) :
    PE X (.Call (.Name x p) [] [] pos) (tMake C sp [] E tNil) := by
  obtain ⟨f, fd, F, M, hb⟩ := M.ex
  exact pe_make0 M F hr hg hm hb .nil hx hdb
theorem pe_const {v : V} (hg : Gl X x) (hm : ∃ u, X.mg x = some u ∧ RelV v u) (hd : (x == ("__debug__" : Str)) = false := by decide) : PE X (.Name x pos) (tC v) := by
  obtain ⟨u, h1, h2⟩ := hm
  exact pe_glob hg h1 h2 hd
end

/-! ### heaps that grow -/
theorem same_upd {H H' : Hp} {p : Addr} {o : HO} (s : Same H H') (h : H p = none) : Same H (upd H' p o) := fun b x e => by
  rw [upd_ne (ne_of_none e h)]
  exact s b x e
theorem same_new {H : Hp} {p : Addr} {o : HO} (h : H p = none) : Same H (upd H p o) := same_upd (Same.refl H) h
/-- a new object: the heap behind it by a letter -/
theorem al {H : Hp} {o : HO} {Q : VK} (h : ∀ (p : Addr) (H1 : Hp), H p = none → Same H H1 → H1 p = some o → Q (.ref p) H1) : ∀ p, H p = none → Q (.ref p) (upd H p o) :=
  fun p hp => h p _ hp (same_new hp) upd_same
/-- an object that H0 doesn't know is changed -/
theorem mu {H0 H : Hp} {p : Addr} {o : HO} {Q : Hp → Prop} (s : Same H0 H) (hp : H0 p = none) (h : ∀ H1 : Hp, Same H0 H1 → H1 p = some o → (∀ b, b ≠ p → H1 b = H b) → Q H1) : Q (upd H p o) :=
  h _ (same_upd s hp) upd_same fun _ n => upd_ne n
theorem sq_t {K : PySem.W.Frag} {H H' : Hp} {a : Addr} {xs : List V} (s : Same H H') (h : SqT K H a xs) : SqT K H' a xs := by
  rcases h with (h | ⟨o, h⟩) | h
  · exact .inl (.inl (s _ _ h))
  · exact .inl (.inr ⟨o, s _ _ h⟩)
  · exact .inr h

/-! ### bits of numbers from nought -/
theorem bnot2 (x : Int) : Builtin.bitNot (Builtin.bitNot x) = x := by
  unfold Builtin.bitNot
  omega
theorem band_nat (a b : Nat) : Builtin.bitAnd (a : Int) (b : Int) = ((a &&& b : Nat) : Int) := rfl
theorem bor_nat (a b : Nat) : Builtin.bitOr (a : Int) (b : Int) = ((a ||| b : Nat) : Int) := by
  have h1 : ¬ (0 : Int) ≤ Builtin.bitNot (a : Int) := by
    unfold Builtin.bitNot
    omega
  have h2 : ¬ (0 : Int) ≤ Builtin.bitNot (b : Int) := by
    unfold Builtin.bitNot
    omega
  unfold Builtin.bitOr Builtin.bitAnd
  rw [decide_eq_false h1, decide_eq_false h2]
  show Builtin.bitNot (Builtin.bitNot (((Builtin.bitNot (Builtin.bitNot (a : Int))).toNat ||| (Builtin.bitNot (Builtin.bitNot (b : Int))).toNat : Nat) : Int)) = _
  rw [bnot2, bnot2, bnot2, Int.toNat_natCast, Int.toNat_natCast]

/-! ### written numbers -/
/-- written powers, divisors, factors -/
theorem cp_of {i j : Int} (h : 0 ≤ j ∧ j ≤ 1000000 ∧ i.natAbs < 2 ^ 64) : CPow i j = True := eq_true h
theorem cp_2_60 : CPow 2 60 = True := cp_of (by decide)
theorem cp_2_61 : CPow 2 61 = True := cp_of (by decide)
theorem cp_10_60 : CPow 10 60 = True := cp_of (by decide)
theorem cp_10_59 : CPow 10 59 = True := cp_of (by decide)
theorem cp_10_50 : CPow 10 50 = True := cp_of (by decide)
theorem cp_10_30 : CPow 10 30 = True := cp_of (by decide)
theorem cp_10_7 : CPow 10 7 = True := cp_of (by decide)
theorem cdw {i j : Int} (h : 0 < j ∧ j.natAbs.log2 < 9000) : CDivW i j = True := eq_true h
theorem cmw {i j : Int} (h : -(2 ^ 64) < i ∧ i < 2 ^ 64) : CMul i j = True := eq_true (.inl h)
theorem cmv {i j : Int} (h : -(2 ^ 64) < j ∧ j < 2 ^ 64) : CMul i j = True := eq_true (.inr h)

theorem cd_2 {i : Int} : CDivW i 2 = True := cdw (by decide +kernel)
theorem cd_3 {i : Int} : CDivW i 3 = True := cdw (by decide +kernel)
theorem cd_4 {i : Int} : CDivW i 4 = True := cdw (by decide +kernel)
theorem cd_6 {i : Int} : CDivW i 6 = True := cdw (by decide +kernel)
theorem cd_7 {i : Int} : CDivW i 7 = True := cdw (by decide +kernel)
theorem cd_8 {i : Int} : CDivW i 8 = True := cdw (by decide +kernel)
theorem cd_9 {i : Int} : CDivW i 9 = True := cdw (by decide +kernel)
theorem cd_10 {i : Int} : CDivW i 10 = True := cdw (by decide +kernel)
theorem cd_24 {i : Int} : CDivW i 24 = True := cdw (by decide +kernel)
theorem cd_36 {i : Int} : CDivW i 36 = True := cdw (by decide +kernel)
theorem cd_48 {i : Int} : CDivW i 48 = True := cdw (by decide +kernel)
theorem cd_56 {i : Int} : CDivW i 56 = True := cdw (by decide +kernel)
theorem cd_60 {i : Int} : CDivW i 60 = True := cdw (by decide +kernel)
theorem cd_61 {i : Int} : CDivW i 61 = True := cdw (by decide +kernel)
theorem cd_180 {i : Int} : CDivW i 180 = True := cdw (by decide +kernel)
theorem cd_183 {i : Int} : CDivW i 183 = True := cdw (by decide +kernel)
theorem cd_540 {i : Int} : CDivW i 540 = True := cdw (by decide +kernel)
theorem cd_3600 {i : Int} : CDivW i 3600 = True := cdw (by decide +kernel)
theorem cd_1152921504606846976 {i : Int} : CDivW i 1152921504606846976 = True := cdw (by decide +kernel)
theorem cm_2 {i : Int} : CMul 2 i = True := cmw (by decide +kernel)
theorem cn_2 {i : Int} : CMul i 2 = True := cmv (by decide +kernel)
theorem cm_3 {i : Int} : CMul 3 i = True := cmw (by decide +kernel)
theorem cn_3 {i : Int} : CMul i 3 = True := cmv (by decide +kernel)
theorem cm_175 {i : Int} : CMul 175 i = True := cmw (by decide +kernel)
theorem cn_175 {i : Int} : CMul i 175 = True := cmv (by decide +kernel)
theorem cm_48271 {i : Int} : CMul 48271 i = True := cmw (by decide +kernel)
theorem cn_48271 {i : Int} : CMul i 48271 = True := cmv (by decide +kernel)
theorem cm_2147483647 {i : Int} : CMul 2147483647 i = True := cmw (by decide +kernel)
theorem cn_2147483647 {i : Int} : CMul i 2147483647 = True := cmv (by decide +kernel)

/-! ### single readings -/
theorem rd_plus {i j : Int} {H : Hp} {Q : VK} (h : Q (.int (i + j)) H) : rPlus (.int i) (.int j) H Q := .inl ⟨_, _, rfl, rfl, h⟩
theorem plus_int {i j : Int} {H : Hp} {Q : VK} : rPlus (.int i) (.int j) H Q = Q (.int (i + j)) H := by
  refine propext ⟨fun h => ?_, rd_plus⟩
  rcases h with ⟨_, _, e, e', h⟩ | ⟨_, _, _, _, e, _⟩
  · cases e
    cases e'
    exact h
  · cases e
theorem ri0_int {g : Int → Int → V} {i j : Int} {H : Hp} {Q : VK} : rI0 g (.int i) (.int j) H Q = Q (g i j) H := propext ⟨fun ⟨_, _, e, e', h⟩ => by cases e; cases e'; exact h, fun h => ⟨_, _, rfl, rfl, h⟩⟩
theorem ri_int {C : Int → Int → Prop} {g : Int → Int → V} {i j : Int} {H : Hp} {Q : VK} : rI C g (.int i) (.int j) H Q = (C i j ∧ Q (g i j) H) := propext ⟨fun ⟨_, _, e, e', h⟩ => by cases e; cases e'; exact h, fun h => ⟨_, _, rfl, rfl, h⟩⟩
theorem ru_int {g : Int → V} {i : Int} {H : Hp} {Q : VK} : rU g (.int i) H Q = Q (g i) H := propext ⟨fun ⟨_, e, h⟩ => by cases e; exact h, fun h => ⟨_, rfl, h⟩⟩
theorem eqv_int (i j : Int) : PyData.eqv (.int i) (.int j) = decide (i = j) := by
  rw [← Bool.beq_eq_decide_eq]
  rfl
theorem eqA_int {K : PySem.W.Frag} {i j : Int} {H : Hp} {Q : VK} : rEqA K (.int i) (.int j) H Q = Q (.bl (decide (i = j))) H := propext ⟨fun h => by
    rcases h with ⟨_, h⟩ | ⟨d, e, h1, h2, _, _, h⟩
    · rw [show decide (V.int i = V.int j) = decide (i = j) from decide_eq_decide.mpr ⟨fun e => by cases e; rfl, fun e => by rw [e]⟩] at h
      exact h
    · cases h1; cases h2
      rw [eqv_int] at h
      exact h, fun h => .inl ⟨rfl, by rw [show decide (V.int i = V.int j) = decide (i = j) from decide_eq_decide.mpr ⟨fun e => by cases e; rfl, fun e => by rw [e]⟩]; exact h⟩⟩
theorem neA_int {K : PySem.W.Frag} {i j : Int} {H : Hp} {Q : VK} : rNeA K (.int i) (.int j) H Q = Q (.bl (!decide (i = j))) H := propext ⟨fun h => by
    rcases h with ⟨_, h⟩ | ⟨d, e, h1, h2, _, _, h⟩
    · rw [show decide (V.int i = V.int j) = decide (i = j) from decide_eq_decide.mpr ⟨fun e => by cases e; rfl, fun e => by rw [e]⟩] at h
      exact h
    · cases h1; cases h2
      rw [eqv_int] at h
      exact h, fun h => .inl ⟨rfl, by rw [show decide (V.int i = V.int j) = decide (i = j) from decide_eq_decide.mpr ⟨fun e => by cases e; rfl, fun e => by rw [e]⟩]; exact h⟩⟩
theorem bl_dec (i j : Bool) : decide (V.bl i = V.bl j) = decide (i = j) := decide_eq_decide.mpr ⟨fun e => by cases e; rfl, fun e => by rw [e]⟩
theorem eqv_bl (i j : Bool) : PyData.eqv (.bool i) (.bool j) = decide (i = j) := by cases i <;> cases j <;> rfl
theorem eqA_bl {K : PySem.W.Frag} {i j : Bool} {H : Hp} {Q : VK} : rEqA K (.bl i) (.bl j) H Q = Q (.bl (decide (i = j))) H := propext ⟨fun h => by
    rcases h with ⟨_, h⟩ | ⟨d, e, h1, h2, _, _, h⟩
    · rw [bl_dec] at h
      exact h
    · cases h1; cases h2
      rw [eqv_bl] at h
      exact h, fun h => .inl ⟨rfl, by rw [bl_dec]; exact h⟩⟩
theorem neA_bl {K : PySem.W.Frag} {i j : Bool} {H : Hp} {Q : VK} : rNeA K (.bl i) (.bl j) H Q = Q (.bl (!decide (i = j))) H := propext ⟨fun h => by
    rcases h with ⟨_, h⟩ | ⟨d, e, h1, h2, _, _, h⟩
    · rw [bl_dec] at h
      exact h
    · cases h1; cases h2
      rw [eqv_bl] at h
      exact h, fun h => .inl ⟨rfl, by rw [bl_dec]; exact h⟩⟩
/-- isinstance(x, a built-in class) -/
theorem isi {K : PySem.W.Frag} {H : Hp} {x : V} {T T' : String} {b : Bool} {Q : VK} (h : TyOf K H x (.type T)) (hk : kitB T T' = some b) (q : Q (.bl b) H) : rIsi K [x, .ty T'] H Q := ⟨x, .ty T', .type T, .type T', b, rfl, .ty _, .base h, kit_ty hk, q⟩
theorem kb_bool_bool : kitB "bool" "bool" = some true := by decide +kernel
theorem kb_int_int : kitB "int" "int" = some true := by decide +kernel
theorem kb_int_bool : kitB "int" "bool" = some false := by decide +kernel
theorem kb_bool_int : kitB "bool" "int" = some true := by decide +kernel
theorem kb_tuple_tuple : kitB "tuple" "tuple" = some true := by decide +kernel
theorem kb_list_list : kitB "list" "list" = some true := by decide +kernel
theorem kb_list_tuple : kitB "list" "tuple" = some false := by decide +kernel
theorem kb_tuple_int : kitB "tuple" "int" = some false := by decide +kernel
theorem kb_list_int : kitB "list" "int" = some false := by decide +kernel
theorem kb_str_str : kitB "str" "str" = some true := by decide +kernel
theorem isi_bl {K : PySem.W.Frag} {H : Hp} {c : Bool} {Q : VK} (q : Q (.bl true) H) : rIsi K [.bl c, .ty "bool"] H Q := isi (.bl c) kb_bool_bool q
theorem isi_int {K : PySem.W.Frag} {H : Hp} {i : Int} {Q : VK} (q : Q (.bl true) H) : rIsi K [.int i, .ty "int"] H Q := isi (.int i) kb_int_int q
theorem isi_intb {K : PySem.W.Frag} {H : Hp} {i : Int} {Q : VK} (q : Q (.bl false) H) : rIsi K [.int i, .ty "bool"] H Q := isi (.int i) kb_int_bool q
theorem isi_tup {K : PySem.W.Frag} {H : Hp} {a : Addr} {xs : List V} {Q : VK} (h : H a = some (.tup xs)) (q : Q (.bl true) H) : rIsi K [.ref a, .ty "tuple"] H Q := isi (.tup h) kb_tuple_tuple q
theorem isi_tupi {K : PySem.W.Frag} {H : Hp} {a : Addr} {xs : List V} {Q : VK} (h : H a = some (.tup xs)) (q : Q (.bl false) H) : rIsi K [.ref a, .ty "int"] H Q := isi (.tup h) kb_tuple_int q
theorem isi_lst {K : PySem.W.Frag} {H : Hp} {a : Addr} {xs : List V} {Q : VK} (h : H a = some (.lst xs)) (q : Q (.bl true) H) : rIsi K [.ref a, .ty "list"] H Q := isi (.lst h) kb_list_list q
theorem isi_lstt {K : PySem.W.Frag} {H : Hp} {a : Addr} {xs : List V} {Q : VK} (h : H a = some (.lst xs)) (q : Q (.bl false) H) : rIsi K [.ref a, .ty "tuple"] H Q := isi (.lst h) kb_list_tuple q
theorem isi_lsti {K : PySem.W.Frag} {H : Hp} {a : Addr} {xs : List V} {Q : VK} (h : H a = some (.lst xs)) (q : Q (.bl false) H) : rIsi K [.ref a, .ty "int"] H Q := isi (.lst h) kb_list_int q
theorem eqA_D {K : PySem.W.Frag} {x y : V} {d e : PyData} {H : Hp} {Q : VK} (hx : Dp K H x d) (hy : Dp K H y e) (h1 : SeqAt.shaped d = true) (h2 : SeqAt.shaped e = true) (h : Q (.bl (PyData.eqv d e)) H) : rEqA K x y H Q :=
  .inr ⟨d, e, hx, hy, h1, h2, h⟩
theorem neA_D {K : PySem.W.Frag} {x y : V} {d e : PyData} {H : Hp} {Q : VK} (hx : Dp K H x d) (hy : Dp K H y e) (h1 : SeqAt.shaped d = true) (h2 : SeqAt.shaped e = true) (h : Q (.bl (!PyData.eqv d e)) H) : rNeA K x y H Q :=
  .inr ⟨d, e, hx, hy, h1, h2, h⟩
/-- an item of a tuple, of a list -/
theorem ix_t {K : PySem.W.Frag} {H : Hp} {p : Addr} {xs : List V} {i : Int} {v : V} {Q : VK} (h : SqT K H p xs) (hv : atI xs i = some v) (q : Q v H) : rIx K (.ref p) (.int i) H Q := .inr (.inl ⟨p, xs, i, v, rfl, rfl, h, hv, q⟩)
theorem ix_l {K : PySem.W.Frag} {H : Hp} {p : Addr} {xs : List V} {i : Int} {v : V} {Q : VK} (h : SqL K H p xs) (hv : atI xs i = some v) (q : Q v H) : rIx K (.ref p) (.int i) H Q := .inl ⟨p, xs, i, v, rfl, rfl, h, hv, q⟩
theorem ix_t' {K : PySem.W.Frag} {H : Hp} {p : Addr} {xs : List V} {i : Int} {v : V} {Q : VK} (h : H p = some (.tup xs)) (hv : atI xs i = some v) (q : Q v H) : rIx K (.ref p) (.int i) H Q := ix_t (.of h) hv q
theorem ix_l' {K : PySem.W.Frag} {H : Hp} {p : Addr} {xs : List V} {i : Int} {v : V} {Q : VK} (h : H p = some (.lst xs)) (hv : atI xs i = some v) (q : Q v H) : rIx K (.ref p) (.int i) H Q := ix_l (.of h) hv q

/-! ### loops: the walked thing's own part apart -/
/-- what holds between two turns, not to be opened on the way -/
def Hold (P : St → Hp → Prop) : St → Hp → Prop := P
/-- the turns of a for -/
def ForW (J : It) (g : TG) (tb : TS) (D : Ends) (σ : St) (H1 : Hp) : Prop := ∃ W : Nat → Nat → St → Hp → Prop, (∃ m, W 0 m σ H1) ∧ ∀ i m σ H, W i m σ H →
  (J.stop i H ∧ D.nx σ H) ∨ (J.go i H ∧ ∃ N : St → Hp → Prop, (∀ σ' H', N σ' H' → ∃ m', m' < m ∧ W (i + 1) m' σ' H') ∧ ∀ x H', J.yld i H x H' → g x σ H' fun σ2 H2 => tb { D with nx := N, ct := N, bk := D.nx } σ2 H2)
def ForL (K : PySem.W.Frag) (g : TG) (tb : TS) (D : Ends) (σ : St) (x : V) (H1 : Hp) : Prop := ∃ a, x = .ref a ∧ (∃ xs, SqL K H1 a xs) ∧ ForW (Itl K a) g tb D σ H1
def ForR1 (g : TG) (tb : TS) (D : Ends) (σ : St) (vs : List V) (H1 : Hp) : Prop := ∃ j : Int, vs = [.int j] ∧ -(2 ^ 62) ≤ j ∧ j < 2 ^ 62 ∧ ForW (Itr 0 j.toNat) g tb D σ H1
def ForR2 (g : TG) (tb : TS) (D : Ends) (σ : St) (vs : List V) (H1 : Hp) : Prop := ∃ i j : Int, vs = [.int i, .int j] ∧ (-(2 ^ 62) ≤ i ∧ i < 2 ^ 62 ∧ -(2 ^ 62) ≤ j ∧ j < 2 ^ 62) ∧ ForW (Itr i (j - i).toNat) g tb D σ H1
def ForR3 (g : TG) (tb : TS) (D : Ends) (σ : St) (vs : List V) (H1 : Hp) : Prop := ∃ (i j c : Int) (n : Nat), vs = [.int i, .int j, .int c] ∧ RgC i j c n ∧ ForW (Itc i c n) g tb D σ H1
def ForZ (K : PySem.W.Frag) (g : TG) (tb : TS) (D : Ends) (σ : St) (vs : List V) (H1 : Hp) : Prop := ∃ a b xs ys, vs = [.ref a, .ref b] ∧
  ((SqL K H1 a xs ∧ SqL K H1 b ys ∧ ForW (Itz K a b) g tb D σ H1) ∨ (SqT K H1 a xs ∧ SqT K H1 b ys ∧ ForW (RZ.ItzT K a b) g tb D σ H1))
section
variable {K : PySem.W.Frag} {g : TG} {tb : TS} {D : Ends} {σ : St} {H H1 : Hp} {tl : TE} {ta : TA}
theorem for_eqL : tFor (iList K tl) g tb D σ H = tl σ H (ForL K g tb D σ) := rfl
theorem for_eqR1 : tFor (iRng1 ta) g tb D σ H = ta σ H (ForR1 g tb D σ) := rfl
theorem for_eqR2 : tFor (iRng2 ta) g tb D σ H = ta σ H (ForR2 g tb D σ) := rfl
theorem for_eqR3 : tFor (iRng3 ta) g tb D σ H = ta σ H (ForR3 g tb D σ) := rfl
theorem for_eqZ : tFor (RZ.iZipA K ta) g tb D σ H = ta σ H (ForZ K g tb D σ) := rfl
theorem forL {a : Addr} {xs : List V} (hS : SqL K H1 a xs) (Pv : Nat → St → Hp → Prop) (h0 : Pv 0 σ H1) (hl : ∀ i σ H, i ≤ xs.length → Pv i σ H → SqL K H a xs)
    (hs : ∀ i x σ H, xs[i]? = some x → Pv i σ H → g x σ H fun σ2 H2 => tb { D with nx := Hold (Pv (i + 1)), ct := Hold (Pv (i + 1)), bk := D.nx } σ2 H2) (hd : ∀ σ H, Pv xs.length σ H → D.nx σ H) : ForL K g tb D σ (.ref a) H1 :=
  ⟨a, rfl, ⟨xs, hS⟩, for_list Pv h0 hl hs hd⟩
theorem forR1 {n : Nat} (Pv : Nat → St → Hp → Prop) (hn : n < 2 ^ 62) (h0 : Pv 0 σ H1)
    (hs : ∀ (i : Nat) σ H, i < n → Pv i σ H → g (.int (i : Int)) σ H fun σ2 H2 => tb { D with nx := Hold (Pv (i + 1)), ct := Hold (Pv (i + 1)), bk := D.nx } σ2 H2) (hd : ∀ σ H, Pv n σ H → D.nx σ H) : ForR1 g tb D σ [.int (n : Int)] H1 := by
  refine ⟨_, rfl, by omega, by omega, ?_⟩
  rw [Int.toNat_natCast]
  exact for_range (lo := 0) (n := n) Pv h0 (fun i σ H hi h => by rw [Int.zero_add]; exact hs i σ H hi h) hd
/-- range(lo, lo + n) -/
theorem forR2 {lo n : Nat} {hi : Int} (e : hi = ((lo + n : Nat) : Int)) (Pv : Nat → St → Hp → Prop) (hn : lo + n < 2 ^ 62) (h0 : Pv 0 σ H1)
    (hs : ∀ (i : Nat) σ H, i < n → Pv i σ H → g (.int ((lo + i : Nat) : Int)) σ H fun σ2 H2 => tb { D with nx := Hold (Pv (i + 1)), ct := Hold (Pv (i + 1)), bk := D.nx } σ2 H2) (hd : ∀ σ H, Pv n σ H → D.nx σ H) : ForR2 g tb D σ [.int (lo : Int), .int hi] H1 := by
  refine ⟨_, _, rfl, by omega, ?_⟩
  rw [show (hi - (lo : Int)).toNat = n by omega]
  exact for_range (lo := (lo : Int)) (n := n) Pv h0 (fun i σ H hi h => by rw [show (lo : Int) + (i : Int) = ((lo + i : Nat) : Int) by omega]; exact hs i σ H hi h) hd
theorem rg4 : ∀ m : Nat, m < 100 → RgC 0 (m : Int) ((4 : Nat) : Int) ((m + 3) / 4) := by
  unfold RgC
  decide +kernel
theorem rg8 : ∀ m : Nat, m < 100 → RgC 0 (m : Int) ((8 : Nat) : Int) ((m + 7) / 8) := by
  unfold RgC
  decide +kernel
theorem forR3 {n c : Nat} {j : Int} (hr : RgC 0 j (c : Int) n) (Pv : Nat → St → Hp → Prop) (h0 : Pv 0 σ H1)
    (hs : ∀ (i : Nat) σ H, i < n → Pv i σ H → g (.int ((i * c : Nat) : Int)) σ H fun σ2 H2 => tb { D with nx := Hold (Pv (i + 1)), ct := Hold (Pv (i + 1)), bk := D.nx } σ2 H2) (hd : ∀ σ H, Pv n σ H → D.nx σ H) : ForR3 g tb D σ [.int 0, .int j, .int (c : Int)] H1 := by
  refine ⟨_, _, _, n, rfl, hr, ?_⟩
  exact for_rangeC (lo := 0) (c := (c : Int)) (n := n) Pv h0 (fun i σ H hi h => by rw [show (0 : Int) + (i : Int) * (c : Int) = ((i * c : Nat) : Int) by rw [Int.zero_add, Int.natCast_mul]]; exact hs i σ H hi h) hd
/-- zip of two lists (any lengths) -/
theorem forZ {a b : Addr} {xs ys : List V} {n : Nat} (en : n = min xs.length ys.length) (hA : SqL K H1 a xs) (hB : SqL K H1 b ys) (Pv : Nat → St → Hp → Prop) (h0 : Pv 0 σ H1) (hq : ∀ i σ H, Pv i σ H → SqL K H a xs ∧ SqL K H b ys)
    (hs : ∀ (i : Nat) (x y : V) (T : Addr) (σ : St) (H H' : Hp), xs[i]? = some x → ys[i]? = some y → Pv i σ H → H T = none → Same H H' → H' T = some (.tup [x, y]) → g (.ref T) σ H' fun σ2 H2 => tb { D with nx := Hold (Pv (i + 1)), ct := Hold (Pv (i + 1)), bk := D.nx } σ2 H2) (hd : ∀ σ H, Pv n σ H → D.nx σ H) :
    ForZ K g tb D σ [.ref a, .ref b] H1 := by
  refine ⟨a, b, xs, ys, rfl, .inl ⟨hA, hB, fun i m σ H => m = n - i ∧ i ≤ n ∧ Pv i σ H, ⟨n, rfl, Nat.zero_le _, h0⟩, ?_⟩⟩
  rintro i m σ H ⟨rfl, hi, p⟩
  obtain ⟨qx, qy⟩ := hq i σ H p
  by_cases hlt : i < n
  · have h1 : i < xs.length := by omega
    have h2 : i < ys.length := by omega
    refine .inr ⟨⟨xs, ys, _, _, qx, qy, List.getElem?_eq_getElem h1, List.getElem?_eq_getElem h2⟩, Pv (i + 1), fun σ' H' p' => ⟨n - (i + 1), by omega, rfl, hlt, p'⟩, fun v H' y => ?_⟩
    obtain ⟨T, x', y', rfl, hT, rfl, f1, f2⟩ := y
    exact hs i x' y' T σ H _ (f1 xs qx) (f2 ys qy) p hT (same_new hT) upd_same
  · have e : i = n := by omega
    subst e
    exact .inl ⟨⟨xs, ys, qx, qy, by omega⟩, hd σ H p⟩
theorem forZT {a b : Addr} {xs ys : List V} {n : Nat} (en : n = min xs.length ys.length) (hA : SqT K H1 a xs) (hB : SqT K H1 b ys) (Pv : Nat → St → Hp → Prop) (h0 : Pv 0 σ H1) (hq : ∀ i σ H, Pv i σ H → SqT K H a xs ∧ SqT K H b ys)
    (hs : ∀ (i : Nat) (x y : V) (T : Addr) (σ : St) (H H' : Hp), xs[i]? = some x → ys[i]? = some y → Pv i σ H → H T = none → Same H H' → H' T = some (.tup [x, y]) → g (.ref T) σ H' fun σ2 H2 => tb { D with nx := Hold (Pv (i + 1)), ct := Hold (Pv (i + 1)), bk := D.nx } σ2 H2) (hd : ∀ σ H, Pv n σ H → D.nx σ H) :
    ForZ K g tb D σ [.ref a, .ref b] H1 := by
  refine ⟨a, b, xs, ys, rfl, .inr ⟨hA, hB, fun i m σ H => m = n - i ∧ i ≤ n ∧ Pv i σ H, ⟨n, rfl, Nat.zero_le _, h0⟩, ?_⟩⟩
  rintro i m σ H ⟨rfl, hi, p⟩
  obtain ⟨qx, qy⟩ := hq i σ H p
  by_cases hlt : i < n
  · have h1 : i < xs.length := by omega
    have h2 : i < ys.length := by omega
    refine .inr ⟨⟨xs, ys, _, _, qx, qy, List.getElem?_eq_getElem h1, List.getElem?_eq_getElem h2⟩, Pv (i + 1), fun σ' H' p' => ⟨n - (i + 1), by omega, rfl, hlt, p'⟩, fun v H' y => ?_⟩
    obtain ⟨T, x', y', rfl, hT, rfl, f1, f2⟩ := y
    exact hs i x' y' T σ H _ (f1 xs qx) (f2 ys qy) p hT (same_new hT) upd_same
  · have e : i = n := by omega
    subst e
    exact .inl ⟨⟨xs, ys, qx, qy, by omega⟩, hd σ H p⟩
end

/-! ### comprehensions -/
def LcW (J : It) (g : TG) (tt : TT) (te : TE) (vs : List Nat) (σ : St) (Q : VK) (H1 : Hp) : Prop := ∀ D, H1 D = none → ∃ W : Nat → Nat → Hp → Prop, (∃ m, W 0 m (upd H1 D (.lst []))) ∧ ∀ i m H, W i m H →
  (J.stop i H ∧ Q (.ref D) H) ∨ (J.go i H ∧ ∃ Nx : Hp → Prop, (∀ H', Nx H' → ∃ m', m' < m ∧ W (i + 1) m' H') ∧ ∀ x H', J.yld i H x H' → g x (wipe σ vs) H' fun σ2 H2 => wipe σ2 vs = wipe σ vs ∧ tt σ2 H2 fun b H3 =>
    if b = true then te σ2 H3 fun y H4 => ∃ acc, H4 D = some (.lst acc) ∧ acc.length < sizeLine ∧ Nx (upd H4 D (.lst (acc ++ [y]))) else Nx H3)
def LcL (K : PySem.W.Frag) (g : TG) (tt : TT) (te : TE) (vs : List Nat) (σ : St) (Q : VK) (x : V) (H1 : Hp) : Prop := ∃ a, x = .ref a ∧ (∃ xs, SqL K H1 a xs) ∧ LcW (Itl K a) g tt te vs σ Q H1
def LcR1 (g : TG) (tt : TT) (te : TE) (vs : List Nat) (σ : St) (Q : VK) (ws : List V) (H1 : Hp) : Prop := ∃ j : Int, ws = [.int j] ∧ -(2 ^ 62) ≤ j ∧ j < 2 ^ 62 ∧ LcW (Itr 0 j.toNat) g tt te vs σ Q H1
def LcZ (K : PySem.W.Frag) (g : TG) (tt : TT) (te : TE) (vs : List Nat) (σ : St) (Q : VK) (ws : List V) (H1 : Hp) : Prop := ∃ a b xs ys, ws = [.ref a, .ref b] ∧
  ((SqL K H1 a xs ∧ SqL K H1 b ys ∧ LcW (Itz K a b) g tt te vs σ Q H1) ∨ (SqT K H1 a xs ∧ SqT K H1 b ys ∧ LcW (RZ.ItzT K a b) g tt te vs σ Q H1))
section
variable {K : PySem.W.Frag} {g : TG} {tt : TT} {te : TE} {vs : List Nat} {σ : St} {H H1 : Hp} {tl : TE} {ta : TA} {Q : VK} {J : It}
theorem lc_eqL : tLc (iList K tl) g tt te vs σ H Q = tl σ H (LcL K g tt te vs σ Q) := rfl
theorem lc_eqR1 : tLc (iRng1 ta) g tt te vs σ H Q = ta σ H (LcR1 g tt te vs σ Q) := rfl
theorem lc_eqZ : tLc (RZ.iZipA K ta) g tt te vs σ H Q = ta σ H (LcZ K g tt te vs σ Q) := rfl
theorem fm_succ {α : Type} (F : Nat → Option α) (i : Nat) : (List.range (i + 1)).filterMap F = (List.range i).filterMap F ++ (F i).toList := by
  rw [List.range_succ, List.filterMap_append]
  cases h : F i with
  | none => simp [h]
  | some y => simp [h]
theorem fm_len {α : Type} (F : Nat → Option α) (i : Nat) : ((List.range i).filterMap F).length ≤ i :=
  Nat.le_trans (List.length_filterMap_le _ _) (by rw [List.length_range]; exact Nat.le_refl _)
/-- n items; item i gives F i, told by itself (numbers, things that stood), or is left out; what is made on the way stays -/
theorem lc_pure {n : Nat} (F : Nat → Option V) (hn : n < sizeLine) (hstop : ∀ H, Same H1 H → J.stop n H) (hgo : ∀ i H, i < n → Same H1 H → J.go i H)
    (turn : ∀ (i : Nat) (x : V) (H H' : Hp), i < n → Same H1 H → J.yld i H x H' → ∀ R : V → Hp → Prop, (∀ y H4, F i = some y → Same H H4 → R y H4) → ∀ R2 : Hp → Prop, (∀ H3, F i = none → Same H H3 → R2 H3) →
      g x (wipe σ vs) H' fun σ2 H2 => wipe σ2 vs = wipe σ vs ∧ tt σ2 H2 fun b H3 => if b = true then te σ2 H3 R else R2 H3)
    (q : ∀ p H', H1 p = none → Same H1 H' → H' p = some (.lst ((List.range n).filterMap F)) → Q (.ref p) H') : LcW J g tt te vs σ Q H1 := by
  intro D hD
  refine ⟨fun i m H => m = n - i ∧ i ≤ n ∧ Same H1 H ∧ H D = some (.lst ((List.range i).filterMap F)), ⟨n, rfl, Nat.zero_le _, same_new hD, upd_same⟩, ?_⟩
  rintro i m H ⟨rfl, hi, s, hd⟩
  by_cases hlt : i < n
  · refine .inr ⟨hgo i H hlt s, fun H' => Same H1 H' ∧ H' D = some (.lst ((List.range (i + 1)).filterMap F)), fun H' h' => ⟨n - (i + 1), by omega, rfl, hlt, h'.1, h'.2⟩, fun x H' hy => ?_⟩
    refine turn i x H H' hlt s hy _ (fun y H4 e s4 => ?_) _ (fun H3 e s3 => ?_)
    · refine ⟨_, s4 _ _ hd, Nat.lt_of_le_of_lt (fm_len F i) (by omega), same_upd (s.trans s4) hD, ?_⟩
      rw [upd_same, fm_succ, e]
      rfl
    · refine ⟨s.trans s3, ?_⟩
      rw [fm_succ, e, s3 _ _ hd]
      simp
  · have e : i = n := by omega
    subst e
    exact .inl ⟨hstop H s, q D H hD s hd⟩
/-- n items, each gives a new object: its content by Ob -/
theorem lc_new {n : Nat} (Ob : Nat → HO → Prop) (hn : n < sizeLine) (hstop : ∀ H, Same H1 H → J.stop n H) (hgo : ∀ i H, i < n → Same H1 H → J.go i H)
    (turn : ∀ (i : Nat) (x : V) (H H' : Hp), i < n → Same H1 H → J.yld i H x H' → ∀ R : V → Hp → Prop, (∀ p o H4, H p = none → H4 p = some o → Ob i o → Same H H4 → R (.ref p) H4) → ∀ R2 : Hp → Prop,
      g x (wipe σ vs) H' fun σ2 H2 => wipe σ2 vs = wipe σ vs ∧ tt σ2 H2 fun b H3 => if b = true then te σ2 H3 R else R2 H3)
    (q : ∀ p H' (as : List Addr), H1 p = none → Same H1 H' → H' p = some (.lst (as.map V.ref)) → as.length = n → as.Nodup → p ∉ as → (∀ i a, as[i]? = some a → H1 a = none ∧ ∃ o, H' a = some o ∧ Ob i o) → Q (.ref p) H') : LcW J g tt te vs σ Q H1 := by
  intro D hD
  refine ⟨fun i m H => m = n - i ∧ i ≤ n ∧ Same H1 H ∧ ∃ as : List Addr, H D = some (.lst (as.map V.ref)) ∧ as.length = i ∧ as.Nodup ∧ D ∉ as ∧ ∀ j a, as[j]? = some a → H1 a = none ∧ ∃ o, H a = some o ∧ Ob j o,
    ⟨n, rfl, Nat.zero_le _, same_new hD, [], upd_same, rfl, List.nodup_nil, by simp, fun j a e => by simp at e⟩, ?_⟩
  rintro i m H ⟨rfl, hi, s, as, hd, hl, hnd, hna, hob⟩
  by_cases hlt : i < n
  · refine .inr ⟨hgo i H hlt s, fun H' => Same H1 H' ∧ ∃ as : List Addr, H' D = some (.lst (as.map V.ref)) ∧ as.length = i + 1 ∧ as.Nodup ∧ D ∉ as ∧ ∀ j a, as[j]? = some a → H1 a = none ∧ ∃ o, H' a = some o ∧ Ob j o,
      fun H' h' => ⟨n - (i + 1), by omega, rfl, hlt, h'.1, h'.2⟩, fun x H' hy => ?_⟩
    refine turn i x H H' hlt s hy _ (fun p o H4 hp ho hb s4 => ?_) _
    have pD : p ≠ D := (ne_of_none hd hp).symm
    have pas : p ∉ as := fun hm => by
      obtain ⟨j, hj⟩ := List.getElem?_of_mem hm
      obtain ⟨_, o', h', _⟩ := hob j p hj
      rw [hp] at h'
      cases h'
    refine ⟨_, s4 _ _ hd, by rw [List.length_map]; omega, same_upd (s.trans s4) hD, as ++ [p], by rw [upd_same, List.map_append]; rfl, by simp [hl], ?_, by simp [hna, pD.symm], fun j a e => ?_⟩
    · rw [List.nodup_append]
      exact ⟨hnd, by simp, fun x hx y hy => by simp at hy; rw [hy]; exact fun e => pas (e ▸ hx)⟩
    · by_cases hj : j < as.length
      · rw [List.getElem?_append_left hj] at e
        obtain ⟨h1, o', h2, h3⟩ := hob j a e
        refine ⟨h1, o', ?_, h3⟩
        have ne : a ≠ D := fun e' => hna (by rw [← e']; exact List.mem_of_getElem? e)
        rw [upd_ne ne]
        exact s4 _ _ h2
      · rw [List.getElem?_append_right (by omega)] at e
        have ej : j = i := by
          have := (List.getElem?_eq_some_iff.mp e).1
          simp at this
          omega
        subst ej
        rw [hl, Nat.sub_self] at e
        have ea : p = a := Option.some.inj e
        subst ea
        exact ⟨s.free hp, o, by rw [upd_ne pD]; exact ho, hb⟩
  · have e : i = n := by omega
    subst e
    exact .inl ⟨hstop H s, q D H as hD s hd hl hnd hna hob⟩
/-- over a list -/
theorem lcL_of {a : Addr} {xs : List V} (hS : SqL K H1 a xs) (h : (∀ H, Same H1 H → (Itl K a).stop xs.length H) → (∀ i H, i < xs.length → Same H1 H → (Itl K a).go i H) →
      (∀ i x H H', Same H1 H → (Itl K a).yld i H x H' → H' = H ∧ xs[i]? = some x) → LcW (Itl K a) g tt te vs σ Q H1) : LcL K g tt te vs σ Q (.ref a) H1 :=
  ⟨a, rfl, ⟨xs, hS⟩, h (fun H s => ⟨xs, s.seq hS, Nat.le_refl _⟩) (fun i H hi s => ⟨xs, _, s.seq hS, List.getElem?_eq_getElem hi⟩) fun i x H H' s y => ⟨y.1, y.2 xs (s.seq hS)⟩⟩
theorem lcL {a : Addr} {xs : List V} (hS : SqL K H1 a xs) (F : Nat → Option V) (hn : xs.length ≤ 1000)
    (turn : ∀ (i : Nat) (x : V) (H : Hp), xs[i]? = some x → Same H1 H → ∀ R : V → Hp → Prop, (∀ y H4, F i = some y → Same H H4 → R y H4) → ∀ R2 : Hp → Prop, (∀ H3, F i = none → Same H H3 → R2 H3) →
      g x (wipe σ vs) H fun σ2 H2 => wipe σ2 vs = wipe σ vs ∧ tt σ2 H2 fun b H3 => if b = true then te σ2 H3 R else R2 H3)
    (q : ∀ p H', H1 p = none → Same H1 H' → H' p = some (.lst ((List.range xs.length).filterMap F)) → Q (.ref p) H') : LcL K g tt te vs σ Q (.ref a) H1 :=
  lcL_of hS fun h1 h2 h3 => lc_pure F (Nat.lt_of_le_of_lt hn (by decide)) h1 h2 (fun i x H H' hi s y R hR R2 hR2 => by
    obtain ⟨rfl, e⟩ := h3 i x H H' s y
    exact turn i x _ e s R hR R2 hR2) q
theorem lcLn {a : Addr} {xs : List V} (hS : SqL K H1 a xs) (Ob : Nat → HO → Prop) (hn : xs.length ≤ 1000)
    (turn : ∀ (i : Nat) (x : V) (H : Hp), xs[i]? = some x → Same H1 H → ∀ R : V → Hp → Prop, (∀ p o H4, H p = none → H4 p = some o → Ob i o → Same H H4 → R (.ref p) H4) → ∀ R2 : Hp → Prop,
      g x (wipe σ vs) H fun σ2 H2 => wipe σ2 vs = wipe σ vs ∧ tt σ2 H2 fun b H3 => if b = true then te σ2 H3 R else R2 H3)
    (q : ∀ p H' (as : List Addr), H1 p = none → Same H1 H' → H' p = some (.lst (as.map V.ref)) → as.length = xs.length → as.Nodup → p ∉ as → (∀ i a, as[i]? = some a → H1 a = none ∧ ∃ o, H' a = some o ∧ Ob i o) → Q (.ref p) H') : LcL K g tt te vs σ Q (.ref a) H1 :=
  lcL_of hS fun h1 h2 h3 => lc_new Ob (Nat.lt_of_le_of_lt hn (by decide)) h1 h2 (fun i x H H' hi s y R hR R2 => by
    obtain ⟨rfl, e⟩ := h3 i x H H' s y
    exact turn i x _ e s R hR R2) q
theorem fm_map {α : Type} (f : V → α) (xs : List V) : (List.range xs.length).filterMap (fun i => (xs[i]?).map f) = xs.map f := by
  apply List.ext_getElem?
  intro i
  have : ∀ n, n ≤ xs.length → (List.range n).filterMap (fun i => (xs[i]?).map f) = (xs.take n).map f := by
    intro n
    induction n with
    | zero => intro _; rfl
    | succ n ih =>
      intro h
      rw [fm_succ, ih (by omega), List.take_add_one, List.map_append]
      cases h : xs[n]? <;> rfl
  rw [this _ (Nat.le_refl _), List.take_length]
/-- [f x for x in xs], nothing made -/
theorem lcMap {a : Addr} {xs : List V} (hS : SqL K H1 a xs) (f : V → V)
    (turn : ∀ (x : V) (H : Hp), x ∈ xs → Same H1 H → ∀ R : V → Hp → Prop, (∀ H4, Same H H4 → R (f x) H4) → ∀ R2 : Hp → Prop,
      g x (wipe σ vs) H fun σ2 H2 => wipe σ2 vs = wipe σ vs ∧ tt σ2 H2 fun b H3 => if b = true then te σ2 H3 R else R2 H3)
    (q : ∀ p H', H1 p = none → Same H1 H' → H' p = some (.lst (xs.map f)) → Q (.ref p) H') (hn : xs.length ≤ 1000 := by simp) : LcL K g tt te vs σ Q (.ref a) H1 :=
  lcL hS (fun i => (xs[i]?).map f) hn (fun i x H hx s R hR R2 hR2 => turn x H (List.mem_of_getElem? hx) s R (fun H4 s4 => hR _ H4 (by rw [hx]; rfl) s4) R2) fun p H' hp s h => q p H' hp s (by rw [fm_map] at h; exact h)
/-- [x for x in xs if c x], nothing made -/
theorem fm_filter (c : V → Bool) (xs : List V) : (List.range xs.length).filterMap (fun i => (xs[i]?).bind fun x => if c x then some x else none) = xs.filter c := by
  have : ∀ n, n ≤ xs.length → (List.range n).filterMap (fun i => (xs[i]?).bind fun x => if c x then some x else none) = (xs.take n).filter c := by
    intro n
    induction n with
    | zero => intro _; rfl
    | succ n ih =>
      intro h
      rw [fm_succ, ih (by omega), List.take_add_one, List.filter_append]
      cases h : xs[n]? with
      | none => rfl
      | some x =>
        cases h2 : c x <;> simp [h2]
  rw [this _ (Nat.le_refl _), List.take_length]
theorem lcFilter {a : Addr} {xs : List V} (hS : SqL K H1 a xs) (c : V → Bool)
    (turn : ∀ (x : V) (H : Hp), x ∈ xs → Same H1 H → ∀ R : V → Hp → Prop, (∀ H4, c x = true → Same H H4 → R x H4) → ∀ R2 : Hp → Prop, (∀ H4, c x = false → Same H H4 → R2 H4) →
      g x (wipe σ vs) H fun σ2 H2 => wipe σ2 vs = wipe σ vs ∧ tt σ2 H2 fun b H3 => if b = true then te σ2 H3 R else R2 H3)
    (q : ∀ p H', H1 p = none → Same H1 H' → H' p = some (.lst (xs.filter c)) → Q (.ref p) H') (hn : xs.length ≤ 1000 := by simp) : LcL K g tt te vs σ Q (.ref a) H1 :=
  lcL hS (fun i => (xs[i]?).bind fun x => if c x then some x else none) hn (fun i x H hx s R hR R2 hR2 => turn x H (List.mem_of_getElem? hx) s R
    (fun H4 hc s4 => hR _ H4 (by rw [hx]; show (if c x then some x else none) = some x; rw [hc]; rfl) s4) R2
    (fun H4 hc s4 => hR2 H4 (by rw [hx]; show (if c x then some x else none) = none; rw [hc]; rfl) s4)) fun p H' hp s h => q p H' hp s (by rw [fm_filter] at h; exact h)
/-- over range(n) -/
theorem lcR1 {n : Nat} (F : Nat → Option V) (hn : n < 1000000)
    (turn : ∀ (i : Nat) (H : Hp), i < n → Same H1 H → ∀ R : V → Hp → Prop, (∀ y H4, F i = some y → Same H H4 → R y H4) → ∀ R2 : Hp → Prop, (∀ H3, F i = none → Same H H3 → R2 H3) →
      g (.int (i : Int)) (wipe σ vs) H fun σ2 H2 => wipe σ2 vs = wipe σ vs ∧ tt σ2 H2 fun b H3 => if b = true then te σ2 H3 R else R2 H3)
    (q : ∀ p H', H1 p = none → Same H1 H' → H' p = some (.lst ((List.range n).filterMap F)) → Q (.ref p) H') : LcR1 g tt te vs σ Q [.int (n : Int)] H1 := by
  refine ⟨_, rfl, by omega, by omega, ?_⟩
  rw [Int.toNat_natCast]
  exact lc_pure F (Nat.lt_of_lt_of_le hn (by decide)) (fun H s => Nat.le_refl n) (fun i H hi s => hi) (fun i x H H' hi s y R hR R2 hR2 => by
    obtain ⟨rfl, rfl⟩ := y
    rw [Int.zero_add]
    exact turn i _ hi s R hR R2 hR2) q
theorem lcR1n {n : Nat} (Ob : Nat → HO → Prop) (hn : n < 1000000)
    (turn : ∀ (i : Nat) (H : Hp), i < n → Same H1 H → ∀ R : V → Hp → Prop, (∀ p o H4, H p = none → H4 p = some o → Ob i o → Same H H4 → R (.ref p) H4) → ∀ R2 : Hp → Prop,
      g (.int (i : Int)) (wipe σ vs) H fun σ2 H2 => wipe σ2 vs = wipe σ vs ∧ tt σ2 H2 fun b H3 => if b = true then te σ2 H3 R else R2 H3)
    (q : ∀ p H' (as : List Addr), H1 p = none → Same H1 H' → H' p = some (.lst (as.map V.ref)) → as.length = n → as.Nodup → p ∉ as → (∀ i a, as[i]? = some a → H1 a = none ∧ ∃ o, H' a = some o ∧ Ob i o) → Q (.ref p) H') : LcR1 g tt te vs σ Q [.int (n : Int)] H1 := by
  refine ⟨_, rfl, by omega, by omega, ?_⟩
  rw [Int.toNat_natCast]
  exact lc_new Ob (Nat.lt_of_lt_of_le hn (by decide)) (fun H s => Nat.le_refl n) (fun i H hi s => hi) (fun i x H H' hi s y R hR R2 => by
    obtain ⟨rfl, rfl⟩ := y
    rw [Int.zero_add]
    exact turn i _ hi s R hR R2) q
end

/-! ### new lists and tuples, by what follows -/
def LstQ (Q : VK) (xs : List V) (H : Hp) : Prop := xs.length ≤ sizeLine ∧ ∀ p, H p = none → Q (.ref p) (upd H p (.lst xs))
def TupQ (Q : VK) (xs : List V) (H : Hp) : Prop := xs.length ≤ sizeLine ∧ ∀ p, H p = none → Q (.ref p) (upd H p (.tup xs))
section
variable {K : PySem.W.Frag} {σ : St} {H : Hp} {ta : TA} {Q : VK} {xs ys : List V} {a b : Addr}
theorem lst_eq : tLst ta σ H Q = ta σ H (LstQ Q) := rfl
theorem tup_eq : tTup ta σ H Q = ta σ H (TupQ Q) := rfl
theorem sz1000 {n : Nat} (h : n ≤ 1000) : n ≤ sizeLine := Nat.le_trans h (by decide)
theorem lstQ (h : ∀ p H1, H p = none → Same H H1 → H1 p = some (.lst xs) → Q (.ref p) H1) (hl : xs.length ≤ 1000 := by simp) : LstQ Q xs H :=
  ⟨sz1000 hl, fun p hp => h p _ hp (same_new hp) upd_same⟩
theorem tupQ (h : ∀ p H1, H p = none → Same H H1 → H1 p = some (.tup xs) → Q (.ref p) H1) (hl : xs.length ≤ 1000 := by simp) : TupQ Q xs H :=
  ⟨sz1000 hl, fun p hp => h p _ hp (same_new hp) upd_same⟩
theorem len_l (h : SqL K H a xs) (q : Q (.int xs.length) H) : rLen K [.ref a] H Q := ⟨a, xs, rfl, .inl h, q⟩
theorem len_t (h : SqT K H a xs) (q : Q (.int xs.length) H) : rLen K [.ref a] H Q := ⟨a, xs, rfl, .inr h, q⟩
theorem len_l' (h : H a = some (.lst xs)) (q : Q (.int xs.length) H) : rLen K [.ref a] H Q := ⟨a, xs, rfl, .inl (.of h), q⟩
theorem len_t' (h : H a = some (.tup xs)) (q : Q (.int xs.length) H) : rLen K [.ref a] H Q := ⟨a, xs, rfl, .inr (.of h), q⟩
theorem listOf (h : SqL K H a xs) (q : ∀ p H1, H p = none → Same H H1 → H1 p = some (.lst xs) → Q (.ref p) H1) : rListOf K [.ref a] H Q :=
  ⟨a, xs, rfl, .inl h, fun p hp => q p _ hp (same_new hp) upd_same⟩
theorem listOfT (h : SqT K H a xs) (q : ∀ p H1, H p = none → Same H H1 → H1 p = some (.lst xs) → Q (.ref p) H1) : rListOf K [.ref a] H Q :=
  ⟨a, xs, rfl, .inr h, fun p hp => q p _ hp (same_new hp) upd_same⟩
theorem max2 {i j : Int} (q : Q (.int (if j > i then j else i)) H) : rMax2 [.int i, .int j] H Q := ⟨i, j, rfl, q⟩
/-- xs + ys -/
theorem cat_l (h : H a = some (.lst xs)) (h' : H b = some (.lst ys)) (hl : xs.length + ys.length ≤ 1000) (q : ∀ p H1, H p = none → Same H H1 → H1 p = some (.lst (xs ++ ys)) → Q (.ref p) H1) : rPlus (.ref a) (.ref b) H Q :=
  .inr ⟨a, b, xs, ys, rfl, rfl, h, h', sz1000 hl, fun p hp => q p _ hp (same_new hp) upd_same⟩
/-- xs[lo:hi] -/
theorem sl_l {lo hi : Option Int} (h : SqL K H a xs) (q : ∀ p H1, H p = none → Same H H1 → H1 p = some (.lst (cutV xs lo hi)) → Q (.ref p) H1) : rSlA K (.ref a) lo hi H Q :=
  .inl ⟨a, xs, rfl, h, fun p hp => q p _ hp (same_new hp) upd_same⟩
/-- xs.append(y), pop(), pop(i), insert, extend on a list that H0 does not know -/
theorem append_r {H0 : Hp} {y : V} (s : Same H0 H) (h0 : H0 a = none) (h : H a = some (.lst xs)) (hl : xs.length ≤ 1000) (q : ∀ H1, Same H0 H1 → H1 a = some (.lst (xs ++ [y])) → (∀ b, b ≠ a → H1 b = H b) → Q .non H1) :
    rAppend (.ref a) [y] H Q := ⟨a, xs, y, rfl, rfl, h, Nat.lt_of_le_of_lt hl (by decide), q _ (same_upd s h0) upd_same fun _ n => upd_ne n⟩
theorem ty_l (h : H a = some (.lst xs)) : tyV K "list" (.ref a) H := .inl ⟨rfl, _, .of h⟩
end
section
variable {K : PySem.W.Frag} {H : Hp} {a : Addr} {xs : List V} {Q : VK}
theorem pop_r {H0 : Hp} {y : V} (s : Same H0 H) (h0 : H0 a = none) (h : H a = some (.lst (xs ++ [y]))) (q : ∀ H1, Same H0 H1 → H1 a = some (.lst xs) → (∀ b, b ≠ a → H1 b = H b) → Q y H1) : rPop (.ref a) [] H Q := by
  refine ⟨a, xs ++ [y], y, rfl, rfl, h, by simp, ?_⟩
  rw [List.dropLast_concat]
  exact q _ (same_upd s h0) upd_same fun _ n => upd_ne n
theorem popAt_r {H0 : Hp} {y : V} {i : Nat} (s : Same H0 H) (h0 : H0 a = none) (h : H a = some (.lst xs)) (hi : xs[i]? = some y) (hb : i < 1000000) (q : ∀ H1, Same H0 H1 → H1 a = some (.lst (xs.eraseIdx i)) → (∀ b, b ≠ a → H1 b = H b) → Q y H1) : rPopAt (.ref a) [.int (i : Int)] H Q := by
  refine ⟨a, xs, (i : Int), i, y, rfl, rfl, h, by omega, by omega, ?_, hi, q _ (same_upd s h0) upd_same fun _ n => upd_ne n⟩
  have hl := (List.getElem?_eq_some_iff.mp hi).1
  exact (ixN_seq (n := xs.length) (i := (i : Int)) (j := i) (by unfold ixN; rw [if_pos (by omega), if_pos (by omega)]; rfl)).1
theorem insert_r {H0 : Hp} {y : V} {i : Nat} (s : Same H0 H) (h0 : H0 a = none) (h : H a = some (.lst xs)) (hl : xs.length ≤ 1000) (hb : i < 1000000) (q : ∀ H1, Same H0 H1 → H1 a = some (.lst (xs.take i ++ [y] ++ xs.drop i)) → (∀ b, b ≠ a → H1 b = H b) → Q .non H1) : rInsert (.ref a) [.int (i : Int), y] H Q :=
  ⟨a, xs, (i : Int), y, rfl, rfl, h, Nat.lt_of_le_of_lt hl (by decide), by omega, by omega, q _ (same_upd s h0) upd_same fun _ n => upd_ne n⟩
theorem extend_r {H0 : Hp} {b : Addr} {ys : List V} (s : Same H0 H) (h0 : H0 a = none) (h : H a = some (.lst xs)) (h' : H b = some (.lst ys)) (hl : xs.length + ys.length ≤ 100000) (q : ∀ H1, Same H0 H1 → H1 a = some (.lst (xs ++ ys)) → (∀ b, b ≠ a → H1 b = H b) → Q .non H1) : rExtend (.ref a) [.ref b] H Q :=
  ⟨a, b, xs, ys, rfl, rfl, h, h', Nat.le_trans hl (by decide), q _ (same_upd s h0) upd_same fun _ n => upd_ne n⟩
/-- xs[i] = v -/
theorem set_r {H0 : Hp} {v : V} {i : Nat} {Q : Hp → Prop} (s : Same H0 H) (h0 : H0 a = none) (h : H a = some (.lst xs)) (hi : i < xs.length) (q : ∀ H1, Same H0 H1 → H1 a = some (.lst (xs.set i v)) → (∀ b, b ≠ a → H1 b = H b) → Q H1) : rSetL (.ref a) (.int (i : Int)) v H Q :=
  ⟨a, xs, (i : Int), i, rfl, rfl, h, by unfold ixN; rw [if_pos (by omega), if_pos (by omega)]; rfl, q _ (same_upd s h0) upd_same fun _ n => upd_ne n⟩
end

/-! ### a statement and the rest, with a word between -/
def tCut (t u : TS) : TS := fun D σ H => ∃ R : St → Hp → Prop, t { D with nx := R } σ H ∧ ∀ σ' H', R σ' H' → u D σ' H'
theorem pss_cutR {X : Cx} {st : Stmt} {rest : List Stmt} {t u : TS} (h1 : PS X st t) (h2 : PSs X rest u) : PSs X (st :: rest) (tCut t u) := by
  refine ⟨fun pins s σ H D I h => ?_⟩
  obtain ⟨R, hr, k⟩ := h
  refine wpAny_execs_cons (thn (h1.run pins s σ H { D with nx := R } I hr) fun f s1 q => ?_)
  cases f with
  | next =>
    obtain ⟨σ', H', I', q⟩ := q
    exact h2.run pins s1 σ' H' D I' (k σ' H' q)
  | ret v => exact q
  | brk => exact q
  | cont => exact q
theorem cut {t u : TS} {D : Ends} {σ : St} {H : Hp} (R : St → Hp → Prop) (h1 : t { D with nx := Hold R } σ H) (h2 : ∀ σ' H', R σ' H' → u D σ' H') : tCut t u D σ H := ⟨R, h1, h2⟩

/-! ### a, b = a tuple, a list -/
section
variable {K : PySem.W.Frag} {H : Hp} {a : Addr} {x y z : V} {g1 g2 g3 : TG} {σ : St} {Q : St → Hp → Prop}
theorem gtup2 (h : H a = some (.tup [x, y])) (q : g1 x σ H fun σ' H' => g2 y σ' H' Q) : gTup K 2 (gCons g1 (gCons g2 gNil)) (.ref a) σ H Q := by
  refine ⟨a, _, rfl, .of h, rfl, ?_⟩
  refine ⟨x, [y], rfl, ?_⟩
  have e : ∀ σ' H', g2 y σ' H' Q = gCons g2 gNil [y] σ' H' Q := fun σ' H' => propext ⟨fun h => ⟨y, [], rfl, by
    have : (fun σ' H' => gNil [] σ' H' Q) = Q := by funext σ H; exact propext ⟨fun h => h.2, fun h => ⟨rfl, h⟩⟩
    rw [this]; exact h⟩, fun ⟨v, r, e, h⟩ => by
    cases e
    have : (fun σ' H' => gNil [] σ' H' Q) = Q := by funext σ H; exact propext ⟨fun h => h.2, fun h => ⟨rfl, h⟩⟩
    rw [this] at h; exact h⟩
  have e2 : (fun σ' H' => g2 y σ' H' Q) = fun σ' H' => gCons g2 gNil [y] σ' H' Q := by funext σ' H'; exact e σ' H'
  rw [e2] at q
  exact q
theorem glst2 (h : H a = some (.lst [x, y])) (q : g1 x σ H fun σ' H' => g2 y σ' H' Q) : gLst K 2 (gCons g1 (gCons g2 gNil)) (.ref a) σ H Q := by
  refine ⟨a, _, rfl, .of h, rfl, ?_⟩
  refine ⟨x, [y], rfl, ?_⟩
  have e : ∀ σ' H', g2 y σ' H' Q = gCons g2 gNil [y] σ' H' Q := fun σ' H' => propext ⟨fun h => ⟨y, [], rfl, by
    have : (fun σ' H' => gNil [] σ' H' Q) = Q := by funext σ H; exact propext ⟨fun h => h.2, fun h => ⟨rfl, h⟩⟩
    rw [this]; exact h⟩, fun ⟨v, r, e, h⟩ => by
    cases e
    have : (fun σ' H' => gNil [] σ' H' Q) = Q := by funext σ H; exact propext ⟨fun h => h.2, fun h => ⟨rfl, h⟩⟩
    rw [this] at h; exact h⟩
  have e2 : (fun σ' H' => g2 y σ' H' Q) = fun σ' H' => gCons g2 gNil [y] σ' H' Q := by funext σ' H'; exact e σ' H'
  rw [e2] at q
  exact q
/-- three names -/
theorem gtup3 {i j k : Nat} (h : H a = some (.tup [x, y, z])) (q : Q (((σ.set i (some x)).set j (some y)).set k (some z)) H) : gTup K 3 (gCons (gName i) (gCons (gName j) (gCons (gName k) gNil))) (.ref a) σ H Q :=
  ⟨a, _, rfl, .of h, rfl, x, [y, z], rfl, y, [z], rfl, z, [], rfl, rfl, q⟩
end
end Pb

open PySem PySem.Spec L2
/-! the readings opened: «rd»; items of known tuples and lists: «go» -/
local macro_rules | `(tactic| walk_at "rd") => `(tactic| simp (config := { failIfUnchanged := false }) only [tSeq, tAsg, tDrop, tRet, tRetN, tIfS, tNext, tTest, tB, tNot, tAnd, tOr, tAndV, tOrV, tNotV, tOp, tUn, tC, tVar, tNil, tCons, tCB, tCall, tCallS, tMeth, gName, gSub, tBM, tBM0, Pb.lst_eq, Pb.tup_eq, tSl, tPart, tNoPart, tChain, tIf, Pb.for_eqL, Pb.for_eqR1, Pb.for_eqR2, Pb.for_eqR3, Pb.for_eqZ, tYes, Pb.lc_eqL, Pb.lc_eqR1, Pb.lc_eqZ, wipe, Pb.band_nat, Pb.bor_nat, eq_self, ite_true, if_true, decide_true, decide_false, Bool.not_true, Bool.not_false, Bool.false_eq_true, ite_false, if_false, Int.reduceToNat, Int.reducePow, Int.reduceLT, Int.reduceSub, Int.reduceAdd, Int.reduceMul, Int.reduceNeg, Pb.cd_2, Pb.cd_3, Pb.cd_4, Pb.cd_6, Pb.cd_7, Pb.cd_8, Pb.cd_9, Pb.cd_10, Pb.cd_24, Pb.cd_36, Pb.cd_48, Pb.cd_56, Pb.cd_60, Pb.cd_61, Pb.cd_180, Pb.cd_183, Pb.cd_540, Pb.cd_3600, Pb.cd_1152921504606846976, Pb.cm_2, Pb.cn_2, Pb.cm_3, Pb.cn_3, Pb.cm_175, Pb.cn_175, Pb.cm_48271, Pb.cn_48271, Pb.cm_2147483647, Pb.cn_2147483647, Pb.cp_2_60, Pb.cp_2_61, Pb.cp_10_60, Pb.cp_10_59, Pb.cp_10_50, Pb.cp_10_30, Pb.cp_10_7, Pb.plus_int, Pb.ri0_int, Pb.ri_int, Pb.ru_int, Pb.eqA_int, Pb.neA_int, Pb.eqA_bl, Pb.neA_bl,
  L2.start, List.map_cons, List.map_nil, List.length_cons, List.length_nil, List.replicate, List.cons_append, List.nil_append, List.set_cons_zero, List.set_cons_succ, List.getElem?_cons_zero, List.getElem?_cons_succ, Nat.reduceAdd, Nat.reduceSub, Option.some.injEq, V.int.injEq, V.ref.injEq, V.bl.injEq, V.str.injEq, V.ty.injEq, List.cons.injEq, and_true, true_and, reduceCtorEq, false_and, and_false, false_or, or_false, exists_eq_left', exists_eq_left, exists_false])
local macro_rules | `(tactic| walk_at "go") => `(tactic| (walk_at "rd"; repeat (first | refine Pb.ix_t' (by assumption) (by rfl) ?_ | refine Pb.ix_l' (by assumption) (by rfl) ?_ | refine Pb.ix_l (by assumption) (by rfl) ?_ | refine Pb.len_l' (by assumption) ?_ | refine Pb.gtup2 (by assumption) ?_ | refine Pb.glst2 (by assumption) ?_ | refine Pb.gtup3 (by assumption) ?_ | refine Pb.isi_bl ?_ | refine Pb.isi_int ?_ | refine Pb.isi_intb ?_ | refine Pb.isi_tup (by assumption) ?_ | refine Pb.isi_lst (by assumption) ?_); walk_at "rd"))
namespace Pb
/-! ### deeds -/
/-- a deed: its name, the boxes looked at, the boxes changed -/
structure Dd where
  n : Int
  l : Nat
  c : Nat
  deriving DecidableEq
abbrev Dd.vs (d : Dd) : List V := [.int d.n, .int (d.l : Int), .int (d.c : Int)]
/-- at a stands the tuple of the deed d -/
abbrev TD (H : Hp) (a : Addr) (d : Dd) : Prop := H a = some (.tup [.int d.n, .int (d.l : Int), .int (d.c : Int)])
def clash (d e : Dd) : Bool := (d.c &&& (e.l ||| e.c) != 0) || (e.c &&& d.l != 0)
theorem clash_bit {d e : Dd} : clash d e = true ↔ ∃ j : Nat, (d.c.testBit j = true ∧ (e.l.testBit j = true ∨ e.c.testBit j = true)) ∨ (e.c.testBit j = true ∧ d.l.testBit j = true) := by
  have key : ∀ x y : Nat, (x &&& y != 0) = true ↔ ∃ j, x.testBit j = true ∧ y.testBit j = true := by
    intro x y
    rw [bne_iff_ne]
    constructor
    · intro h
      obtain ⟨j, hj⟩ := Nat.exists_testBit_of_ne_zero h
      rw [Nat.testBit_and, Bool.and_eq_true] at hj
      exact ⟨j, hj⟩
    · rintro ⟨j, h1, h2⟩ h
      have e : (x &&& y).testBit j = true := by rw [Nat.testBit_and, h1, h2]; rfl
      rw [h, Nat.zero_testBit] at e
      cases e
  unfold clash
  rw [Bool.or_eq_true, key, key]
  constructor
  · rintro (⟨j, h1, h2⟩ | ⟨j, h⟩)
    · rw [Nat.testBit_or, Bool.or_eq_true] at h2
      exact ⟨j, .inl ⟨h1, h2⟩⟩
    · exact ⟨j, .inr h⟩
  · rintro ⟨j, ⟨h1, h2⟩ | h⟩
    · refine .inl ⟨j, h1, ?_⟩
      rw [Nat.testBit_or, Bool.or_eq_true]
      exact h2
    · exact .inr ⟨j, h⟩
theorem clash_comm (d e : Dd) : clash d e = clash e d := by
  have h : clash d e = true ↔ clash e d = true := by
    rw [clash_bit, clash_bit]
    constructor <;> (rintro ⟨j, h⟩; refine ⟨j, ?_⟩; rcases h with ⟨h1, h2 | h2⟩ | ⟨h1, h2⟩)
    · exact .inr ⟨h1, h2⟩
    · exact .inl ⟨h2, .inr h1⟩
    · exact .inl ⟨h1, .inl h2⟩
    · exact .inr ⟨h1, h2⟩
    · exact .inl ⟨h2, .inr h1⟩
    · exact .inl ⟨h1, .inl h2⟩
  cases h1 : clash d e <;> cases h2 : clash e d <;> simp_all

def sp_clash (K : PySem.W.Frag) : Sp := fun vs H Q _ => ∃ a b d e, vs = [.ref a, .ref b] ∧ TD H a d ∧ TD H b e ∧ Q (.bl (clash d e)) H
theorem len_clash {K vs H Q E} (h : sp_clash K vs H Q E) : vs.length = 2 := by
  obtain ⟨a, b, d, e, rfl, _⟩ := h
  rfl
abbrev n_clash : List Str := ["one", "other"]
def t_clash (K : PySem.W.Frag) : TS :=
  (tSeq (tIfS (tTest (tOp (rNeA K) (tOp rAnd (tOp (rIx K) (tVar 0) (tC (.int 2))) (tOp rOr (tOp (rIx K) (tVar 1) (tC (.int 1))) (tOp (rIx K) (tVar 1) (tC (.int 2))))) (tC (.int 0))))
  (tRet (tC (.bl true)))
  tNext)
  (tRet (tOp (rNeA K) (tOp rAnd (tOp (rIx K) (tVar 1) (tC (.int 2))) (tOp (rIx K) (tVar 0) (tC (.int 1)))) (tC (.int 0)))))
theorem nz_bne (x : Nat) : (!decide ((x : Int) = 0)) = (x != 0) := by
  by_cases h : x = 0
  · subst h
    rfl
  · rw [decide_eq_false (by omega), bne_iff_ne.mpr h]
    rfl
theorem r_clash {K vs H Q E} (h : sp_clash K vs H Q E) : t_clash K { nx := fun _ H' => Q .non H', rt := Q } (start n_clash vs) H := by
  obtain ⟨a, b, d, e, rfl, ha, hb, q⟩ := h
  unfold t_clash
  walk_at "go"
  rw [nz_bne]
  unfold clash at q
  refine ite2 (fun h => ?_) (fun h => ?_)
  · rw [h, Bool.true_or] at q
    exact q
  · walk_at "go"
    rw [nz_bne]
    rw [Bool.not_eq_true] at h
    rw [h, Bool.false_or] at q
    exact q

/-! ### a cell of the script -/
def sp_cell_at (K : PySem.W.Frag) : Sp := fun vs H Q _ => ∃ (a : Addr) (ns : List Int) (k : Nat), vs = [.ref a, .int (k : Int)] ∧ SqL K H a (ns.map V.int) ∧ Q (.int (ns.getD k 0)) H
theorem len_cell_at {K vs H Q E} (h : sp_cell_at K vs H Q E) : vs.length = 2 := by
  obtain ⟨a, ns, k, rfl, _⟩ := h
  rfl
abbrev n_cell_at : List Str := ["_law_script", "_law_k"]
def t_cell_at (K : PySem.W.Frag) : TS :=
  (tSeq (tIfS (tTest (tOp rLt (tVar 1) (tCB (rLen K) (tCons (tVar 0) tNil))))
  (tRet (tOp (rIx K) (tVar 0) (tVar 1)))
  tNext)
  (tRet (tC (.int 0))))
theorem r_cell_at {K vs H Q E} (h : sp_cell_at K vs H Q E) : t_cell_at K { nx := fun _ H' => Q .non H', rt := Q } (start n_cell_at vs) H := by
  obtain ⟨a, ns, k, rfl, ha, q⟩ := h
  unfold t_cell_at
  walk_at "go"
  refine len_l ha ?_
  walk_at "rd"
  rw [List.length_map]
  refine ite2 (fun h => ?_) (fun h => ?_)
  · have hk : k < ns.length := by simpa using h
    refine ix_l ha (atI_nat (j := k) (by rw [List.getElem?_map, List.getElem?_eq_getElem hk]; rfl)) ?_
    have e : ns.getD k 0 = ns[k] := by simp [List.getD, hk]
    rw [← e]
    exact q
  · have hk : ns.length ≤ k := by simpa using h
    have e : ns.getD k 0 = 0 := by simp [List.getD, hk]
    rw [e] at q
    exact q
end Pb

namespace Pb
/-! ### what the laws build: a diary of drawn deeds -/
theorem nn_nat {x : Int} (h : 0 ≤ x) : ∃ n : Nat, x = (n : Int) := ⟨x.toNat, by omega⟩
/-- a deed of boxes below sixty -/
def Ok60 (d : Dd) : Prop := d.l < 2 ^ 60 ∧ d.c < 2 ^ 60
theorem cut_ints (ns : List Int) (lo hi : Option Int) : ∃ ms : List Int, cutV (ns.map V.int) lo hi = ms.map V.int ∧ ms.length ≤ ns.length := by
  unfold cutV
  rw [← List.map_drop, ← List.map_take]
  refine ⟨_, rfl, ?_⟩
  rw [List.length_take, List.length_drop]
  omega
/-- the law's promise -/
def sp_law (K : PySem.W.Frag) : Sp := fun vs H Q _ => ∃ (a : Addr) (ns : List Int), vs = [.ref a] ∧ SqL K H a (ns.map V.int) ∧ ns.length ≤ 63 ∧ ∀ H', Q (.bl true) H'
theorem len_law {K vs H Q E} (h : sp_law K vs H Q E) : vs.length = 1 := by
  obtain ⟨a, cs, rfl, _⟩ := h
  rfl
/-- the deeds ds stand at the addresses as -/
def DL (H : Hp) : List Addr → List Dd → Prop
  | [], [] => True
  | a :: as, d :: ds => TD H a d ∧ DL H as ds
  | _, _ => False
theorem DL.mono {H H' : Hp} (s : Same H H') : ∀ {as : List Addr} {ds : List Dd}, DL H as ds → DL H' as ds
  | [], [], _ => trivial
  | a :: as, d :: ds, h => ⟨s _ _ h.1, DL.mono s h.2⟩
  | [], _ :: _, h => h.elim
  | _ :: _, [], h => h.elim
theorem DL.len {H : Hp} : ∀ {as : List Addr} {ds : List Dd}, DL H as ds → as.length = ds.length
  | [], [], _ => rfl
  | a :: as, d :: ds, h => congrArg (· + 1) (DL.len h.2)
  | [], _ :: _, h => h.elim
  | _ :: _, [], h => h.elim
theorem DL.get {H : Hp} : ∀ {as : List Addr} {ds : List Dd} {i : Nat} {a : Addr}, DL H as ds → as[i]? = some a → ∃ d, ds[i]? = some d ∧ TD H a d
  | a :: as, d :: ds, 0, _, h, e => by
    cases e
    exact ⟨d, rfl, h.1⟩
  | a :: as, d :: ds, i + 1, _, h, e => DL.get (i := i) h.2 (by simpa using e)
  | [], [], _, _, _, e => by simp at e
  | [], _ :: _, _, _, h, _ => h.elim
  | _ :: _, [], _, _, h, _ => h.elim
theorem DL.getd {H : Hp} {as : List Addr} {ds : List Dd} {i : Nat} {d : Dd} (h : DL H as ds) (e : ds[i]? = some d) : ∃ a, as[i]? = some a ∧ TD H a d := by
  have hl := (List.getElem?_eq_some_iff.mp e).1
  rw [← h.len] at hl
  obtain ⟨d', e', t⟩ := h.get (List.getElem?_eq_getElem hl)
  rw [e] at e'
  cases e'
  exact ⟨_, List.getElem?_eq_getElem hl, t⟩
theorem DL.app {H : Hp} : ∀ {as bs : List Addr} {ds es : List Dd}, DL H as ds → DL H bs es → DL H (as ++ bs) (ds ++ es)
  | [], _, [], _, _, h => h
  | a :: as, _, d :: ds, _, h, h' => ⟨h.1, DL.app h.2 h'⟩
  | [], _, _ :: _, _, h, _ => h.elim
  | _ :: _, _, [], _, h, _ => h.elim
theorem DL.take {H : Hp} : ∀ {as : List Addr} {ds : List Dd} (n : Nat), DL H as ds → DL H (as.take n) (ds.take n)
  | _, _, 0, _ => trivial
  | [], [], _ + 1, _ => trivial
  | a :: as, d :: ds, n + 1, h => ⟨h.1, DL.take n h.2⟩
  | [], _ :: _, _ + 1, h => h.elim
  | _ :: _, [], _ + 1, h => h.elim
theorem DL.drop {H : Hp} : ∀ {as : List Addr} {ds : List Dd} (n : Nat), DL H as ds → DL H (as.drop n) (ds.drop n)
  | _, _, 0, h => h
  | [], [], _ + 1, _ => trivial
  | a :: as, d :: ds, n + 1, h => DL.drop n h.2
  | [], _ :: _, _ + 1, h => h.elim
  | _ :: _, [], _ + 1, h => h.elim
theorem DL.one {H : Hp} {a : Addr} {d : Dd} (h : TD H a d) : DL H [a] [d] := ⟨h, trivial⟩
/-- a list of deeds at p -/
abbrev LD (H : Hp) (p : Addr) (as : List Addr) (ds : List Dd) : Prop := H p = some (.lst (as.map V.ref)) ∧ DL H as ds
theorem LD.mono {H H' : Hp} {p : Addr} {as : List Addr} {ds : List Dd} (s : Same H H') (h : LD H p as ds) : LD H' p as ds := ⟨s _ _ h.1, h.2.mono s⟩
theorem ref_at {as : List Addr} {i : Nat} {a : Addr} (h : as[i]? = some a) : (as.map V.ref)[i]? = some (.ref a) := by
  rw [List.getElem?_map, h]
  rfl
/-- cuts of lists at numbers -/
theorem cutV_to (xs : List V) (n : Nat) : cutV xs none (some (n : Int)) = xs.take n := by
  unfold cutV
  rw [HT.sIx_nat, HT.sIx_none, List.drop_zero, Nat.sub_zero]
  by_cases h : n ≤ xs.length
  · rw [Nat.min_eq_left h]
  · rw [Nat.min_eq_right (by omega), List.take_length, List.take_of_length_le (by omega)]
theorem cutV_from (xs : List V) (n : Nat) : cutV xs (some (n : Int)) none = xs.drop n := by
  unfold cutV
  rw [HT.sIx_nat, HT.sIx_none]
  by_cases h : n ≤ xs.length
  · rw [Nat.min_eq_left h, List.take_of_length_le (by simp)]
  · rw [Nat.min_eq_right (by omega), Nat.sub_self, List.take_zero, List.drop_of_length_le (by omega)]
theorem cutV_mid (xs : List V) (n m : Nat) : cutV xs (some (n : Int)) (some (m : Int)) = (xs.drop n).take (m - n) := by
  unfold cutV
  rw [HT.sIx_nat, HT.sIx_nat]
  by_cases h : n ≤ xs.length
  · by_cases h2 : m ≤ xs.length
    · rw [Nat.min_eq_left h, Nat.min_eq_left h2]
    · rw [Nat.min_eq_left h, Nat.min_eq_right (by omega), List.take_of_length_le (by simp), List.take_of_length_le (by rw [List.length_drop]; omega)]
  · rw [Nat.min_eq_right (a := n) (by omega), List.drop_of_length_le (by omega), List.drop_of_length_le (by omega), List.take_nil, List.take_nil]

theorem len_lclash {K vs H Q E} (h : sp_clash K vs H Q E) : vs.length = 2 := len_clash h
abbrev n_lclash : List Str := ["_law_one", "_law_other"]
def t_lclash (K : PySem.W.Frag) : TS :=
  (tSeq (tIfS (tTest (tOp (rNeA K) (tOp rAnd (tOp (rIx K) (tVar 0) (tC (.int 2))) (tOp rOr (tOp (rIx K) (tVar 1) (tC (.int 1))) (tOp (rIx K) (tVar 1) (tC (.int 2))))) (tC (.int 0))))
  (tRet (tC (.bl true)))
  tNext)
  (tRet (tOp (rNeA K) (tOp rAnd (tOp (rIx K) (tVar 1) (tC (.int 2))) (tOp (rIx K) (tVar 0) (tC (.int 1)))) (tC (.int 0)))))
theorem r_lclash {K vs H Q E} (h : sp_clash K vs H Q E) : t_lclash K { nx := fun _ H' => Q .non H', rt := Q } (start n_lclash vs) H := r_clash h

def sp_bits (K : PySem.W.Frag) : Sp := fun vs H Q _ => ∃ (a : Addr) (w : Int) (b0 b1 b2 : Nat), vs = [.int w, .ref a] ∧ H a = some (.lst [.int b0, .int b1, .int b2]) ∧ b0 < 60 ∧ b1 < 60 ∧ b2 < 60 ∧ ∀ H' (x : Nat), Same H H' → x < 2 ^ 60 → Q (.int x) H'
theorem len_bits {K vs H Q E} (h : sp_bits K vs H Q E) : vs.length = 2 := by
  obtain ⟨a, w, b0, b1, b2, rfl, _⟩ := h
  rfl
abbrev n_bits : List Str := ["_law_which", "_law_boxes", "_law_found", "_law_k"]
def t_bits (K : PySem.W.Frag) : TS :=
  (tSeq (tAsg (tC (.int 0)) (gName 2))
  (tSeq (tFor (iRng1 (tCons (tC (.int 3)) tNil)) (gName 3)
  (tIfS (tTest (tOp (rEqA K) (tOp rMod (tOp rDiv (tVar 0) (tOp (rIx K) (tLst (tCons (tC (.int 1)) (tCons (tC (.int 2)) (tCons (tC (.int 4)) tNil)))) (tVar 3))) (tC (.int 2))) (tC (.int 1))))
  (tAsg (tOp rOr (tVar 2) (tOp rShl (tC (.int 1)) (tOp (rIx K) (tVar 1) (tVar 3)))) (gName 2))
  tNext))
  (tRet (tVar 2))))
theorem shl1 (b : Nat) : (1 : Int) * 2 ^ ((b : Int)).toNat = ((2 ^ b : Nat) : Int) := by
  rw [Int.toNat_natCast, Int.one_mul]
  simp
theorem r_bits {K vs H Q E} (h : sp_bits K vs H Q E) : t_bits K { nx := fun _ H' => Q .non H', rt := Q } (start n_bits vs) H := by
  obtain ⟨a, w, b0, b1, b2, rfl, ha, h0, h1, h2, q⟩ := h
  unfold t_bits
  walk_at "go"
  refine forR1 (n := 3) (fun i σ H2 => ∃ (x : Nat) (v3 : Option V), σ = [some (.int w), some (.ref a), some (.int (x : Int)), v3] ∧ Same H H2 ∧ x < 2 ^ 60) (by decide) ⟨0, none, rfl, Same.refl _, by decide⟩ ?_ ?_
  · rintro i σ H2 hi ⟨x, v3, rfl, s2, hx⟩
    walk_at "go"
    refine lstQ fun p H3 hp s3 g3 => ?_
    have ga := s3 _ _ (s2 _ _ ha)
    have hc : ∃ c : Int, [V.int 1, V.int 2, V.int 4][i]? = some (.int c) ∧ 0 < c ∧ c.natAbs.log2 < 9000 := by
      rcases (show i = 0 ∨ i = 1 ∨ i = 2 by omega) with rfl | rfl | rfl
      · exact ⟨1, rfl, by decide, by decide⟩
      · exact ⟨2, rfl, by decide, by decide⟩
      · exact ⟨4, rfl, by decide, by decide⟩
    obtain ⟨c, hc, hc0, hc1⟩ := hc
    have hb : ∃ b : Nat, [V.int (b0 : Int), V.int (b1 : Int), V.int (b2 : Int)][i]? = some (.int (b : Int)) ∧ b < 60 := by
      rcases (show i = 0 ∨ i = 1 ∨ i = 2 by omega) with rfl | rfl | rfl
      · exact ⟨b0, rfl, h0⟩
      · exact ⟨b1, rfl, h1⟩
      · exact ⟨b2, rfl, h2⟩
    obtain ⟨b, hb, hb0⟩ := hb
    refine ix_l' g3 (atI_nat (j := i) hc) ?_
    walk_at "go"
    refine ⟨⟨hc0, hc1⟩, ?_⟩
    refine ite2 (fun c => ?_) (fun c => ?_)
    · walk_at "go"
      refine ix_l' ga (atI_nat (j := i) hb) ?_
      walk_at "go"
      refine ⟨⟨by omega, by omega, by decide⟩, ?_⟩
      rw [shl1]
      walk_at "go"
      exact ⟨_, _, rfl, s2.trans s3, Nat.or_lt_two_pow hx (Nat.pow_lt_pow_right (by decide) hb0)⟩
    · exact ⟨_, _, rfl, s2.trans s3, hx⟩
  · rintro σ H2 ⟨x, v3, rfl, s2, hx⟩
    walk_at "go"
    exact q _ _ s2 hx

def sp_far_bits (K : PySem.W.Frag) : Sp := fun vs H Q _ => ∃ c : Int, vs = [.int c] ∧ ∀ x : Nat, x < 2 ^ 60 → Q (.int x) H
theorem len_far_bits {K vs H Q E} (h : sp_far_bits K vs H Q E) : vs.length = 1 := by
  obtain ⟨c, rfl, _⟩ := h
  rfl
abbrev n_far_bits : List Str := ["_law_cell"]
def t_far_bits (K : PySem.W.Frag) : TS :=
  (tSeq (tIfS (tTest (tOp (rEqA K) (tOp rMod (tVar 0) (tC (.int 3))) (tC (.int 0))))
  (tRet (tC (.int 0)))
  tNext)
  (tSeq (tIfS (tTest (tOp (rEqA K) (tOp rMod (tVar 0) (tC (.int 3))) (tC (.int 1))))
  (tRet (tOp rShl (tC (.int 1)) (tOp rMod (tOp rDiv (tVar 0) (tC (.int 3))) (tC (.int 60)))))
  tNext)
  (tRet (tOp rMod (tOp rDiv (tVar 0) (tC (.int 3))) (tOp rPow (tC (.int 2)) (tC (.int 60)))))))
theorem r_far_bits {K vs H Q E} (h : sp_far_bits K vs H Q E) : t_far_bits K { nx := fun _ H' => Q .non H', rt := Q } (start n_far_bits vs) H := by
  obtain ⟨c, rfl, q⟩ := h
  unfold t_far_bits
  walk_at "go"
  obtain ⟨b, hb⟩ := nn_nat (Int.emod_nonneg (c / 3) (show (60 : Int) ≠ 0 by decide))
  obtain ⟨e, he⟩ := nn_nat (Int.emod_nonneg (c / 3) (show (1152921504606846976 : Int) ≠ 0 by decide))
  refine ite2 (fun c => ?_) (fun c => ?_)
  · exact q 0 (by decide)
  · walk_at "go"
    refine ite2 (fun c => ?_) (fun c => ?_)
    · walk_at "go"
      rw [hb]
      refine ⟨⟨by omega, by omega, by decide⟩, ?_⟩
      rw [shl1]
      exact q _ (Nat.pow_lt_pow_right (by decide) (by omega))
    · walk_at "go"
      rw [he]
      exact q _ (by omega)

def sp_names (K : PySem.W.Frag) : Sp := fun vs H Q _ => ∃ c o : Int, vs = [.int c, .int o] ∧ ∀ p H' (n0 n1 n2 : Int), H p = none → Same H H' → H' p = some (.lst [.int n0, .int n1, .int n2]) → Q (.ref p) H'
theorem len_names {K vs H Q E} (h : sp_names K vs H Q E) : vs.length = 2 := by
  obtain ⟨c, o, rfl, _⟩ := h
  rfl
abbrev n_names : List Str := ["_law_cell", "_law_other", "_law_base", "_law_step"]
def t_names (K : PySem.W.Frag) : TS :=
  (tSeq (tAsg (tOp rMod (tVar 0) (tOp rPow (tC (.int 10)) (tC (.int 60)))) (gName 2))
  (tSeq (tAsg (tOp (rIx K) (tLst (tCons (tC (.int 1)) (tCons (tOp rPow (tC (.int 10)) (tC (.int 7))) (tCons (tOp rPow (tC (.int 10)) (tC (.int 30))) (tCons (tOp rPow (tC (.int 10)) (tC (.int 59))) tNil))))) (tOp rMod (tVar 1) (tC (.int 4)))) (gName 3))
  (tRet (tLst (tCons (tVar 2) (tCons (tOp rMod (tOp rPlus (tVar 2) (tVar 3)) (tOp rPow (tC (.int 10)) (tC (.int 60)))) (tCons (tOp rMod (tOp rPlus (tVar 2) (tOp rMul (tC (.int 2)) (tVar 3))) (tOp rPow (tC (.int 10)) (tC (.int 60)))) tNil)))))))
theorem r_names {K vs H Q E} (h : sp_names K vs H Q E) : t_names K { nx := fun _ H' => Q .non H', rt := Q } (start n_names vs) H := by
  obtain ⟨c, o, rfl, q⟩ := h
  unfold t_names
  walk_at "go"
  refine lstQ fun p H1 hp s1 g1 => ?_
  walk_at "go"
  obtain ⟨b, hb⟩ := nn_nat (Int.emod_nonneg o (show (4 : Int) ≠ 0 by decide))
  have hb4 : b < 4 := by omega
  rw [hb]
  obtain ⟨st, hst⟩ : ∃ st : Int, [V.int 1, V.int 10000000, V.int 1000000000000000000000000000000, V.int 100000000000000000000000000000000000000000000000000000000000][b]? = some (.int st) := by
    rcases (show b = 0 ∨ b = 1 ∨ b = 2 ∨ b = 3 by omega) with rfl | rfl | rfl | rfl <;> exact ⟨_, rfl⟩
  refine ix_l' g1 (atI_nat (j := b) hst) ?_
  walk_at "go"
  refine lstQ fun p2 H2 hp2 s2 g2 => ?_
  exact q p2 H2 _ _ _ (s1.free hp2) (s1.trans s2) g2

def sp_near (K : PySem.W.Frag) : Sp := fun vs H Q _ => ∃ (w : Int) (a b : Addr) (n0 n1 n2 : Int) (b0 b1 b2 : Nat), vs = [.int w, .ref a, .ref b] ∧ H a = some (.lst [.int n0, .int n1, .int n2]) ∧ H b = some (.lst [.int b0, .int b1, .int b2]) ∧ b0 < 60 ∧ b1 < 60 ∧ b2 < 60 ∧
  ∀ p H' d, H p = none → Same H H' → TD H' p d → Ok60 d → Q (.ref p) H'
theorem len_near {K vs H Q E} (h : sp_near K vs H Q E) : vs.length = 3 := by
  obtain ⟨w, a, b, n0, n1, n2, b0, b1, b2, rfl, _⟩ := h
  rfl
abbrev n_near : List Str := ["_law_number", "_law_names_here", "_law_boxes", "_law_changes"]
def t_near (K : PySem.W.Frag) : TS :=
  (tSeq (tAsg (tOp (rIx K) (tLst (tCons (tC (.int 0)) (tCons (tC (.int 0)) (tCons (tC (.int 0)) (tCons (tC (.int 0)) (tCons (tC (.int 0)) (tCons (tC (.int 1)) (tCons (tC (.int 2)) (tCons (tC (.int 3)) (tCons (tC (.int 4)) (tCons (tC (.int 5)) (tCons (tC (.int 6)) (tCons (tC (.int 7)) tNil))))))))))))) (tOp rMod (tOp rDiv (tVar 0) (tC (.int 24))) (tC (.int 12)))) (gName 3))
  (tRet (tTup (tCons (tOp (rIx K) (tVar 1) (tOp rMod (tVar 0) (tC (.int 3)))) (tCons (tCall (sp_bits K) [] E0 (tCons (tOp rMod (tOp rDiv (tVar 0) (tC (.int 3))) (tC (.int 8))) (tCons (tVar 2) tNil))) (tCons (tCall (sp_bits K) [] E0 (tCons (tVar 3) (tCons (tVar 2) tNil))) tNil))))))
theorem r_near {K vs H Q E} (h : sp_near K vs H Q E) : t_near K { nx := fun _ H' => Q .non H', rt := Q } (start n_near vs) H := by
  obtain ⟨w, a, b, n0, n1, n2, b0, b1, b2, rfl, ha, hb, h0, h1, h2, q⟩ := h
  unfold t_near
  walk_at "go"
  refine lstQ fun p H1 hp s1 g1 => ?_
  walk_at "go"
  obtain ⟨c, hc⟩ := nn_nat (Int.emod_nonneg (w / 24) (show (12 : Int) ≠ 0 by decide))
  obtain ⟨m, hm⟩ := nn_nat (Int.emod_nonneg w (show (3 : Int) ≠ 0 by decide))
  have hc12 : c < 12 := by omega
  have hm3 : m < 3 := by omega
  rw [hc]
  obtain ⟨st, hst⟩ : ∃ st : Int, [V.int 0, V.int 0, V.int 0, V.int 0, V.int 0, V.int 1, V.int 2, V.int 3, V.int 4, V.int 5, V.int 6, V.int 7][c]? = some (.int st) := by
    rcases (show c = 0 ∨ c = 1 ∨ c = 2 ∨ c = 3 ∨ c = 4 ∨ c = 5 ∨ c = 6 ∨ c = 7 ∨ c = 8 ∨ c = 9 ∨ c = 10 ∨ c = 11 by omega) with rfl | rfl | rfl | rfl | rfl | rfl | rfl | rfl | rfl | rfl | rfl | rfl <;> exact ⟨_, rfl⟩
  refine ix_l' g1 (atI_nat (j := c) hst) ?_
  walk_at "go"
  rw [hm]
  obtain ⟨nm, hnm⟩ : ∃ nm : Int, [V.int n0, V.int n1, V.int n2][m]? = some (.int nm) := by
    rcases (show m = 0 ∨ m = 1 ∨ m = 2 by omega) with rfl | rfl | rfl <;> exact ⟨_, rfl⟩
  refine ix_l' (s1 _ _ ha) (atI_nat (j := m) hnm) ?_
  walk_at "go"
  refine ⟨b, _, b0, b1, b2, rfl, s1 _ _ hb, h0, h1, h2, fun H2 x s2 hx => ?_⟩
  walk_at "go"
  refine ⟨b, _, b0, b1, b2, rfl, s2 _ _ (s1 _ _ hb), h0, h1, h2, fun H3 y s3 hy => ?_⟩
  walk_at "go"
  refine tupQ fun p4 H4 hp4 s4 g4 => ?_
  have s13 := (s1.trans s2).trans s3
  exact q p4 H4 ⟨nm, x, y⟩ (s13.free hp4) (s13.trans s4) g4 ⟨hx, hy⟩
end Pb
namespace Pb
theorem DL.keep {H H1 : Hp} {p : Addr} {xs : List V} (hp : H p = some (.lst xs)) (ne : ∀ b, b ≠ p → H1 b = H b) : ∀ {as : List Addr} {ds : List Dd}, DL H as ds → DL H1 as ds
  | [], [], _ => trivial
  | a :: as, d :: ds, h => ⟨by
      have n : a ≠ p := ne_of h.1 hp (by intro z; cases z)
      show H1 a = _
      rw [ne a n]
      exact h.1, DL.keep hp ne h.2⟩
  | [], _ :: _, h => h.elim
  | _ :: _, [], h => h.elim
theorem DL.ofAll {H : Hp} {P : Dd → Prop} : ∀ {as : List Addr}, (∀ (i : Nat) a, as[i]? = some a → ∃ d, TD H a d ∧ P d) → ∃ ds, DL H as ds ∧ ∀ d ∈ ds, P d
  | [], _ => ⟨[], trivial, by simp⟩
  | a :: as, h => by
    obtain ⟨d, hd, pd⟩ := h 0 a rfl
    obtain ⟨ds, h1, h2⟩ := DL.ofAll (as := as) (P := P) fun i b e => h (i + 1) b (by simpa using e)
    refine ⟨d :: ds, ⟨hd, h1⟩, fun e he => ?_⟩
    rcases List.mem_cons.mp he with rfl | he
    · exact pd
    · exact h2 e he
theorem ints_at {ns : List Int} {i : Nat} (h : i < ns.length) : (ns.map V.int)[i]? = some (.int (ns[i])) := by
  rw [List.getElem?_map, List.getElem?_eq_getElem h]
  rfl
def sp_diary (K : PySem.W.Frag) : Sp := fun vs H Q _ => ∃ (a : Addr) (ns : List Int) (m : Int), vs = [.ref a, .int m] ∧ SqL K H a (ns.map V.int) ∧ ns.length ≤ 63 ∧
  ∀ p H' as ds, H p = none → Same H H' → LD H' p as ds → (∀ d ∈ ds, Ok60 d) → as.length ≤ 63 → Q (.ref p) H'
theorem len_diary {K vs H Q E} (h : sp_diary K vs H Q E) : vs.length = 2 := by
  obtain ⟨a, ns, m, rfl, _⟩ := h
  rfl
abbrev n_diary : List Str := ["_law_script", "_law_most", "_law_cells", "_law_diary_here", "_law_k", "_law_looks", "_law_names_here", "_law_boxes", "_law_cell"]
def t_diary (K : PySem.W.Frag) : TS :=
  (tSeq (tAsg (tSl (rSlA K) (tVar 0) (tPart (tC (.int 6))) (tPart (tVar 1))) (gName 2))
  (tSeq (tIfS (tTest (tOp (rEqA K) (tOp rMod (tCall (sp_cell_at K) [] E0 (tCons (tVar 0) (tCons (tC (.int 0)) tNil))) (tC (.int 3))) (tC (.int 1))))
  (tSeq (tAsg (tLst tNil) (gName 3))
  (tSeq (tFor (iRng1 (tCons (tOp rDiv (tCB (rLen K) (tCons (tVar 2) tNil)) (tC (.int 3))) tNil)) (gName 4)
  (tSeq (tAsg (tCall (sp_far_bits K) [] E0 (tCons (tOp (rIx K) (tVar 2) (tOp rPlus (tOp rMul (tC (.int 3)) (tVar 4)) (tC (.int 1)))) tNil)) (gName 5))
  (tDrop (tBM K "list" rAppend (tVar 3) (tCons (tTup (tCons (tOp rMod (tOp (rIx K) (tVar 2) (tOp rMul (tC (.int 3)) (tVar 4))) (tOp rPow (tC (.int 10)) (tC (.int 60)))) (tCons (tVar 5) (tCons (tCall (sp_far_bits K) [] E0 (tCons (tOp (rIx K) (tVar 2) (tOp rPlus (tOp rMul (tC (.int 3)) (tVar 4)) (tC (.int 2)))) tNil)) tNil)))) tNil)))))
  (tRet (tVar 3))))
  tNext)
  (tSeq (tAsg (tCall (sp_names K) [] E0 (tCons (tCall (sp_cell_at K) [] E0 (tCons (tVar 0) (tCons (tC (.int 1)) tNil))) (tCons (tCall (sp_cell_at K) [] E0 (tCons (tVar 0) (tCons (tC (.int 2)) tNil))) tNil))) (gName 6))
  (tSeq (tAsg (tLc (iRng1 (tCons (tC (.int 3)) tNil)) (gName 4) tYes (tOp rMod (tCall (sp_cell_at K) [] E0 (tCons (tVar 0) (tCons (tOp rPlus (tC (.int 3)) (tVar 4)) tNil))) (tC (.int 60))) [4]) (gName 7))
  (tRet (tLc (iList K (tVar 2)) (gName 8) tYes (tCall (sp_near K) [] E0 (tCons (tOp rMod (tOp rMul (tVar 8) (tC (.int 175))) (tC (.int 288))) (tCons (tVar 6) (tCons (tVar 7) tNil)))) [8]))))))
theorem r_diary {K vs H Q E} (h : sp_diary K vs H Q E) : t_diary K { nx := fun _ H' => Q .non H', rt := Q } (start n_diary vs) H := by
  obtain ⟨a, ns, m, rfl, ha, hl, q⟩ := h
  unfold t_diary
  walk_at "go"
  obtain ⟨ms, em, hm⟩ := cut_ints ns (some 6) (some m)
  refine sl_l ha fun p H1 hp s1 g1 => ?_
  rw [em] at g1
  walk_at "go"
  refine ⟨a, ns, 0, rfl, s1.seq ha, ?_⟩
  walk_at "go"
  refine ite2 (fun c => ?_) (fun c => ?_)
  · walk_at "go"
    refine lstQ fun p2 H2 hp2 s2 g2 => ?_
    have g1' := s2 _ _ g1
    walk_at "go"
    rw [List.length_map, show ((ms.length : Nat) : Int) / 3 = ((ms.length / 3 : Nat) : Int) by omega]
    refine forR1 (n := ms.length / 3) (fun i σ H3 => ∃ (as : List Addr) (ds : List Dd) (v4 v5 v6 v7 v8 : Option V), σ = [some (.ref a), some (.int m), some (.ref p), some (.ref p2), v4, v5, v6, v7, v8] ∧ Same H1 H3 ∧ LD H3 p2 as ds ∧ (∀ d ∈ ds, Ok60 d) ∧ as.length = i) (by omega)
      ⟨[], [], none, none, none, none, none, rfl, s2, ⟨g2, trivial⟩, by simp, rfl⟩ ?_ ?_
    · rintro i σ H3 hi ⟨as, ds, v4, v5, v6, v7, v8, rfl, s3, ⟨gp, hd⟩, hok, hlen⟩
      have g13 := s3 _ _ g1
      walk_at "go"
      rw [show (3 : Int) * (i : Int) + 1 = ((3 * i + 1 : Nat) : Int) by omega]
      refine ix_l' g13 (atI_nat (j := 3 * i + 1) (ints_at (by omega))) ?_
      walk_at "go"
      refine ⟨_, rfl, fun x hx => ?_⟩
      walk_at "go"
      refine ⟨ty_l gp, ?_⟩
      rw [show (3 : Int) * (i : Int) = ((3 * i : Nat) : Int) by omega]
      refine ix_l' g13 (atI_nat (j := 3 * i) (ints_at (by omega))) ?_
      walk_at "go"
      rw [show ((3 * i : Nat) : Int) + 2 = ((3 * i + 2 : Nat) : Int) by omega]
      refine ix_l' g13 (atI_nat (j := 3 * i + 2) (ints_at (by omega))) ?_
      walk_at "go"
      refine ⟨_, rfl, fun y hy => ?_⟩
      walk_at "go"
      refine tupQ fun p4 H4 hp4 s4 g4 => ?_
      walk_at "go"
      refine append_r (s3.trans s4) hp2 (s4 _ _ gp) (by rw [List.length_map]; omega) fun H5 s5 g5 ne5 => ?_
      have hd4 := (hd.mono s4).app (DL.one (a := p4) (d := ⟨_, x, y⟩) g4)
      refine ⟨as ++ [p4], ds ++ [⟨_, x, y⟩], _, _, _, _, _, rfl, s5, ⟨by rw [g5, List.map_append]; rfl, hd4.keep (s4 _ _ gp) ne5⟩, fun d hd => ?_, by simp [hlen]⟩
      rcases List.mem_append.mp hd with hd | hd
      · exact hok d hd
      · rw [List.mem_singleton.mp hd]
        exact ⟨hx, hy⟩
    · rintro σ H3 ⟨as, ds, v4, v5, v6, v7, v8, rfl, s3, hL, hok, hlen⟩
      walk_at "go"
      exact q p2 H3 as ds (s1.free hp2) (s1.trans s3) hL hok (by omega)
  · walk_at "go"
    refine ⟨a, ns, 1, rfl, s1.seq ha, ?_⟩
    walk_at "go"
    refine ⟨a, ns, 2, rfl, s1.seq ha, ?_⟩
    walk_at "go"
    refine ⟨_, _, rfl, fun p2 H2 n0 n1 n2 hp2 s2 g2 => ?_⟩
    walk_at "go"
    refine lcR1 (n := 3) (fun j => some (.int (ns.getD (3 + j) 0 % 60))) (by decide) ?_ ?_
    · intro j H3 hj s3 R hR R2 hR2
      walk_at "go"
      refine ⟨a, ns, 3 + j, by simp, s3.seq (s2.seq (s1.seq ha)), ?_⟩
      walk_at "go"
      exact hR _ _ rfl (Same.refl _)
    intro p3 H3 hp3 s3 g3
    obtain ⟨b0, e0⟩ := nn_nat (Int.emod_nonneg (ns.getD (3 + 0) 0) (show (60 : Int) ≠ 0 by decide))
    obtain ⟨b1, e1⟩ := nn_nat (Int.emod_nonneg (ns.getD (3 + 1) 0) (show (60 : Int) ≠ 0 by decide))
    obtain ⟨b2, e2⟩ := nn_nat (Int.emod_nonneg (ns.getD (3 + 2) 0) (show (60 : Int) ≠ 0 by decide))
    have g3' : H3 p3 = some (.lst [.int (b0 : Int), .int (b1 : Int), .int (b2 : Int)]) := by
      rw [g3]
      show some (HO.lst [.int (ns.getD (3 + 0) 0 % 60), .int (ns.getD (3 + 1) 0 % 60), .int (ns.getD (3 + 2) 0 % 60)]) = _
      rw [e0, e1, e2]
    have g13 := s3 _ _ (s2 _ _ g1)
    have g23 := s3 _ _ g2
    walk_at "go"
    refine lcLn (.of g13) (fun _ o => ∃ d : Dd, o = .tup [.int d.n, .int (d.l : Int), .int (d.c : Int)] ∧ Ok60 d) (by rw [List.length_map]; omega) ?_ ?_
    · intro i x H4 hx s4 R hR R2
      obtain ⟨z, rfl⟩ : ∃ z, x = V.int z := by
        rw [List.getElem?_map] at hx
        cases e : ms[i]? with
        | none => rw [e] at hx; cases hx
        | some z => rw [e] at hx; exact ⟨z, (Option.some.inj hx).symm⟩
      walk_at "go"
      refine ⟨_, p2, p3, n0, n1, n2, b0, b1, b2, rfl, s4 _ _ g23, s4 _ _ g3', by omega, by omega, by omega, fun p5 H5 d hp5 s5 g5 hd => ?_⟩
      exact hR p5 _ H5 hp5 g5 ⟨d, rfl, hd⟩ s5
    intro p4 H4 as hp4 s4 g4 hl4 hnd hna hob
    obtain ⟨ds, hds, hok⟩ := DL.ofAll (H := H4) (P := Ok60) (as := as) fun i b e => by
      obtain ⟨_, o, ho, d, rfl, hd⟩ := hob i b e
      exact ⟨d, ho, hd⟩
    have s13 := (s1.trans s2).trans s3
    exact q p4 H4 as ds (s13.free hp4) (s13.trans s4) ⟨g4, hds⟩ hok (by rw [hl4, List.length_map]; omega)
end Pb

namespace Pb
/-! ### data in the heap -/
theorem ty_sqL {K : PySem.W.Frag} {H : Hp} {a : Addr} {xs : List V} (h : SqL K H a xs) : TyX K H (.ref a) (.type "list") := by
  rcases h with (h | ⟨o, h⟩) | ⟨o, its, n, e, c, _⟩
  · exact .base (.lst h)
  · exact .base (.frz h)
  · exact .kList e c
theorem ty_sqT {K : PySem.W.Frag} {H : Hp} {a : Addr} {xs : List V} (h : SqT K H a xs) : TyX K H (.ref a) (.type "tuple") := by
  rcases h with (h | ⟨o, h⟩) | ⟨o, its, n, e, c, _⟩
  · exact .base (.tup h)
  · exact .fTuple h
  · exact .kTuple e c
theorem isiX {K : PySem.W.Frag} {H : Hp} {x : V} {T T' : String} {b : Bool} {Q : VK} (h : TyX K H x (.type T)) (hk : kitB T T' = some b) (q : Q (.bl b) H) : rIsi K [x, .ty T'] H Q :=
  ⟨x, .ty T', .type T, .type T', b, rfl, .ty _, h, kit_ty hk, q⟩
mutual
theorem Dp.up {K : PySem.W.Frag} {H H' : Hp} (s : Same H H') : ∀ {v : V} {d : PyData}, Dp K H v d → Dp K H' v d
  | _, _, .non => .non
  | _, _, .bl b => .bl b
  | _, _, .int i => .int i
  | _, _, .str x => .str x
  | _, _, .lst h hs => .lst (s.seq h) (DpAll.up s hs)
  | _, _, .tup h hs => .tup (sq_t s h) (DpAll.up s hs)
theorem DpAll.up {K : PySem.W.Frag} {H H' : Hp} (s : Same H H') : ∀ {vs : List V} {ds : List PyData}, DpAll K H vs ds → DpAll K H' vs ds
  | _, _, .nil => .nil
  | _, _, .cons h hs => .cons (Dp.up s h) (DpAll.up s hs)
end
theorem DpAll.len {K : PySem.W.Frag} {H : Hp} : ∀ {vs : List V} {ds : List PyData}, DpAll K H vs ds → vs.length = ds.length
  | _, _, .nil => rfl
  | _, _, .cons _ hs => congrArg (· + 1) (DpAll.len hs)
theorem DpAll.get {K : PySem.W.Frag} {H : Hp} : ∀ {vs : List V} {ds : List PyData} {i : Nat} {v : V}, DpAll K H vs ds → vs[i]? = some v → ∃ d, ds[i]? = some d ∧ Dp K H v d
  | _, _, _, _, .nil, e => by simp at e
  | _, _, 0, _, .cons h _, e => by
    cases e
    exact ⟨_, rfl, h⟩
  | _, _, i + 1, _, .cons _ hs, e => DpAll.get (i := i) hs (by simpa using e)
theorem DpAll.app {K : PySem.W.Frag} {H : Hp} : ∀ {vs ws : List V} {ds es : List PyData}, DpAll K H vs ds → DpAll K H ws es → DpAll K H (vs ++ ws) (ds ++ es)
  | _, _, _, _, .nil, h => h
  | _, _, _, _, .cons a hs, h => .cons a (DpAll.app hs h)
theorem DpAll.ints {K : PySem.W.Frag} {H : Hp} : ∀ ns : List Int, DpAll K H (ns.map V.int) (ns.map PyData.int)
  | [] => .nil
  | n :: r => .cons (.int n) (DpAll.ints r)
/-- whole numbers, lists and tuples of such, at most n deep -/
def okD : Nat → PyData → Prop
  | 0, _ => False
  | _ + 1, .int _ => True
  | n + 1, .list ds => ∀ d ∈ ds, okD n d
  | n + 1, .tuple ds => ∀ d ∈ ds, okD n d
  | _ + 1, _ => False
theorem okD.up {n : Nat} : ∀ {d : PyData}, okD n d → okD (n + 1) d := by
  induction n with
  | zero => exact fun h => h.elim
  | succ n ih =>
    intro d h
    cases d with
    | int _ => trivial
    | list ds => exact fun e he => ih (h e he)
    | tuple ds => exact fun e he => ih (h e he)
    | none => exact h
    | bool _ => exact h
    | str _ => exact h
    | dict _ => exact h
theorem okD.le {n m : Nat} (h : n ≤ m) {d : PyData} (k : okD n d) : okD m d := by
  induction h with
  | refl => exact k
  | step _ ih => exact ih.up
theorem layAll : ∀ {ds : List PyData}, (∀ d ∈ ds, d.canLay0 = true) → PyData.canLayAll0 ds = true
  | [], _ => rfl
  | d :: ds, h => by
    rw [PyData.canLayAll0, h d (by simp), layAll (ds := ds) fun e he => h e (by simp [he])]
    rfl
theorem depAll {n : Nat} : ∀ {ds : List PyData}, (∀ d ∈ ds, d.depth ≤ n) → PyData.depthAll ds ≤ n
  | [], _ => Nat.zero_le _
  | d :: ds, h => by
    rw [PyData.depthAll]
    exact Nat.max_le.mpr ⟨h d (by simp), depAll (ds := ds) fun e he => h e (by simp [he])⟩
theorem okD.lay {n : Nat} : ∀ {d : PyData}, okD n d → d.canLay0 = true ∧ d.depth ≤ n := by
  induction n with
  | zero => exact fun h => h.elim
  | succ n ih =>
    intro d h
    cases d with
    | int _ => exact ⟨rfl, by simp [PyData.depth]⟩
    | list ds =>
      have h' : ∀ d ∈ ds, okD n d := h
      refine ⟨by rw [PyData.canLay0]; exact layAll fun d hd => (ih (h' d hd)).1, ?_⟩
      rw [PyData.depth]
      exact Nat.succ_le_succ (depAll fun e he => (ih (h' e he)).2)
    | tuple ds =>
      have h' : ∀ d ∈ ds, okD n d := h
      refine ⟨by rw [PyData.canLay0]; exact layAll fun d hd => (ih (h' d hd)).1, ?_⟩
      rw [PyData.depth]
      exact Nat.succ_le_succ (depAll fun e he => (ih (h' e he)).2)
    | none => exact h.elim
    | bool _ => exact h.elim
    | str _ => exact h.elim
    | dict _ => exact h.elim
theorem okD.shaped {n : Nat} {d : PyData} (h : okD n d) (hn : n ≤ 64 := by decide) : SeqAt.shaped d = true := by
  show (d.canLay0 && decide (d.depth ≤ 64)) = true
  rw [Bool.and_eq_true]
  exact ⟨h.lay.1, decide_eq_true (Nat.le_trans h.lay.2 hn)⟩
theorem eqvAll_iff {n : Nat} (ih : ∀ {d e : PyData}, okD n d → okD n e → (PyData.eqv d e = true ↔ d = e)) : ∀ {ds es : List PyData}, (∀ d ∈ ds, okD n d) → (∀ d ∈ es, okD n d) → (PyData.eqvAll ds es = true ↔ ds = es)
  | [], [], _, _ => by simp [PyData.eqvAll]
  | [], _ :: _, _, _ => by simp [PyData.eqvAll]
  | _ :: _, [], _, _ => by simp [PyData.eqvAll]
  | d :: ds, e :: es, h, h' => by
    rw [PyData.eqvAll, Bool.and_eq_true, ih (h d (by simp)) (h' e (by simp)), eqvAll_iff ih (ds := ds) (es := es) (fun x hx => h x (by simp [hx])) fun x hx => h' x (by simp [hx])]
    simp
theorem okD.eqv {n : Nat} : ∀ {d e : PyData}, okD n d → okD n e → (PyData.eqv d e = true ↔ d = e) := by
  induction n with
  | zero => exact fun h => h.elim
  | succ n ih =>
    intro d e h h'
    cases d <;> cases e <;> first
      | exact h.elim
      | exact h'.elim
      | (rw [PyData.eqv, eqvAll_iff ih h h']; simp)
      | (rw [PyData.eqv]; simp)
theorem eqA_ok {K : PySem.W.Frag} {n : Nat} {x y : V} {d e : PyData} {H : Hp} {Q : VK} (hx : Dp K H x d) (hy : Dp K H y e) (h1 : okD n d) (h2 : okD n e) (h : ∀ b : Bool, (b = true ↔ d = e) → Q (.bl b) H) (hn : n ≤ 64 := by decide) : rEqA K x y H Q :=
  eqA_D hx hy (h1.shaped hn) (h2.shaped hn) (h _ (h1.eqv h2))
theorem neA_ok {K : PySem.W.Frag} {n : Nat} {x y : V} {d e : PyData} {H : Hp} {Q : VK} (hx : Dp K H x d) (hy : Dp K H y e) (h1 : okD n d) (h2 : okD n e) (h : ∀ b : Bool, (b = true ↔ d ≠ e) → Q (.bl b) H) (hn : n ≤ 64 := by decide) : rNeA K x y H Q :=
  neA_D hx hy (h1.shaped hn) (h2.shaped hn) (h _ (by rw [Bool.not_eq_true', ← Bool.not_eq_true, h1.eqv h2]))
theorem eqA_same {K : PySem.W.Frag} {n : Nat} {x y : V} {d : PyData} {H : Hp} {Q : VK} (hx : Dp K H x d) (hy : Dp K H y d) (h1 : okD n d) (h : Q (.bl true) H) (hn : n ≤ 64 := by decide) : rEqA K x y H Q :=
  eqA_ok hx hy h1 h1 (fun b hb => by rw [hb.mpr rfl]; exact h) hn
theorem neA_same {K : PySem.W.Frag} {n : Nat} {x y : V} {d : PyData} {H : Hp} {Q : VK} (hx : Dp K H x d) (hy : Dp K H y d) (h1 : okD n d) (h : Q (.bl false) H) (hn : n ≤ 64 := by decide) : rNeA K x y H Q :=
  neA_ok hx hy h1 h1 (fun b hb => by rw [show b = false by cases b; rfl; exact absurd rfl (hb.mp rfl)]; exact h) hn
/-- a deed as data -/
def dd (d : Dd) : PyData := .tuple [.int d.n, .int d.l, .int d.c]
theorem dd_dp {K : PySem.W.Frag} {H : Hp} {a : Addr} {d : Dd} (h : TD H a d) : Dp K H (.ref a) (dd d) := .tup (.of h) (.cons (.int _) (.cons (.int _) (.cons (.int _) .nil)))
theorem dds_dp {K : PySem.W.Frag} {H : Hp} : ∀ {as : List Addr} {ds : List Dd}, DL H as ds → DpAll K H (as.map V.ref) (ds.map dd)
  | [], [], _ => .nil
  | a :: as, d :: ds, h => .cons (dd_dp h.1) (dds_dp h.2)
  | [], _ :: _, h => h.elim
  | _ :: _, [], h => h.elim
theorem ld_dp {K : PySem.W.Frag} {H : Hp} {p : Addr} {as : List Addr} {ds : List Dd} (h : LD H p as ds) : Dp K H (.ref p) (.list (ds.map dd)) := .lst (.of h.1) (dds_dp h.2)
theorem dd_ok {d : Dd} : okD 2 (dd d) := fun e he => by
  simp only [List.mem_cons, List.not_mem_nil, or_false] at he
  rcases he with rfl | rfl | rfl <;> trivial
theorem dds_ok (ds : List Dd) : okD 3 (.list (ds.map dd)) := fun e he => by
  obtain ⟨d, _, rfl⟩ := List.mem_map.mp he
  exact dd_ok
theorem ints_ok (ns : List Int) : okD 2 (.list (ns.map PyData.int)) := fun e he => by
  obtain ⟨d, _, rfl⟩ := List.mem_map.mp he
  trivial

def sp_same (n : Nat) (K : PySem.W.Frag) : Sp := fun vs H Q _ => ∃ x y d, vs = [x, y] ∧ Dp K H x d ∧ Dp K H y d ∧ okD n d ∧ ∀ H', Same H H' → Q (.bl true) H'
theorem len_same {n K vs H Q E} (h : sp_same n K vs H Q E) : vs.length = 2 := by
  obtain ⟨x, y, d, rfl, _⟩ := h
  rfl
theorem none_same {K vs H Q E} (h : sp_same 0 K vs H Q E) : False := by
  obtain ⟨x, y, d, rfl, _, _, h, _⟩ := h
  exact h
abbrev n_same : List Str := ["_law_found", "_law_due", "_law_one", "_law_other"]
def t_same (n : Nat) (K : PySem.W.Frag) : TS :=
  (tSeq (tIfS (tB (tCB (rIsi K) (tCons (tVar 1) (tCons (tC (.ty "int")) tNil))))
  (tRet (tAndV (tCB (rIsi K) (tCons (tVar 0) (tCons (tC (.ty "int")) tNil))) (tAndV (tNotV (tCB (rIsi K) (tCons (tVar 0) (tCons (tC (.ty "bool")) tNil)))) (tOp (rEqA K) (tVar 0) (tVar 1)))))
  tNext)
  (tCut (tIfS (tB (tCB (rIsi K) (tCons (tVar 1) (tCons (tC (.ty "tuple")) tNil))))
  (tIfS (tNot (tB (tCB (rIsi K) (tCons (tVar 0) (tCons (tC (.ty "tuple")) tNil)))))
  (tRet (tC (.bl false)))
  tNext)
  (tIfS (tNot (tB (tCB (rIsi K) (tCons (tVar 0) (tCons (tC (.ty "list")) tNil)))))
  (tRet (tC (.bl false)))
  tNext))
  (tSeq (tIfS (tTest (tOp (rNeA K) (tCB (rLen K) (tCons (tVar 0) tNil)) (tCB (rLen K) (tCons (tVar 1) tNil))))
  (tRet (tC (.bl false)))
  tNext)
  (tSeq (tFor (RZ.iZipA K (tCons (tVar 0) (tCons (tVar 1) tNil))) (gTup K 2 (gCons (gName 2) (gCons (gName 3) gNil)))
  (tIfS (tNot (tB (tCall (sp_same n K) [] E0 (tCons (tVar 2) (tCons (tVar 3) tNil)))))
  (tRet (tC (.bl false)))
  tNext))
  (tRet (tC (.bl true)))))))
theorem r_same {n K vs H Q E} (h : sp_same (n + 1) K vs H Q E) : t_same n K { nx := fun _ H' => Q .non H', rt := Q } (start n_same vs) H := by
  obtain ⟨x, y, d, rfl, hx, hy, hd, q⟩ := h
  unfold t_same
  cases d with
  | none => exact hd.elim
  | bool _ => exact hd.elim
  | str _ => exact hd.elim
  | dict _ => exact hd.elim
  | int i =>
    cases hx
    cases hy
    walk_at "go"
    exact q H (Same.refl _)
  | list ds =>
    cases hx with | @lst a xs _ hs ha =>
    cases hy with | @lst b ys _ hs' ha' =>
    walk_at "go"
    refine isiX (ty_sqL hs') kb_list_int ?_
    walk_at "go"
    refine cut (fun σ H' => σ = [some (.ref a), some (.ref b), none, none] ∧ H' = H) ?_ ?_
    · walk_at "go"
      refine isiX (ty_sqL hs') kb_list_tuple ?_
      walk_at "go"
      refine isiX (ty_sqL hs) kb_list_list ?_
      walk_at "go"
      exact ⟨rfl, rfl⟩
    rintro σ H1 ⟨rfl, rfl⟩
    walk_at "go"
    refine len_l hs (len_l hs' ?_)
    walk_at "go"
    rw [DpAll.len ha, DpAll.len ha']
    walk_at "go"
    refine forZ (n := ds.length) (by rw [DpAll.len ha, DpAll.len ha', Nat.min_self]) hs hs' (fun i σ H3 => ∃ (v2 v3 : Option V), σ = [some (.ref a), some (.ref b), v2, v3] ∧ Same H1 H3) ⟨none, none, rfl, Same.refl _⟩ (fun i σ H3 ⟨_, _, _, s⟩ => ⟨s.seq hs, s.seq hs'⟩) ?_ ?_
    · rintro i x' y' T σ H3 H4 hx' hy' ⟨v2, v3, rfl, s3⟩ hT s4 gT
      have s34 := s3.trans s4
      obtain ⟨e, he, hxe⟩ := DpAll.get ha hx'
      obtain ⟨e', he', hye⟩ := DpAll.get ha' hy'
      rw [he] at he'
      cases he'
      walk_at "go"
      refine ⟨x', y', e, rfl, Dp.up s34 hxe, Dp.up s34 hye, hd e (List.mem_of_getElem? he), fun H5 s5 => ?_⟩
      walk_at "go"
      exact ⟨_, _, rfl, s34.trans s5⟩
    · rintro σ H3 ⟨v2, v3, rfl, s3⟩
      walk_at "go"
      exact q H3 s3
  | tuple ds =>
    cases hx with | @tup a xs _ hs ha =>
    cases hy with | @tup b ys _ hs' ha' =>
    walk_at "go"
    refine isiX (ty_sqT hs') kb_tuple_int ?_
    walk_at "go"
    refine cut (fun σ H' => σ = [some (.ref a), some (.ref b), none, none] ∧ H' = H) ?_ ?_
    · walk_at "go"
      refine isiX (ty_sqT hs') kb_tuple_tuple ?_
      walk_at "go"
      refine isiX (ty_sqT hs) kb_tuple_tuple ?_
      walk_at "go"
      exact ⟨rfl, rfl⟩
    rintro σ H1 ⟨rfl, rfl⟩
    walk_at "go"
    refine len_t hs (len_t hs' ?_)
    walk_at "go"
    rw [DpAll.len ha, DpAll.len ha']
    walk_at "go"
    refine forZT (n := ds.length) (by rw [DpAll.len ha, DpAll.len ha', Nat.min_self]) hs hs' (fun i σ H3 => ∃ (v2 v3 : Option V), σ = [some (.ref a), some (.ref b), v2, v3] ∧ Same H1 H3) ⟨none, none, rfl, Same.refl _⟩ (fun i σ H3 ⟨_, _, _, s⟩ => ⟨sq_t s hs, sq_t s hs'⟩) ?_ ?_
    · rintro i x' y' T σ H3 H4 hx' hy' ⟨v2, v3, rfl, s3⟩ hT s4 gT
      have s34 := s3.trans s4
      obtain ⟨e, he, hxe⟩ := DpAll.get ha hx'
      obtain ⟨e', he', hye⟩ := DpAll.get ha' hy'
      rw [he] at he'
      cases he'
      walk_at "go"
      refine ⟨x', y', e, rfl, Dp.up s34 hxe, Dp.up s34 hye, hd e (List.mem_of_getElem? he), fun H5 s5 => ?_⟩
      walk_at "go"
      exact ⟨_, _, rfl, s34.trans s5⟩
    · rintro σ H3 ⟨v2, v3, rfl, s3⟩
      walk_at "go"
      exact q H3 s3
end Pb

namespace Pb
/-! ### heights -/
instance : Inhabited Dd := ⟨⟨0, 0, 0⟩⟩
def hbStep (new : Dd) (h : Nat) (p : Dd × Nat) : Nat := if h ≤ p.2 ∧ clash p.1 new = true then p.2 + 1 else h
/-- the height of a deed behind others, whose heights are told beside them -/
def hb (new : Dd) (l : List (Dd × Nat)) : Nat := l.foldl (hbStep new) 0
/-- the first i heights -/
def htsN (ds : List Dd) : Nat → List Nat
  | 0 => []
  | i + 1 => htsN ds i ++ [hb (ds.getD i default) (ds.zip (htsN ds i))]
def hts (ds : List Dd) : List Nat := htsN ds ds.length
theorem htsN_len (ds : List Dd) : ∀ i, (htsN ds i).length = i
  | 0 => rfl
  | i + 1 => by
    show (htsN ds i ++ _).length = i + 1
    rw [List.length_append, htsN_len ds i]
    rfl
theorem hts_len (ds : List Dd) : (hts ds).length = ds.length := htsN_len ds _
theorem fold_take {α β : Type} (f : β → α → β) (b : β) {l : List α} {i : Nat} {x : α} (h : l[i]? = some x) : (l.take (i + 1)).foldl f b = f ((l.take i).foldl f b) x := by
  rw [List.take_add_one, h, List.foldl_append]
  rfl
/-- numbers from nought, as values -/
abbrev nv (ns : List Nat) : List V := ns.map fun n : Nat => V.int (n : Int)
theorem nv_at {ns : List Nat} {i : Nat} {v : V} (h : (nv ns)[i]? = some v) : ∃ n : Nat, ns[i]? = some n ∧ v = .int (n : Int) := by
  rw [List.getElem?_map] at h
  cases e : ns[i]? with
  | none => rw [e] at h; cases h
  | some n =>
    rw [e] at h
    exact ⟨n, rfl, (Option.some.inj h).symm⟩
theorem nv_get {ns : List Nat} {i n : Nat} (h : ns[i]? = some n) : (nv ns)[i]? = some (.int (n : Int)) := by
  rw [List.getElem?_map, h]
  rfl
theorem ref_get {as : List Addr} {i : Nat} {v : V} (h : (as.map V.ref)[i]? = some v) : ∃ a, as[i]? = some a ∧ v = .ref a := by
  rw [List.getElem?_map] at h
  cases e : as[i]? with
  | none => rw [e] at h; cases h
  | some n =>
    rw [e] at h
    exact ⟨n, rfl, (Option.some.inj h).symm⟩

theorem htsN_take (ds : List Dd) : ∀ {i j : Nat}, i ≤ j → (htsN ds j).take i = htsN ds i
  | i, 0, h => by
    have : i = 0 := by omega
    subst this
    rfl
  | i, j + 1, h => by
    by_cases e : i = j + 1
    · subst e
      exact List.take_of_length_le (by rw [htsN_len]; exact Nat.le_refl _)
    · show (htsN ds j ++ _).take i = _
      rw [List.take_append_of_le_length (by rw [htsN_len]; omega)]
      exact htsN_take ds (by omega)
theorem hts_at {ds : List Dd} {k : Nat} (h : k < ds.length) : (hts ds)[k]? = some (hb (ds.getD k default) (ds.zip (htsN ds k))) := by
  have e : (htsN ds (k + 1))[k]? = some (hb (ds.getD k default) (ds.zip (htsN ds k))) := by
    show (htsN ds k ++ [_])[k]? = _
    rw [List.getElem?_append_right (by rw [htsN_len]; exact Nat.le_refl _), htsN_len, Nat.sub_self]
    rfl
  rw [← htsN_take ds (show k + 1 ≤ ds.length by omega), List.getElem?_take, if_pos (by omega)] at e
  exact e
theorem htsN_at {ds : List Dd} {j k : Nat} (hj : j < k) (h : k ≤ ds.length) : (htsN ds k)[j]? = (hts ds)[j]? := by
  rw [hts, ← htsN_take ds h, List.getElem?_take, if_pos hj]
theorem htsN_pre (ds : List Dd) (m : Nat) : ∀ i, i ≤ m → i ≤ ds.length → htsN (ds.take m) i = htsN ds i
  | 0, _, _ => rfl
  | i + 1, h, h' => by
    have e := htsN_pre ds m i (by omega) (by omega)
    have g : (ds.take m).getD i default = ds.getD i default := by
      rw [List.getD_eq_getElem?_getD, List.getD_eq_getElem?_getD, List.getElem?_take, if_pos (by omega)]
    have z : (ds.take m).zip (htsN ds i) = ds.zip (htsN ds i) := by
      have key : ∀ (ns : List Nat) (ds : List Dd) (m : Nat), ns.length ≤ m → (ds.take m).zip ns = ds.zip ns := by
        intro ns
        induction ns with
        | nil => intro ds m _; simp
        | cons n r ih =>
          intro ds m hm
          cases ds with
          | nil => simp
          | cons d ds =>
            cases m with
            | zero => simp at hm
            | succ m =>
              rw [List.take_succ_cons, List.zip_cons_cons, List.zip_cons_cons, ih ds m (by simpa using hm)]
      exact key _ _ _ (by rw [htsN_len]; omega)
    show htsN (ds.take m) i ++ [_] = htsN ds i ++ [_]
    rw [e, g, z]
theorem hts_take (ds : List Dd) (m : Nat) : hts (ds.take m) = (hts ds).take m := by
  by_cases h : m ≤ ds.length
  · rw [hts, hts, List.length_take, Nat.min_eq_left h, htsN_pre ds m m (Nat.le_refl _) h, htsN_take ds h]
  · rw [List.take_of_length_le (by omega), List.take_of_length_le (by rw [hts_len]; omega)]
theorem nv_ok (ns : List Nat) : okD 2 (.list (ns.map fun n : Nat => PyData.int (n : Int))) := fun e he => by
  obtain ⟨d, _, rfl⟩ := List.mem_map.mp he
  trivial
theorem nv_dp {K : PySem.W.Frag} {H : Hp} {p : Addr} {ns : List Nat} (h : H p = some (.lst (nv ns))) : Dp K H (.ref p) (.list (ns.map fun n : Nat => PyData.int (n : Int))) := by
  refine .lst (.of h) ?_
  clear h
  induction ns with
  | nil => exact .nil
  | cons n r ih => exact .cons (.int _) ih

def sp_height_behind (K : PySem.W.Frag) : Sp := fun vs H Q _ => ∃ a p q d as ds ns, vs = [.ref a, .ref p, .ref q] ∧ TD H a d ∧ LD H p as ds ∧ H q = some (.lst (nv ns)) ∧ ∀ H', Same H H' → Q (.int (hb d (ds.zip ns) : Nat)) H'
theorem len_height_behind {K vs H Q E} (h : sp_height_behind K vs H Q E) : vs.length = 3 := by
  obtain ⟨a, p, q, d, as, ds, ns, rfl, _⟩ := h
  rfl
abbrev n_height_behind : List Str := ["new", "diary", "known", "height", "old", "level"]
def t_height_behind (K : PySem.W.Frag) : TS :=
  (tSeq (tAsg (tC (.int 0)) (gName 3))
  (tSeq (tFor (RZ.iZipA K (tCons (tVar 1) (tCons (tVar 2) tNil))) (gTup K 2 (gCons (gName 4) (gCons (gName 5) gNil)))
  (tIfS (tAnd (tTest (tOp rGe (tVar 5) (tVar 3))) (tB (tCall (sp_clash K) [] E0 (tCons (tVar 4) (tCons (tVar 0) tNil)))))
  (tAsg (tOp rPlus (tVar 5) (tC (.int 1))) (gName 3))
  tNext))
  (tRet (tVar 3))))
theorem r_height_behind {K vs H Q E} (h : sp_height_behind K vs H Q E) : t_height_behind K { nx := fun _ H' => Q .non H', rt := Q } (start n_height_behind vs) H := by
  obtain ⟨a, p, q, d, as, ds, ns, rfl, ha, hp, hq, k⟩ := h
  unfold t_height_behind
  walk_at "go"
  refine forZ (n := min as.length ns.length) (by simp) (.of hp.1) (.of hq) (fun i σ H3 => ∃ (v4 v5 : Option V), σ = [some (.ref a), some (.ref p), some (.ref q), some (.int ((((ds.zip ns).take i).foldl (hbStep d) 0 : Nat) : Int)), v4, v5] ∧ Same H H3)
    ⟨none, none, rfl, Same.refl _⟩ (fun i σ H3 ⟨_, _, _, s⟩ => ⟨s.seq (.of hp.1), s.seq (.of hq)⟩) ?_ ?_
  · rintro i x y T σ H3 H4 hx hy ⟨v4, v5, rfl, s3⟩ hT s4 gT
    have s34 := s3.trans s4
    obtain ⟨b, hb', rfl⟩ := ref_get hx
    obtain ⟨n, hn, rfl⟩ := nv_at hy
    obtain ⟨e, he, hbe⟩ := hp.2.get hb'
    have hz : (ds.zip ns)[i]? = some (e, n) := List.getElem?_zip_eq_some.mpr ⟨he, hn⟩
    have hf := fold_take (hbStep d) 0 hz
    generalize ((ds.zip ns).take i).foldl (hbStep d) 0 = h0 at hf
    walk_at "go"
    refine ite2 (fun c => ?_) (fun c => ?_)
    · walk_at "go"
      refine ⟨b, a, e, d, rfl, s34 _ _ hbe, s34 _ _ ha, ?_⟩
      walk_at "go"
      refine ite2 (fun c2 => ?_) (fun c2 => ?_)
      · refine ⟨some (.ref b), some (.int (n : Int)), ?_, s34⟩
        rw [hf, hbStep, if_pos ⟨by simpa using c, c2⟩]
        rfl
      · refine ⟨some (.ref b), some (.int (n : Int)), ?_, s34⟩
        rw [hf, hbStep, if_neg (fun h => c2 h.2)]
    · refine ⟨some (.ref b), some (.int (n : Int)), ?_, s34⟩
      rw [hf, hbStep, if_neg (fun h => c (by simpa using h.1))]
  · rintro σ H3 ⟨v4, v5, rfl, s3⟩
    walk_at "go"
    have e : (ds.zip ns).take (min as.length ns.length) = ds.zip ns := List.take_of_length_le (by rw [List.length_zip, hp.2.len]; exact Nat.le_refl _)
    rw [e]
    exact k H3 s3

def sp_heights (K : PySem.W.Frag) : Sp := fun vs H Q _ => ∃ p as ds, vs = [.ref p] ∧ LD H p as ds ∧ as.length ≤ 500 ∧ ∀ q H', H q = none → Same H H' → H' q = some (.lst (nv (hts ds))) → Q (.ref q) H'
theorem len_heights {K vs H Q E} (h : sp_heights K vs H Q E) : vs.length = 1 := by
  obtain ⟨p, as, ds, rfl, _⟩ := h
  rfl
abbrev n_heights : List Str := ["diary", "known", "new"]
def t_heights (K : PySem.W.Frag) : TS :=
  (tSeq (tAsg (tLst tNil) (gName 1))
  (tSeq (tFor (iList K (tVar 0)) (gName 2)
  (tDrop (tBM K "list" rAppend (tVar 1) (tCons (tCall (sp_height_behind K) [] E0 (tCons (tVar 2) (tCons (tVar 0) (tCons (tVar 1) tNil)))) tNil))))
  (tRet (tVar 1))))
theorem r_heights {K vs H Q E} (h : sp_heights K vs H Q E) : t_heights K { nx := fun _ H' => Q .non H', rt := Q } (start n_heights vs) H := by
  obtain ⟨p, as, ds, rfl, hp, hl, k⟩ := h
  unfold t_heights
  walk_at "go"
  refine lstQ fun q H1 hq s1 g1 => ?_
  walk_at "go"
  refine forL (.of (s1 _ _ hp.1)) (fun i σ H3 => ∃ (v2 : Option V), σ = [some (.ref p), some (.ref q), v2] ∧ Same H H3 ∧ H3 q = some (.lst (nv (htsN ds i)))) ⟨none, rfl, s1, g1⟩ (fun i σ H3 _ ⟨_, _, s, _⟩ => s.seq (.of hp.1)) ?_ ?_
  · rintro i x σ H3 hx ⟨v2, rfl, s3, g3⟩
    obtain ⟨a, ha, rfl⟩ := ref_get hx
    obtain ⟨d, hd, hTD⟩ := hp.2.get ha
    have hi := (List.getElem?_eq_some_iff.mp ha).1
    walk_at "go"
    refine ⟨ty_l g3, a, p, q, d, as, ds, htsN ds i, rfl, s3 _ _ hTD, hp.mono s3, g3, fun H4 s4 => ?_⟩
    walk_at "go"
    refine append_r (s3.trans s4) hq (s4 _ _ g3) (by rw [List.length_map, htsN_len]; omega) fun H5 s5 g5 _ => ?_
    refine ⟨_, rfl, s5, ?_⟩
    rw [g5]
    have : ds.getD i default = d := by simp [List.getD, hd]
    simp only [htsN, this, List.map_append, List.map_cons, List.map_nil]
  · rintro σ H3 ⟨v2, rfl, s3, g3⟩
    walk_at "go"
    rw [List.length_map, hp.2.len] at g3
    exact k q H3 hq s3 g3
end Pb

namespace Pb
open PySem PySem.Spec L2
/-! ### errors of the program's own classes -/
def tWhen (p : Prop) (t : TS) : TS := fun D σ H => p ∧ t D σ H
theorem pss_when {X : Cx} {p : Prop} {bs : List Stmt} {t : TS} (h : p → PSs X bs t) : PSs X bs (tWhen p t) := ⟨fun pins s σ H D I z => (h z.1).run pins s σ H D I z.2⟩
abbrev errNames : List Str := ["NoDeed", "NoPass", "Nothing", "NoBox"]
/-- what the class c says of itself and of the others -/
structure XF (K : PySem.W.Frag) (G : Str → Addr) (c : Str) : Prop where
  ex : ExcC K (G c)
  es : PySem.W.exmOne K (.ref (G c)) (.ref (G c)) = some true
  eb : PySem.W.exmOne K (.ref (G c)) (.ref (G "PassbyError")) = some true
  kv : PySem.W.kitOne K (.ref (G c)) (.type "ValueError") = some true
  ks : PySem.W.kitOne K (.ref (G c)) (.ref (G c)) = some true
  ko : ∀ x ∈ errNames, x ≠ c → PySem.W.kitOne K (.ref (G c)) (.ref (G x)) = some false
theorem cls_isSome {K : PySem.W.Frag} {D : Addr} (h : PySem.W.hasDictIn K D = true) : (PySem.W.clsIn K D).isSome = true := by
  obtain ⟨cd, hc, _⟩ := PySem.W.any_some h
  rw [hc]
  rfl
theorem kit_cls_own {K : PySem.W.Frag} {t : Value} {D : Addr} {b : Bool} (hd : PySem.W.hasDictIn K D = true) (ht : PySem.W.typeIn K (.ref D) = some (.type "type")) (h : PySem.W.subIn K t (.ref D) = some b) : PySem.W.kitCls K t (.ref D) = some b := by
  have e : ((PySem.W.clsIn K D).isSome && PySem.W.typeIn K (.ref D) == some (.type "type")) = true := by
    rw [cls_isSome hd, ht]
    rfl
  show (if ((PySem.W.clsIn K D).isSome && PySem.W.typeIn K (.ref D) == some (.type "type")) = true then PySem.W.subIn K t (.ref D) else none) = some b
  rw [if_pos e]
  exact h
theorem kit_yes {K : PySem.W.Frag} {C D : Addr} (hd : PySem.W.hasDictIn K D = true) (ht : PySem.W.typeIn K (.ref D) = some (.type "type")) (h : PySem.W.subIn K (.ref C) (.ref D) = some true) : PySem.W.kitOne K (.ref C) (.ref D) = some true := by
  unfold PySem.W.kitOne
  split
  · rfl
  · exact kit_cls_own hd ht h
theorem kit_no {K : PySem.W.Frag} {C D : Addr} (hd : PySem.W.hasDictIn K D = true) (ht : PySem.W.typeIn K (.ref D) = some (.type "type")) (h : PySem.W.subIn K (.ref C) (.ref D) = some false) (hc : PySem.W.subIn K (.ref C) (.ref C) = some true) : PySem.W.kitOne K (.ref C) (.ref D) = some false := by
  unfold PySem.W.kitOne
  split
  · rename_i e
    have e2 : C = D := Value.ref.inj (beq_iff_eq.mp e)
    rw [e2] at hc h
    rw [h] at hc
    cases hc
  · exact kit_cls_own hd ht h
theorem kit_ve {K : PySem.W.Frag} {C : Addr} (h : PySem.W.subIn K (.ref C) (.type "ValueError") = some true) : PySem.W.kitOne K (.ref C) (.type "ValueError") = some true := by
  unfold PySem.W.kitOne
  split
  · rfl
  · have e : PySem.W.kitMeta "ValueError" = true := by decide +kernel
    show (if PySem.W.kitMeta "ValueError" = true then PySem.W.subIn K (.ref C) (.type "ValueError") else none) = some true
    rw [if_pos e]
    exact h
theorem at_inst {h : Heap} {a D : Addr} {oe : Obj} (g : h.get? a = some oe) (hz : Zc (.ref D) none oe) (hf : ∃ vs, oe.data = .fields vs) : PySem.W.InstAt h a oe D none := by
  obtain ⟨vs, hv⟩ := hf
  cases oe with
  | mk c d t sl =>
    obtain ⟨z1, z2⟩ := hz
    simp only at z1 z2 hv
    subst z1
    subst z2
    subst hv
    exact ⟨g, rfl, rfl, trivial⟩
/-- isinstance(e, (c, ..)), e the error in hand -/
def rIsET (K : PySem.W.Frag) (D a : Addr) : List V → Hp → VK → Prop := fun xs H Q => ∃ (tp : Addr) (cs : List V) (us : List Value) (b : Bool), xs = [.ref a, .ref tp] ∧ H tp = some (.tup cs) ∧ Paired ClsV cs us ∧ PySem.W.kitAny K (.ref D) us = some b ∧ Q (.bl b) H
theorem isE {K : PySem.W.Frag} {D a C : Addr} {b : Bool} {H : Hp} {Q : VK} (h : PySem.W.kitOne K (.ref D) (.ref C) = some b) (q : Q (.bl b) H) : rIsE K D a [.ref a, .ref C] H Q := ⟨_, _, b, rfl, fun _ r => r, h, q⟩
theorem isEv {K : PySem.W.Frag} {D a : Addr} {H : Hp} {Q : VK} (h : PySem.W.kitOne K (.ref D) (.type "ValueError") = some true) (q : Q (.bl true) H) : rIsE K D a [.ref a, .ty "ValueError"] H Q := ⟨_, _, true, rfl, fun _ r => r, h, q⟩
section
variable {X : Cx}
theorem call_isEP {a D : Addr} (C : ExcC X.K D) (hp : ∃ oe, (a, oe) ∈ X.pn ∧ Zc (.ref D) none oe ∧ ∃ vs, oe.data = .fields vs) : CallR X (.builtin "isinstance") (rIsE X.K D a) := by
  intro pins s σ H xs us Q I r h
  obtain ⟨oe, hm, hz, hf⟩ := hp
  obtain ⟨c, cv, b, rfl, hcv, e, q⟩ := h
  obtain ⟨u1, u2, rfl, r1, r2⟩ := vals2 r
  cases (show u1 = Value.ref a from r1)
  cases hcv _ r2
  have J := at_inst (I.pin (a, oe) (List.mem_append_left _ hm)).1 hz hf
  exact PySem.W.kia_one (PySem.W.handS_kitx_exc C.hg C.hk C.hs C.hd C.ha C.hn C.ht C.hm) I.kIn J e (fun z => nomatch z) fun tk => ⟨.bl b, H, I.tok tk, rfl, q⟩
theorem call_isETP {a D : Addr} (C : ExcC X.K D) (hp : ∃ oe, (a, oe) ∈ X.pn ∧ Zc (.ref D) none oe ∧ ∃ vs, oe.data = .fields vs) : CallR X (.builtin "isinstance") (rIsET X.K D a) := by
  intro pins s σ H xs us Q I r h
  obtain ⟨oe, hm, hz, hf⟩ := hp
  obtain ⟨tp, cs, ws, b, rfl, hT, k, e, q⟩ := h
  obtain ⟨u1, u2, rfl, r1, r2⟩ := vals2 r
  cases (show u1 = Value.ref a from r1)
  cases (show u2 = Value.ref tp from r2)
  have J := at_inst (I.pin (a, oe) (List.mem_append_left _ hm)).1 hz hf
  have hok : ObjOk X.prog X.w H s.heap tp (.tup cs) := I.hok tp _ hT
  obtain ⟨_, its, rv, o, g1, g2, n, g3⟩ := hok
  cases ClsV.all k rv
  cases o with
  | mk oc od dt sl =>
    simp only at g2 g3
    subst g2
    subst g3
    exact PySem.W.kia_tup (PySem.W.handS_kitx_exc C.hg C.hk C.hs C.hd C.ha C.hn C.ht C.hm) I.kIn J g1 e (fun z => nomatch z) fun tk => ⟨.bl b, H, I.tok tk, rfl, q⟩
theorem pe_calS {CX : CXT} {k : Nat} {ps : List Str} {sp : Sp} {E : St → XK} {x : Str} {p pos : Pos} {e : Expr} {es : List Expr} {t : TA} (C : Cal X.prog X.w X.K X.mg X.base CX x k ps [] sp) (hr : Room k X.A) (hg : Gl X x) (hx : ∀ σ, PassesAt CX X σ (E σ))
    (ha : PA X (e :: es) t) (hdb : (x == ("__debug__" : Str)) = false := by decide) (he : starEach (e :: es) X.env = (false, eval e X.env) :: starEach es X.env := by rfl) (hpl : (backTo pos (starEach es X.env)).any (·.1) = false := by rfl) :
    PE X (.Call (.Name x p) (e :: es) [] pos) (tCallS sp E t) := by
  obtain ⟨f, fd, F, hm, hk, hb⟩ := C.ex
  exact pe_callS F hr hg hm hk hb hx ha hdb he hpl
end
end Pb

namespace Pb
open PySem PySem.Spec L2
/-! ### an error kept behind its except clause -/
/-- an error of the class cls stands at a -/
def ExV (cls : Value) (a : Addr) : HO := .ext fun h => ∃ (oe : Obj) (vs : Array Value), h.get? a = some oe ∧ Zc cls none oe ∧ oe.data = .fields vs
theorem exV_ok {P : Program} {w : World} {H : Hp} {h : Heap} {a : Addr} {cls : Value} {oe : Obj} {vs : Array Value} (e : h.get? a = some oe) (z : Zc cls none oe) (d : oe.data = .fields vs) : ObjOk P w H h a (ExV cls a) :=
  ⟨⟨oe, vs, e, z, d⟩, ⟨oe, e⟩, fun _ _ ⟨o, v, g1, g2, g3⟩ k => ⟨o, v, k o g1, g2, g3⟩⟩
section
variable {X : Cx} {pins : List (Addr × Obj)} {σ : St} {H : Hp} {s : Shared}
/-- a pinned thing is known from here on -/
theorem inv_known {a : Addr} {oe : Obj} {vs : Array Value} {cls : Value} (I : Inv X ((a, oe) :: pins) σ H s) (z : Zc cls none oe) (d : oe.data = .fields vs) (n0 : X.s_0.heap.get? a = none) (hd : ∀ p ∈ X.pn ++ pins, p.1 ≠ a) : Inv X pins σ (upd H a (ExV cls a)) s := by
  obtain ⟨ga, na, nL, nF, _⟩ := I.pin (a, oe) (List.mem_append_right _ List.mem_cons_self)
  have ga : s.heap.get? a = some oe := ga
  have na : H a = none := na
  refine { I with base := ?_, free := ?_, freeC := ?_, pin := ?_, hok := ?_ }
  · exact { I.base with
      free := fun b o e n hx => by
        have q : b ≠ a := fun q => by
          subst q
          rw [n0] at e
          cases e
        rw [upd_ne q]
        exact I.base.free b o e n hx
      tups := fun b xs e => by
        have q := I.base.tups b xs e
        rw [upd_ne (ne_of_none q na)]
        exact q
      frzs := fun b o u e => by
        have q := I.base.frzs b o u e
        rw [upd_ne (ne_of_none q na)]
        exact q
      tbls := fun b ps e => by
        obtain ⟨more, q⟩ := I.base.tbls b ps e
        exact ⟨more, by rw [upd_ne (ne_of_none q na)]; exact q⟩ }
  · rw [upd_ne (fun q => nL q.symm)]
    exact I.free
  · intro x c e
    have q : c ≠ a := fun q => by
      obtain ⟨v, o, ho, hv⟩ := I.cell x c e
      rw [q, ga] at ho
      cases ho
      rw [d] at hv
      cases hv
    rw [upd_ne q]
    exact I.freeC x c e
  · intro p hp
    have hp2 : p ∈ X.pn ++ ((a, oe) :: pins) := by
      rw [List.mem_append] at hp ⊢
      rcases hp with hp | hp
      · exact .inl hp
      · exact .inr (List.mem_cons_of_mem _ hp)
    obtain ⟨q1, q2, q3⟩ := I.pin p hp2
    exact ⟨q1, by rw [upd_ne (hd p hp)]; exact q2, q3⟩
  · intro b u e
    by_cases q : b = a
    · subst q
      rw [upd_same] at e
      cases e
      exact exV_ok ga z d
    · rw [upd_ne q] at e
      exact (I.hok b u e).stay (fun _ _ _ g => g) (fun c g => by rw [upd_ne (ne_of_none g na)]; exact g) fun c xs g => by rw [upd_ne (ne_of_none g na)]; exact g
end

/-- what is wished of the error: it stands at slot j's value behind the clause, too -/
def wKeep (K : PySem.W.Frag) (c : Value) (i : Nat) (ts : Addr → Value → Option Addr → TS) (D : Ends) : WX := fun cls d σ H => PySem.W.exmOne K cls c = some true ∧ d = none ∧ ∀ a, H a = none →
  ts a cls d { nx := fun σ' H' => D.nx (σ'.set i none) (upd H' a (ExV cls a)), rt := fun _ _ => False, bk := fun _ _ => False, ct := fun _ _ => False } (σ.set i (some (.ref a))) H
section
variable {X : Cx} {x n : Str} {c : Value} {i : Nat} {body suite : List Stmt} {b0 : Stmt} {np pos pos' : Pos} {tb : WX → TS} {ts : Addr → Value → Option Addr → TS}
theorem ps_try_keep (k1 : X.stack = X.env :: X.outer) (k2 : X.env.frame = some X.env.locals) (k3 : X.N.Nodup) (k4 : X.N[i]? = some n) (k5 : X.env.kindOf n = some .local) (kc : Names X x c) (kex : X.ex = [])
    (kb : ∀ (W : WX) (pn : List (Addr × Obj)) (xe : Value → Shared → Prop), Takes (X.tr pn xe) W → PassesOwn (model X.prog X.w) X.A X.env xe → PSs (X.tr pn xe) body (tb W))
    (ks : ∀ (a : Addr) (oe : Obj) (cls : Value) (d : Option Addr) (pn : List (Addr × Obj)), Zc cls d oe → (∃ vs, oe.data = .fields vs) → PSs (X.suite a ((a, oe) :: pn)) (b0 :: suite) (ts a cls d)) :
    PS X (.Try body [.ExceptHandler (some (.Name x np)) (some n) (b0 :: suite) pos'] [] [] pos) (fun D σ H => tb (wKeep X.K c i ts D) D σ H) := by
  refine ⟨fun pins s σ H D I ht => ?_⟩
  have frs_ : X.A.frames = some (X.env :: X.outer) := I.ok.frames.trans (congrArg some k1)
  refine wpAny_Try_except (wpAny_mono ((kb (wKeep X.K c i ts D) (X.pn ++ pins) _ ?_ PassesOwn.looking).run [] s σ H D (I.toTry _) ht) (fun fl s1 q => ?_) fun _ _ q => q)
  · intro u s2 air
    obtain ⟨a, B, s3, pins3, σ3, H3, cls, d, rfl, J, hB, hup, sky, na, hos, hag, hyes, rfl, go⟩ := air
    replace J : Inv X pins σ3 H3 s3 := J.ofTry I.ok
    refine Sky.land Zc.steady frs_ k2 (by rw [← k1]; exact sky) fun h4 F4 up4 => ?_
    have I4 : Inv X pins σ3 H3 { s2 with heap := h4 } := J.landed hB F4.1 (hup.trans up4) hos hag
    obtain ⟨o4, v4, g4, z4, d4⟩ := F4.there
    have out : a ∉ frs (X.env :: X.outer) := fun hm => by
      obtain ⟨_, o5, g5, n5⟩ := F4.2.2.1.mem hm
      rw [g4] at g5
      cases g5
      exact n5 _ d4
    have aL : a ≠ X.env.locals := fun q => out (List.mem_filterMap.mpr ⟨_, List.mem_cons_self, k2.trans (congrArg some q.symm)⟩)
    have aF : a ∉ X.fs := fun hm => out (by
      obtain ⟨v, hv, q⟩ := List.mem_filterMap.mp hm
      exact List.mem_filterMap.mpr ⟨v, List.mem_cons_of_mem _ hv, q⟩)
    have a3 : s3.heap.get? a = none := by
      cases q : s3.heap.get? a with
      | none => rfl
      | some o =>
        have r := hB a o q (by rw [k1]; exact out)
        rw [F4.2.1] at r
        cases r
    have a0 : X.s_0.heap.get? a = none := by
      cases q : X.s_0.heap.get? a with
      | none => rfl
      | some o =>
        obtain ⟨o6, g6⟩ := J.base.there a o q (by rw [kex]; exact fun z => nomatch z)
        rw [a3] at g6
        cases g6
    have apin : ∀ p ∈ X.pn ++ pins, p.1 ≠ a := fun p hp q => by
      have r := (J.pin p hp).1
      rw [q, a3] at r
      cases r
    have T4 := I4.suite g4 d4 na aL aF
    refine wpAny_handleBy_cons (codeAny_handlers_test ?_) (fun q => nomatch q)
    have ty4 : PySem.W.Looks (model X.prog X.w) h4 (typeOf (.ref a)) cls := fun _ _ _ _ keeps q => wpAny_typeOf_ref (keeps _ _ g4) (z4.1.symm ▸ q)
    have fits := PySem.W.exm_one (M := model X.prog X.w) I4.kIn ty4 hyes
    have look : ∀ {Q' : Value → Shared → Prop} {E' : Value → Shared → Prop}, Q' c { s2 with heap := h4 } → wpAny (model X.prog X.w) (X.A.mark (some (.ref a))) (eval (.Name x np) X.env) Q' E' { s2 with heap := h4 } := fun {Q' E'} q => by
      obtain ⟨c1, c2, c3 | ⟨c3, c4, c5⟩⟩ := kc
      · exact ld_glob (X := X.suite a ((a, o4) :: (X.pn ++ pins))) T4 c1 c3 q c2
      · exact ld_blt (X := X.suite a ((a, o4) :: (X.pn ++ pins))) T4 c1 c3 c4 q c5 c2
    refine look (fits.here (codeAny_handlers_suite_as (HandSPX.lands_againZ F4 fun h5 F5 up5 => ?_)))
    have I5 : Inv X pins σ3 H3 { s2 with heap := h5 } := J.landed hB F5.1 ((hup.trans up4).trans up5) hos hag
    obtain ⟨o5, v5, g5, z5, d5⟩ := F5.there
    refine store_ok (X := X.suite a ((a, o5) :: (X.pn ++ pins))) (v := .ref a) (I5.suite g5 d5 na aL aF) k3 k4 (.inl k5) rfl (fun s6 T6 => ?_) (.inr k5)
    refine wpAny_mono ((ks a o5 cls none (X.pn ++ pins) z5 ⟨v5, d5⟩).run [] s6 _ H3 _ T6 (go a na)) (fun fl s7 q => ?_) fun _ _ z => z.elim
    cases fl with
    | next =>
      obtain ⟨σ7, H7, T7, q7⟩ := q
      have J7 := T7.unsuite I.ok
      have pin7 : ∀ p ∈ X.pn ++ ((a, o5) :: pins), s7.heap.get? p.1 = some p.2 ∧ H7 p.1 = none ∧ p.1 ≠ X.env.locals ∧ p.1 ∉ X.fs ∧ ∀ v, p.2.data ≠ .cell v := fun p hp => by
        refine T7.pin p ?_
        show p ∈ ((a, o5) :: (X.pn ++ pins)) ++ []
        rw [List.append_nil, List.mem_cons, List.mem_append]
        rcases List.mem_append.mp hp with r | r
        · exact .inr (.inl r)
        · rcases List.mem_cons.mp r with r | r
          · exact .inl r
          · exact .inr (.inr r)
      have P7 : Inv X ((a, o5) :: pins) σ7 H7 s7 := ⟨J7.ok, J7.os, J7.bare, J7.base, J7.loc, J7.cell, J7.free, J7.freeC, pin7, J7.hok, J7.len⟩
      exact gone_ok P7 k3 k4 k5 fun s8 P8 => ⟨_, _, inv_known P8 z5 d5 a0 apin, q7⟩
    | brk =>
      obtain ⟨_, _, _, q7⟩ := q
      exact q7.elim
    | cont =>
      obtain ⟨_, _, _, q7⟩ := q
      exact q7.elim
    | ret u =>
      obtain ⟨_, _, _, _, _, q7⟩ := q
      exact q7.elim
  · cases fl with
    | next =>
      obtain ⟨σ2, H2, J2, q2⟩ := q
      exact wpAny_execs_nil ⟨_, _, J2.ofTry I.ok, q2⟩
    | brk =>
      obtain ⟨σ2, H2, J2, q2⟩ := q
      exact ⟨_, _, J2.ofTry I.ok, q2⟩
    | cont =>
      obtain ⟨σ2, H2, J2, q2⟩ := q
      exact ⟨_, _, J2.ofTry I.ok, q2⟩
    | ret u =>
      obtain ⟨v2, σ2, H2, J2, r2, q2⟩ := q
      exact ⟨_, _, _, J2.ofTry I.ok, r2, q2⟩
end
/-- isinstance(x, c), x an error that was kept -/
def rIsV (K : PySem.W.Frag) : List V → Hp → VK → Prop := fun xs H Q => ∃ (a D : Addr) (c : V) (cv : Value) (b : Bool), xs = [.ref a, c] ∧ H a = some (ExV (.ref D) a) ∧ ExcC K D ∧ ClsV c cv ∧ PySem.W.kitOne K (.ref D) cv = some b ∧ Q (.bl b) H
theorem call_isV {X : Cx} : CallR X (.builtin "isinstance") (rIsV X.K) := by
  intro pins s σ H xs us Q I r h
  obtain ⟨a, D, c, cv, b, rfl, ha, C, k, e, q⟩ := h
  obtain ⟨u1, u2, rfl, r1, r2⟩ := vals2 r
  cases (show u1 = Value.ref a from r1)
  have e2 := k.eq r2
  subst e2
  obtain ⟨⟨oe, vs, g, z, d⟩, _, _⟩ := (show ObjOk X.prog X.w H s.heap a (ExV (.ref D) a) from I.hok a _ ha)
  have J := at_inst g z ⟨vs, d⟩
  exact PySem.W.kia_one (PySem.W.handS_kitx_exc C.hg C.hk C.hs C.hd C.ha C.hn C.ht C.hm) I.kIn J e (fun z => nomatch z) fun tk => ⟨.bl b, H, I.tok tk, rfl, q⟩
theorem isV {K : PySem.W.Frag} {H : Hp} {a D C : Addr} {b : Bool} {Q : VK} (g : H a = some (ExV (.ref D) a)) (x : ExcC K D) (h : PySem.W.kitOne K (.ref D) (.ref C) = some b) (q : Q (.bl b) H) : rIsV K [.ref a, .ref C] H Q := ⟨a, D, _, _, b, rfl, g, x, .own C, h, q⟩
theorem isVv {K : PySem.W.Frag} {H : Hp} {a D : Addr} {Q : VK} (g : H a = some (ExV (.ref D) a)) (x : ExcC K D) (h : PySem.W.kitOne K (.ref D) (.type "ValueError") = some true) (q : Q (.bl true) H) : rIsV K [.ref a, .ty "ValueError"] H Q := ⟨a, D, _, _, true, rfl, g, x, .ty _, h, q⟩
end Pb

namespace Pb
open PySem PySem.Spec L2
/-! ### parts of lists of deeds -/
section
variable {K : PySem.W.Frag} {H : Hp} {p a b : Addr} {as bs : List Addr} {ds es : List Dd} {Q : VK}
theorem sl_to {n : Nat} (L : LD H p as ds) (q : ∀ p1 H1, H p1 = none → Same H H1 → LD H1 p1 (as.take n) (ds.take n) → Q (.ref p1) H1) : rSlA K (.ref p) none (some (n : Int)) H Q :=
  sl_l (.of L.1) fun p1 H1 h s g => q p1 H1 h s ⟨by rw [g, cutV_to, List.map_take], (L.2.take n).mono s⟩
theorem sl_fr {n : Nat} (L : LD H p as ds) (q : ∀ p1 H1, H p1 = none → Same H H1 → LD H1 p1 (as.drop n) (ds.drop n) → Q (.ref p1) H1) : rSlA K (.ref p) (some (n : Int)) none H Q :=
  sl_l (.of L.1) fun p1 H1 h s g => q p1 H1 h s ⟨by rw [g, cutV_from, List.map_drop], (L.2.drop n).mono s⟩
theorem sl_md {n m : Nat} (L : LD H p as ds) (q : ∀ p1 H1, H p1 = none → Same H H1 → LD H1 p1 ((as.drop n).take (m - n)) ((ds.drop n).take (m - n)) → Q (.ref p1) H1) : rSlA K (.ref p) (some (n : Int)) (some (m : Int)) H Q :=
  sl_l (.of L.1) fun p1 H1 h s g => q p1 H1 h s ⟨by rw [g, cutV_mid, List.map_take, List.map_drop], ((L.2.drop n).take (m - n)).mono s⟩
theorem cat_ld (L : LD H a as ds) (L' : LD H b bs es) (hl : ds.length + es.length ≤ 1000) (q : ∀ p1 H1, H p1 = none → Same H H1 → LD H1 p1 (as ++ bs) (ds ++ es) → Q (.ref p1) H1) : rPlus (.ref a) (.ref b) H Q :=
  cat_l L.1 L'.1 (by rw [List.length_map, List.length_map, L.2.len, L'.2.len]; exact hl) fun p1 H1 h s g => q p1 H1 h s ⟨by rw [g, List.map_append], (L.2.app L'.2).mono s⟩
end
end Pb

namespace Pb
open PySem PySem.Spec L2
/-! ### k03 -/
/-- two neighbours exchanged -/
def swapAt {α : Type} (l : List α) (n : Nat) (x y : α) : List α := l.take n ++ [y, x] ++ l.drop (n + 2)
def BadP (ds : List Dd) (z : Int) : Prop := z < 0 ∨ (ds.length : Int) ≤ z + 1 ∨ ∃ (n : Nat) (d e : Dd), z = (n : Int) ∧ ds[n]? = some d ∧ ds[n + 1]? = some e ∧ clash d e = true
def sp_passed (K : PySem.W.Frag) (G : Str → Addr) : Sp := fun vs H Q E => ∃ (p : Addr) (as : List Addr) (ds : List Dd) (z : Int), vs = [.ref p, .int z] ∧ LD H p as ds ∧ ds.length ≤ 200 ∧
  ((∃ (n : Nat) (d e : Dd), z = (n : Int) ∧ ds[n]? = some d ∧ ds[n + 1]? = some e ∧ clash d e = false ∧ ∀ r H' bs, H r = none → Same H H' → LD H' r bs (swapAt ds n d e) → Q (.ref r) H') ∨
    (BadP ds z ∧ ∀ H', Same H H' → E (.ref (G "NoPass")) none H'))
theorem len_passed {K G vs H Q E} (h : sp_passed K G vs H Q E) : vs.length = 2 := by
  obtain ⟨p, as, ds, z, rfl, _⟩ := h
  rfl
abbrev n_passed : List Str := ["diary", "place"]
def t_passed (K : PySem.W.Frag) (G : Str → Addr) (E : XK) : TS :=
  (tSeq (tIfS (tOr (tTest (tOp rLt (tVar 1) (tC (.int 0)))) (tTest (tOp rGe (tOp rPlus (tVar 1) (tC (.int 1))) (tCB (rLen K) (tCons (tVar 0) tNil)))))
  (fun _ _ H => E (.ref (G "NoPass")) none H)
  tNext)
  (tSeq (tIfS (tB (tCall (sp_clash K) [] E0 (tCons (tOp (rIx K) (tVar 0) (tVar 1)) (tCons (tOp (rIx K) (tVar 0) (tOp rPlus (tVar 1) (tC (.int 1)))) tNil))))
  (fun _ _ H => E (.ref (G "NoPass")) none H)
  tNext)
  (tRet (tOp rPlus (tOp rPlus (tSl (rSlA K) (tVar 0) tNoPart (tPart (tVar 1))) (tLst (tCons (tOp (rIx K) (tVar 0) (tOp rPlus (tVar 1) (tC (.int 1)))) (tCons (tOp (rIx K) (tVar 0) (tVar 1)) tNil)))) (tSl (rSlA K) (tVar 0) (tPart (tOp rPlus (tVar 1) (tC (.int 2)))) tNoPart)))))
theorem r_passed {K G vs H Q E} (h : sp_passed K G vs H Q E) : t_passed K G E { nx := fun _ H' => Q .non H', rt := Q } (start n_passed vs) H := by
  obtain ⟨p, as, ds, z, rfl, hp, hl, h⟩ := h
  have hla := hp.2.len
  have gp := hp.1
  unfold t_passed
  rcases h with ⟨n, d, e, rfl, hd, he, hc, k⟩ | ⟨hb, k⟩
  · have h1 := (List.getElem?_eq_some_iff.mp he).1
    obtain ⟨a1, ha1, t1⟩ := hp.2.getd hd
    obtain ⟨a2, ha2, t2⟩ := hp.2.getd he
    walk_at "go"
    rw [show decide ((n : Int) < 0) = false from decide_eq_false (by omega)]
    walk_at "go"
    rw [List.length_map, show decide (((as.length : Nat) : Int) ≤ (n : Int) + 1) = false from decide_eq_false (by omega)]
    walk_at "go"
    refine ix_l' gp (atI_nat (j := n) (ref_at ha1)) ?_
    refine ix_l' gp (atI_nat (j := n + 1) (ref_at ha2)) ?_
    refine ⟨a1, a2, d, e, rfl, t1, t2, ?_⟩
    rw [hc]
    walk_at "go"
    refine sl_to (n := n) hp fun r1 H1 hr1 s1 L1 => ?_
    have gp1 := s1 _ _ gp
    refine ix_l' gp1 (atI_nat (j := n + 1) (ref_at ha2)) ?_
    refine ix_l' gp1 (atI_nat (j := n) (ref_at ha1)) ?_
    refine lstQ fun r2 H2 hr2 s2 g2 => ?_
    have s12 := s1.trans s2
    have L2 : LD H2 r2 [a2, a1] [e, d] := ⟨g2, s12 _ _ t2, s12 _ _ t1, trivial⟩
    refine cat_ld (L1.mono s2) L2 (by rw [List.length_take]; simp; omega) fun r3 H3 hr3 s3 L3 => ?_
    refine sl_fr (n := n + 2) (hp.mono (s12.trans s3)) fun r4 H4 hr4 s4 L4 => ?_
    refine cat_ld (L3.mono s4) L4 (by rw [List.length_append, List.length_take, List.length_drop]; simp; omega) fun r5 H5 hr5 s5 L5 => ?_
    exact k r5 H5 _ (((s12.trans s3).trans s4).free hr5) (((s12.trans s3).trans s4).trans s5) L5
  · walk_at "go"
    by_cases c1 : z < 0
    · rw [decide_eq_true c1]
      walk_at "go"
      exact k H (Same.refl _)
    · rw [decide_eq_false c1]
      walk_at "go"
      rw [List.length_map]
      by_cases c2 : (ds.length : Int) ≤ z + 1
      · rw [show decide (((as.length : Nat) : Int) ≤ z + 1) = true from decide_eq_true (by omega)]
        walk_at "go"
        exact k H (Same.refl _)
      · rw [show decide (((as.length : Nat) : Int) ≤ z + 1) = false from decide_eq_false (by omega)]
        rcases hb with hb | hb | ⟨n, d, e, rfl, hd, he, hc⟩
        · exact absurd hb c1
        · exact absurd hb c2
        · obtain ⟨a1, ha1, t1⟩ := hp.2.getd hd
          obtain ⟨a2, ha2, t2⟩ := hp.2.getd he
          walk_at "go"
          refine ix_l' gp (atI_nat (j := n) (ref_at ha1)) ?_
          refine ix_l' gp (atI_nat (j := n + 1) (ref_at ha2)) ?_
          refine ⟨a1, a2, d, e, rfl, t1, t2, ?_⟩
          rw [hc]
          walk_at "go"
          exact k H (Same.refl _)

def sp_lpassed (K : PySem.W.Frag) : Sp := fun vs H Q _ => ∃ (p : Addr) (as : List Addr) (ds : List Dd) (n : Nat) (d e : Dd), vs = [.ref p, .int (n : Nat)] ∧ LD H p as ds ∧ ds.length ≤ 200 ∧ ds[n]? = some d ∧ ds[n + 1]? = some e ∧ ∀ r H' bs, H r = none → Same H H' → LD H' r bs (swapAt ds n d e) → Q (.ref r) H'
theorem len_lpassed {K vs H Q E} (h : sp_lpassed K vs H Q E) : vs.length = 2 := by
  obtain ⟨p, as, ds, n, d, e, rfl, _⟩ := h
  rfl
abbrev n_lpassed : List Str := ["_law_diary_here", "_law_place_here"]
def t_lpassed (K : PySem.W.Frag) : TS :=
  (tRet (tOp rPlus (tOp rPlus (tSl (rSlA K) (tVar 0) tNoPart (tPart (tVar 1))) (tLst (tCons (tOp (rIx K) (tVar 0) (tOp rPlus (tVar 1) (tC (.int 1)))) (tCons (tOp (rIx K) (tVar 0) (tVar 1)) tNil)))) (tSl (rSlA K) (tVar 0) (tPart (tOp rPlus (tVar 1) (tC (.int 2)))) tNoPart)))
theorem r_lpassed {K vs H Q E} (h : sp_lpassed K vs H Q E) : t_lpassed K { nx := fun _ H' => Q .non H', rt := Q } (start n_lpassed vs) H := by
  obtain ⟨p, as, ds, n, d, e, rfl, hp, hl, hd, he, k⟩ := h
  have h1 := (List.getElem?_eq_some_iff.mp he).1
  obtain ⟨a1, ha1, t1⟩ := hp.2.getd hd
  obtain ⟨a2, ha2, t2⟩ := hp.2.getd he
  unfold t_lpassed
  walk_at "go"
  refine sl_to (n := n) hp fun r1 H1 hr1 s1 L1 => ?_
  have gp1 := s1 _ _ hp.1
  refine ix_l' gp1 (atI_nat (j := n + 1) (ref_at ha2)) ?_
  refine ix_l' gp1 (atI_nat (j := n) (ref_at ha1)) ?_
  refine lstQ fun r2 H2 hr2 s2 g2 => ?_
  have s12 := s1.trans s2
  have L2 : LD H2 r2 [a2, a1] [e, d] := ⟨g2, s12 _ _ t2, s12 _ _ t1, trivial⟩
  refine cat_ld (L1.mono s2) L2 (by rw [List.length_take]; simp; omega) fun r3 H3 hr3 s3 L3 => ?_
  refine sl_fr (n := n + 2) (hp.mono (s12.trans s3)) fun r4 H4 hr4 s4 L4 => ?_
  refine cat_ld (L3.mono s4) L4 (by rw [List.length_append, List.length_take, List.length_drop]; simp; omega) fun r5 H5 hr5 s5 L5 => ?_
  exact k r5 H5 _ (((s12.trans s3).trans s4).free hr5) (((s12.trans s3).trans s4).trans s5) L5

def sp_place (K : PySem.W.Frag) : Sp := fun vs H Q _ => ∃ (c : Int) (n : Nat), vs = [.int c, .int n] ∧ ∀ (z : Int) H', Same H H' → Q (.int z) H'
theorem len_place {K vs H Q E} (h : sp_place K vs H Q E) : vs.length = 2 := by
  obtain ⟨c, n, rfl, _⟩ := h
  rfl
theorem ix6 {K : PySem.W.Frag} {H : Hp} {p : Addr} {a0 a1 a2 a3 a4 a5 : Int} {v : Int} {Q : VK} (g : H p = some (.lst [.int a0, .int a1, .int a2, .int a3, .int a4, .int a5])) (h : 0 ≤ v ∧ v < 6) (q : ∀ n : Int, Q (.int n) H) : rIx K (.ref p) (.int v) H Q := by
  rcases (show v = 0 ∨ v = 1 ∨ v = 2 ∨ v = 3 ∨ v = 4 ∨ v = 5 by omega) with rfl | rfl | rfl | rfl | rfl | rfl
  · exact ix_l' g rfl (q _)
  · exact ix_l' g rfl (q _)
  · exact ix_l' g rfl (q _)
  · exact ix_l' g rfl (q _)
  · exact ix_l' g rfl (q _)
  · exact ix_l' g rfl (q _)
abbrev n_place : List Str := ["_law_cell", "_law_size", "_law_far"]
def t_place (K : PySem.W.Frag) : TS :=
  (tSeq (tAsg (tOp rMod (tOp rDiv (tVar 0) (tC (.int 24))) (tOp rPow (tC (.int 10)) (tC (.int 59)))) (gName 2))
  (tSeq (tIfS (tTest (tOp (rEqA K) (tOp rMod (tVar 0) (tC (.int 6))) (tC (.int 0))))
  (tRet (tOp (rIx K) (tLst (tCons (tUn rNeg (tC (.int 1))) (tCons (tOp rSub (tVar 1) (tC (.int 1))) (tCons (tVar 1) (tCons (tOp rSub (tUn rNeg (tC (.int 2))) (tVar 2)) (tCons (tOp rPlus (tVar 1) (tVar 2)) (tCons (tOp rSub (tC (.int 0)) (tVar 1)) tNil))))))) (tOp rMod (tOp rDiv (tVar 0) (tC (.int 6))) (tC (.int 6)))))
  tNext)
  (tRet (tOp rMod (tOp rDiv (tVar 0) (tC (.int 6))) (tCB rMax2 (tCons (tC (.int 1)) (tCons (tOp rSub (tVar 1) (tC (.int 1))) tNil)))))))
theorem r_place {K vs H Q E} (h : sp_place K vs H Q E) : t_place K { nx := fun _ H' => Q .non H', rt := Q } (start n_place vs) H := by
  obtain ⟨c, n, rfl, k⟩ := h
  unfold t_place
  walk_at "go"
  have hd : (0 : Int) < 10 ^ 59 := by decide
  refine ite2 (fun c => ?_) (fun c => ?_)
  · walk_at "go"
    refine lstQ fun p H1 hp s1 g1 => ?_
    exact ix6 g1 (by omega) fun z => k z H1 s1
  · walk_at "go"
    refine max2 ?_
    have hpos : 0 < (if (n : Int) - 1 > 1 then (n : Int) - 1 else 1) := by split <;> omega
    walk_at "go"
    exact ⟨hpos, k _ H (Same.refl _)⟩

def sp_refused_k03 (K : PySem.W.Frag) : Sp := fun vs H Q _ => ∃ (p : Addr) (as : List Addr) (ds : List Dd) (z : Int), vs = [.ref p, .int z] ∧ LD H p as ds ∧ ds.length ≤ 200 ∧ BadP ds z ∧ ∀ H', Same H H' → Q (.bl true) H'
theorem len_refused_k03 {K vs H Q E} (h : sp_refused_k03 K vs H Q E) : vs.length = 2 := by
  obtain ⟨p, as, ds, z, rfl, _⟩ := h
  rfl
abbrev n_refused_k03 : List Str := ["_law_diary_here", "_law_place_here", "_law_error", "e"]
def t_refused_k03 (K : PySem.W.Frag) (G : Str → Addr) : TS :=
  (tSeq (tAsg (tC .non) (gName 2))
  (tSeq (fun D σ H => (fun W => (tDrop (tCallS (sp_passed K G) (WE W) (tCons (tVar 0) (tCons (tVar 1) tNil))))) (wKeep K (.ref (G "PassbyError")) 3 (fun a cls d => (tAsg (tVar 3) (gName 2))) D) D σ H)
  (tSeq (tIfS (tOr (tNot (tB (tCB (rIsV K) (tCons (tVar 2) (tCons (tC (.ref (G "NoPass"))) tNil))))) (tNot (tB (tCB (rIsV K) (tCons (tVar 2) (tCons (tC (.ty "ValueError")) tNil))))))
  (tRet (tC (.bl false)))
  tNext)
  (tSeq (tIfS (tOr (tB (tCB (rIsV K) (tCons (tVar 2) (tCons (tC (.ref (G "NoDeed"))) tNil)))) (tB (tCB (rIsV K) (tCons (tVar 2) (tCons (tC (.ref (G "Nothing"))) tNil)))))
  (tRet (tC (.bl false)))
  tNext)
  (tRet (tNotV (tCB (rIsV K) (tCons (tVar 2) (tCons (tC (.ref (G "NoBox"))) tNil)))))))))
theorem r_refused_k03 {K G vs H Q E} (X : XF K G "NoPass") (h : sp_refused_k03 K vs H Q E) : t_refused_k03 K G { nx := fun _ H' => Q .non H', rt := Q } (start n_refused_k03 vs) H := by
  obtain ⟨p, as, ds, z, rfl, hp, hl, hb, k⟩ := h
  unfold t_refused_k03
  walk_at "go"
  refine ⟨p, as, ds, z, rfl, hp, hl, .inr ⟨hb, fun H1 s1 => ⟨X.eb, rfl, fun a ha => ?_⟩⟩⟩
  walk_at "go"
  have g : (upd H1 a (ExV (.ref (G "NoPass")) a)) a = some (ExV (.ref (G "NoPass")) a) := upd_same
  refine isV g X.ex X.ks ?_
  walk_at "go"
  refine isVv g X.ex X.kv ?_
  walk_at "go"
  refine isV g X.ex (X.ko _ (by decide) (by decide)) ?_
  walk_at "go"
  refine isV g X.ex (X.ko _ (by decide) (by decide)) ?_
  walk_at "go"
  refine isV g X.ex (X.ko _ (by decide) (by decide)) ?_
  walk_at "go"
  exact k _ (s1.trans (same_new ha))
end Pb

namespace Pb
open PySem PySem.Spec L2
/-! ### k03: the law -/
theorem swap_len {α : Type} {l : List α} {n : Nat} {x y : α} (h : n + 1 < l.length) : (swapAt l n x y).length = l.length := by
  unfold swapAt
  rw [List.length_append, List.length_append, List.length_take, List.length_drop]
  simp
  omega
theorem LD.keep {H H1 : Hp} {p q : Addr} {as : List Addr} {ds : List Dd} {xs : List V} (L : LD H p as ds) (hq : H q = some (.lst xs)) (n : p ≠ q) (ne : ∀ b, b ≠ q → H1 b = H b) : LD H1 p as ds := ⟨(ne p n).trans L.1, L.2.keep hq ne⟩
/-- what was told before, beside what was due -/
def Held (H : Hp) (h : Addr) (qs : List Addr) : Prop := ∀ q ∈ qs, ∃ t n as bs ds, H q = some (.tup [.ref t, .ref n]) ∧ LD H t as ds ∧ LD H n bs ds ∧ t ≠ h ∧ n ≠ h
theorem Held.mono {H H' : Hp} {h : Addr} {qs : List Addr} (s : Same H H') (k : Held H h qs) : Held H' h qs := fun q hq => by
  obtain ⟨t, n, as, bs, ds, g, L1, L2, n1, n2⟩ := k q hq
  exact ⟨t, n, as, bs, ds, s _ _ g, L1.mono s, L2.mono s, n1, n2⟩
theorem Held.keep {H H' : Hp} {h : Addr} {qs : List Addr} {xs : List V} (k : Held H h qs) (g : H h = some (.lst xs)) (ne : ∀ b, b ≠ h → H' b = H b) : Held H' h qs := fun q hq => by
  obtain ⟨t, n, as, bs, ds, gq, L1, L2, n1, n2⟩ := k q hq
  exact ⟨t, n, as, bs, ds, (ne q (ne_of gq g (by intro z; cases z))).trans gq, L1.keep g n1 ne, L2.keep g n2 ne, n1, n2⟩
theorem iv_of3 {ns : List Int} {i : Nat} {x : V} (h : (ns.map V.int)[i]? = some x) : ∃ z, ns[i]? = some z ∧ x = V.int z := by
  rw [List.getElem?_map] at h
  cases e : ns[i]? with
  | none => rw [e] at h; cases h
  | some z => rw [e] at h; exact ⟨z, rfl, (Option.some.inj h).symm⟩
theorem len_law_k03 {K vs H Q E} (h : sp_law K vs H Q E) : vs.length = 1 := len_law h
abbrev n_law_k03 : List Str := ["_law_script", "_law_now", "_law_told", "_law_held", "_law_cell", "_law_place_here", "_law_fits", "_law_found", "_law_part", "_law_list_told", "_law_due"]
def t_law_k03 (K : PySem.W.Frag) (G : Str → Addr) : TS :=
  (tSeq (tAsg (tCall (sp_diary K) [] E0 (tCons (tVar 0) (tCons (tC (.int 90)) tNil))) (gName 1))
  (tSeq (tAsg (tCB (rListOf K) (tCons (tVar 1) tNil)) (gName 2))
  (tSeq (tAsg (tLst tNil) (gName 3))
  (tSeq (tFor (iList K (tSl (rSlA K) (tVar 0) (tPart (tC (.int 6))) (tPart (tC (.int 90))))) (gName 4)
  (tSeq (tAsg (tCall (sp_place K) [] E0 (tCons (tVar 4) (tCons (tCB (rLen K) (tCons (tVar 1) tNil)) tNil))) (gName 5))
  (tSeq (tAsg (tAndV (tOp rGe (tVar 5) (tC (.int 0))) (tOp rLt (tOp rPlus (tVar 5) (tC (.int 1))) (tCB (rLen K) (tCons (tVar 1) tNil)))) (gName 6))
  (tIfS (tAnd (tB (tVar 6)) (tNot (tB (tCall (sp_clash K) [] E0 (tCons (tOp (rIx K) (tVar 1) (tVar 5)) (tCons (tOp (rIx K) (tVar 1) (tOp rPlus (tVar 5) (tC (.int 1)))) tNil))))))
  (tSeq (tAsg (tCall (sp_passed K G) [] E0 (tCons (tVar 2) (tCons (tVar 5) tNil))) (gName 7))
  (tSeq (tIfS (tTest (tOp (rNeA K) (tVar 2) (tVar 1)))
  (tRet (tC (.bl false)))
  tNext)
  (tSeq (tDrop (tBM K "list" rAppend (tVar 3) (tCons (tTup (tCons (tVar 2) (tCons (tVar 1) tNil))) tNil)))
  (tSeq (tAsg (tCall (sp_lpassed K) [] E0 (tCons (tVar 1) (tCons (tVar 5) tNil))) (gName 1))
  (tSeq (tAsg (tSl (rSlA K) (tVar 1) (tPart (tVar 5)) (tPart (tOp rPlus (tVar 5) (tC (.int 2))))) (gName 8))
  (tSeq (tIfS (tOr (tTest (tOp (rNeA K) (tVar 7) (tVar 1))) (tNot (tB (tCall (sp_same 4 K) [] E0 (tCons (tSl (rSlA K) (tVar 7) (tPart (tVar 5)) (tPart (tOp rPlus (tVar 5) (tC (.int 2))))) (tCons (tVar 8) tNil))))))
  (tRet (tC (.bl false)))
  tNext)
  (tAsg (tVar 7) (gName 2))))))))
  (tIfS (tOr (tNot (tB (tCall (sp_refused_k03 K) [] E0 (tCons (tVar 2) (tCons (tVar 5) tNil))))) (tTest (tOp (rNeA K) (tVar 2) (tVar 1))))
  (tRet (tC (.bl false)))
  tNext)))))
  (tSeq (tFor (iList K (tVar 3)) (gTup K 2 (gCons (gName 9) (gCons (gName 10) gNil)))
  (tIfS (tTest (tOp (rNeA K) (tVar 9) (tVar 10)))
  (tRet (tC (.bl false)))
  tNext))
  (tRet (tCall (sp_same 4 K) [] E0 (tCons (tVar 2) (tCons (tVar 1) tNil)))))))))
theorem r_law_k03 {K G vs H Q E} (h : sp_law K vs H Q E) : t_law_k03 K G { nx := fun _ H' => Q .non H', rt := Q } (start n_law_k03 vs) H := by
  obtain ⟨a, ns, rfl, ha, hl, q⟩ := h
  unfold t_law_k03
  walk_at "go"
  refine ⟨a, ns, 90, rfl, ha, hl, fun p1 H1 as ds hp1 s1 L1 hok hlen => ?_⟩
  walk_at "go"
  refine listOf (.of L1.1) fun p2 H2 hp2 s2 g2 => ?_
  walk_at "go"
  refine lstQ fun h H3 hh s3 g3 => ?_
  have L13 := (L1.mono s2).mono s3
  have L23 : LD H3 p2 as ds := ⟨s3 _ _ g2, L13.2⟩
  have n1 : p1 ≠ h := ne_of_none ((L1.mono s2).1) hh
  have n2 : p2 ≠ h := ne_of_none g2 hh
  have hdl : ds.length ≤ 63 := by rw [← L1.2.len]; exact hlen
  generalize hN : ds.length = N at hdl
  walk_at "go"
  obtain ⟨ms, em, hms⟩ := cut_ints ns (some 6) (some 90)
  refine sl_l (((s1.trans s2).trans s3).seq ha) fun p4 H4 hp4 s4 g4 => ?_
  rw [em] at g4
  have n4 : p4 ≠ h := (ne_of_none g3 hp4).symm
  refine forL (.of g4) (fun i σ H5 => ∃ (p1 p2 : Addr) (as bs : List Addr) (ds : List Dd) (qs : List Addr) (v4 v5 v6 v7 v8 : Option V), σ = [some (.ref a), some (.ref p1), some (.ref p2), some (.ref h), v4, v5, v6, v7, v8, none, none] ∧ Same H2 H5 ∧ LD H5 p1 as ds ∧ LD H5 p2 bs ds ∧ ds.length = N ∧ p1 ≠ h ∧ p2 ≠ h ∧ H5 h = some (.lst (qs.map V.ref)) ∧ qs.length ≤ i ∧ Held H5 h qs ∧ H5 p4 = some (.lst (ms.map V.int)))
    ⟨p1, p2, as, as, ds, [], none, none, none, none, none, rfl, s3.trans s4, L13.mono s4, L23.mono s4, hN, n1, n2, s4 _ _ g3, Nat.le_refl _, (fun q hq => by cases hq), g4⟩ (fun i σ H5 _ ⟨_, _, _, _, _, _, _, _, _, _, _, _, _, _, _, _, _, _, _, _, _, g⟩ => .of g) ?_ ?_
  · rintro i x σ H5 hx ⟨p1, p2, as, bs, ds, qs, v4, v5, v6, v7, v8, rfl, s5, L1, L2, hdn, n1, n2, gh, hql, hd5, g45⟩
    obtain ⟨c, hc, rfl⟩ := iv_of3 hx
    have hi := (List.getElem?_eq_some_iff.mp hc).1
    have hal := L1.2.len
    have gp1 := L1.1
    walk_at "go"
    rw [List.length_map]
    refine ⟨c, as.length, rfl, fun z H6 s6 => ?_⟩
    have L16 := L1.mono s6
    have L26 := L2.mono s6
    have gp16 := L16.1
    have gh6 := s6 _ _ gh
    have hd6 := hd5.mono s6
    have g46 := s6 _ _ g45
    have s26 := s5.trans s6
    -- what follows where the place is refused
    by_cases ok : ∃ (n : Nat) (d e : Dd), z = (n : Int) ∧ ds[n]? = some d ∧ ds[n + 1]? = some e ∧ clash d e = false
    · obtain ⟨n, d, e, rfl, hd, he, hcl⟩ := ok
      have hn1 := (List.getElem?_eq_some_iff.mp he).1
      obtain ⟨a1, ha1, t1⟩ := L16.2.getd hd
      obtain ⟨a2, ha2, t2⟩ := L16.2.getd he
      walk_at "go"
      rw [show decide ((0 : Int) ≤ (n : Int)) = true from decide_eq_true (by omega)]
      walk_at "go"
      rw [List.length_map, show decide ((n : Int) + 1 < ((as.length : Nat) : Int)) = true from decide_eq_true (by omega)]
      walk_at "go"
      refine ix_l' gp16 (atI_nat (j := n) (ref_at ha1)) ?_
      refine ix_l' gp16 (atI_nat (j := n + 1) (ref_at ha2)) ?_
      refine ⟨a1, a2, d, e, rfl, t1, t2, ?_⟩
      rw [hcl]
      walk_at "go"
      refine ⟨p2, bs, ds, _, rfl, L26, by omega, .inl ⟨n, d, e, rfl, hd, he, hcl, fun r H7 cs hr s7 L7 => ?_⟩⟩
      have L17 := L16.mono s7
      have L27 := L26.mono s7
      walk_at "go"
      refine neA_same (ld_dp L27) (ld_dp L17) (dds_ok ds) ?_
      have gh7 := s7 _ _ gh6
      have hd7 := hd6.mono s7
      have nr : r ≠ h := (ne_of_none gh6 hr).symm
      walk_at "go"
      refine ⟨ty_l gh7, ?_⟩
      refine tupQ fun tp H8 htp s8 g8 => ?_
      have gh8 := s8 _ _ gh7
      have hd8 := hd7.mono s8
      have s28 := (s26.trans s7).trans s8
      refine append_r s28 hh gh8 (by rw [List.length_map]; omega) fun H9 s9 g9 ne9 => ?_
      have L19 := (L17.mono s8).keep gh8 n1 ne9
      have L29 := (L27.mono s8).keep gh8 n2 ne9
      have Lr9 := (L7.mono s8).keep gh8 nr ne9
      have ntp : tp ≠ h := (ne_of_none gh7 htp).symm
      have hd9 : Held H9 h (qs ++ [tp]) := fun q hq => by
        rcases List.mem_append.mp hq with hq | hq
        · exact (hd8.keep gh8 ne9) q hq
        · rw [List.mem_singleton.mp hq]
          exact ⟨p2, p1, bs, as, ds, (ne9 tp ntp).trans g8, L29, L19, n2, n1⟩
      have g49 : H9 p4 = _ := (ne9 p4 n4).trans (s8 _ _ (s7 _ _ g46))
      refine ⟨p1, as, ds, n, d, e, rfl, L19, by omega, hd, he, fun r2 H10 cs2 hr2 s10 L10 => ?_⟩
      have Lr10 := Lr9.mono s10
      have nr2 : r2 ≠ h := (ne_of_none g9 hr2).symm
      walk_at "go"
      refine sl_md (n := n) (m := n + 2) L10 fun r3 H11 hr3 s11 L11 => ?_
      have L10' := L10.mono s11
      have Lr11 := Lr10.mono s11
      walk_at "go"
      refine neA_same (ld_dp Lr11) (ld_dp L10') (dds_ok _) ?_
      walk_at "go"
      refine sl_md (n := n) (m := n + 2) Lr11 fun r4 H12 hr4 s12 L12 => ?_
      have s912 := (s10.trans s11).trans s12
      refine ⟨_, _, _, rfl, ld_dp L12, ld_dp (L11.mono s12), (dds_ok _).up, fun H13 s13 => ?_⟩
      have s913 := s912.trans s13
      walk_at "go"
      refine ⟨r2, r, cs2, cs, swapAt ds n d e, qs ++ [tp], _, _, _, _, _, rfl, s9.trans s913, (L10'.mono s12).mono s13, (Lr11.mono s12).mono s13, (swap_len hn1).trans hdn, nr2, nr, ?_, ?_, hd9.mono s913, s913 _ _ g49⟩
      · rw [s913 _ _ g9]
        simp
      · rw [List.length_append]
        simp
        omega
    · have hbad : BadP ds z := by
        by_cases c1 : z < 0
        · exact .inl c1
        · by_cases c2 : (ds.length : Int) ≤ z + 1
          · exact .inr (.inl c2)
          · obtain ⟨n, rfl⟩ := nn_nat (show 0 ≤ z by omega)
            obtain ⟨d, hd⟩ : ∃ d, ds[n]? = some d := ⟨_, List.getElem?_eq_getElem (by omega)⟩
            obtain ⟨e, he⟩ : ∃ d, ds[n + 1]? = some d := ⟨_, List.getElem?_eq_getElem (by omega)⟩
            refine .inr (.inr ⟨n, d, e, rfl, hd, he, ?_⟩)
            cases cc : clash d e with
            | true => rfl
            | false => exact absurd ⟨n, d, e, rfl, hd, he, cc⟩ ok
      have fin : ∀ (v6 : V), ∀ H7, Same H6 H7 → (Hold fun σ H5 => ∃ (p1 p2 : Addr) (as bs : List Addr) (ds : List Dd) (qs : List Addr) (v4 v5 v6 v7 v8 : Option V), σ = [some (.ref a), some (.ref p1), some (.ref p2), some (.ref h), v4, v5, v6, v7, v8, none, none] ∧ Same H2 H5 ∧ LD H5 p1 as ds ∧ LD H5 p2 bs ds ∧ ds.length = N ∧ p1 ≠ h ∧ p2 ≠ h ∧ H5 h = some (.lst (qs.map V.ref)) ∧ qs.length ≤ i + 1 ∧ Held H5 h qs ∧ H5 p4 = some (.lst (ms.map V.int))) [some (.ref a), some (.ref p1), some (.ref p2), some (.ref h), some (.int c), some (.int z), some v6, v7, v8, none, none] H7 := fun v6 H7 s7 =>
        ⟨p1, p2, as, bs, ds, qs, _, _, _, _, _, rfl, s26.trans s7, L16.mono s7, L26.mono s7, hdn, n1, n2, s7 _ _ gh6, by omega, hd6.mono s7, s7 _ _ g46⟩
      walk_at "go"
      by_cases c1 : z < 0
      · rw [show decide ((0 : Int) ≤ z) = false from decide_eq_false (by omega)]
        walk_at "go"
        refine ⟨p2, bs, ds, z, rfl, L26, by omega, hbad, fun H7 s7 => ?_⟩
        walk_at "go"
        refine neA_same (ld_dp (L26.mono s7)) (ld_dp (L16.mono s7)) (dds_ok ds) ?_
        walk_at "go"
        exact fin _ H7 s7
      · rw [show decide ((0 : Int) ≤ z) = true from decide_eq_true (by omega)]
        walk_at "go"
        rw [List.length_map]
        by_cases c2 : (ds.length : Int) ≤ z + 1
        · rw [show decide (z + 1 < ((as.length : Nat) : Int)) = false from decide_eq_false (by omega)]
          walk_at "go"
          refine ⟨p2, bs, ds, z, rfl, L26, by omega, hbad, fun H7 s7 => ?_⟩
          walk_at "go"
          refine neA_same (ld_dp (L26.mono s7)) (ld_dp (L16.mono s7)) (dds_ok ds) ?_
          walk_at "go"
          exact fin _ H7 s7
        · rw [show decide (z + 1 < ((as.length : Nat) : Int)) = true from decide_eq_true (by omega)]
          rcases id hbad with hb | hb | ⟨n, d, e, rfl, hd, he, hc⟩
          · exact absurd hb c1
          · exact absurd hb c2
          · obtain ⟨a1, ha1, t1⟩ := L16.2.getd hd
            obtain ⟨a2, ha2, t2⟩ := L16.2.getd he
            walk_at "go"
            refine ix_l' gp16 (atI_nat (j := n) (ref_at ha1)) ?_
            refine ix_l' gp16 (atI_nat (j := n + 1) (ref_at ha2)) ?_
            refine ⟨a1, a2, d, e, rfl, t1, t2, ?_⟩
            rw [hc]
            walk_at "go"
            refine ⟨p2, bs, ds, _, rfl, L26, by omega, hbad, fun H7 s7 => ?_⟩
            walk_at "go"
            refine neA_same (ld_dp (L26.mono s7)) (ld_dp (L16.mono s7)) (dds_ok ds) ?_
            walk_at "go"
            exact fin _ H7 s7
  · rintro σ H5 ⟨p1, p2, as, bs, ds, qs, v4, v5, v6, v7, v8, rfl, s5, L1, L2, hdn, n1, n2, gh, hql, hd5, g45⟩
    walk_at "go"
    refine forL (.of gh) (fun i σ H6 => ∃ (v9 v10 : Option V), σ = [some (.ref a), some (.ref p1), some (.ref p2), some (.ref h), v4, v5, v6, v7, v8, v9, v10] ∧ H6 = H5) ⟨none, none, rfl, rfl⟩ (fun i σ H6 _ ⟨_, _, _, e⟩ => by rw [e]; exact .of gh) ?_ ?_
    · rintro i x σ H6 hx ⟨v9, v10, rfl, rfl⟩
      obtain ⟨q', hq', rfl⟩ := ref_get hx
      obtain ⟨t, n, as', bs', ds', gq, Lt, Ln, _⟩ := hd5 q' (List.mem_of_getElem? hq')
      walk_at "go"
      refine neA_same (ld_dp Lt) (ld_dp Ln) (dds_ok ds') ?_
      walk_at "go"
      exact ⟨_, _, rfl, rfl⟩
    · rintro σ H6 ⟨v9, v10, rfl, rfl⟩
      walk_at "go"
      exact ⟨_, _, _, rfl, ld_dp L2, ld_dp L1, (dds_ok ds).up, fun H7 s7 => q _⟩
end Pb

namespace Rk03
open PySem PySem.Spec L2 Pb
def top (i : Nat) : Stmt := PySem.Challenge.pw_passby_k03_one_passing.main.body.getD i (.Pass ⟨0, 0, 0, 0⟩)
abbrev s_clash : Stmt := (top 7)
theorem sc_clash : FnScope n_clash ["one", "other"] (defScope s_clash) := ⟨rfl, rfl, rfl, by decide +kernel, rfl, by decide +kernel, by decide +kernel⟩
abbrev s_passed : Stmt := (top 9)
theorem sc_passed : FnScope n_passed ["diary", "place"] (defScope s_passed) := ⟨rfl, rfl, rfl, by decide +kernel, rfl, by decide +kernel, by decide +kernel⟩
abbrev s_cell_at : Stmt := (top 11)
theorem sc_cell_at : FnScope n_cell_at ["_law_script", "_law_k"] (defScope s_cell_at) := ⟨rfl, rfl, rfl, by decide +kernel, rfl, by decide +kernel, by decide +kernel⟩
abbrev s_lclash : Stmt := (top 12)
theorem sc_lclash : FnScope n_lclash ["_law_one", "_law_other"] (defScope s_lclash) := ⟨rfl, rfl, rfl, by decide +kernel, rfl, by decide +kernel, by decide +kernel⟩
abbrev s_bits : Stmt := (top 13)
theorem sc_bits : FnScope n_bits ["_law_which", "_law_boxes"] (defScope s_bits) := ⟨rfl, rfl, rfl, by decide +kernel, rfl, by decide +kernel, by decide +kernel⟩
abbrev s_far_bits : Stmt := (top 14)
theorem sc_far_bits : FnScope n_far_bits ["_law_cell"] (defScope s_far_bits) := ⟨rfl, rfl, rfl, by decide +kernel, rfl, by decide +kernel, by decide +kernel⟩
abbrev s_names : Stmt := (top 15)
theorem sc_names : FnScope n_names ["_law_cell", "_law_other"] (defScope s_names) := ⟨rfl, rfl, rfl, by decide +kernel, rfl, by decide +kernel, by decide +kernel⟩
abbrev s_near : Stmt := (top 16)
theorem sc_near : FnScope n_near ["_law_number", "_law_names_here", "_law_boxes"] (defScope s_near) := ⟨rfl, rfl, rfl, by decide +kernel, rfl, by decide +kernel, by decide +kernel⟩
abbrev s_diary : Stmt := (top 17)
theorem sc_diary : FnScope n_diary ["_law_script", "_law_most"] (defScope s_diary) := ⟨rfl, rfl, rfl, by decide +kernel, rfl, by decide +kernel, by decide +kernel⟩
abbrev s_same : Stmt := (top 18)
theorem sc_same : FnScope n_same ["_law_found", "_law_due"] (defScope s_same) := ⟨rfl, rfl, rfl, by decide +kernel, rfl, by decide +kernel, by decide +kernel⟩
abbrev s_place : Stmt := (top 19)
theorem sc_place : FnScope n_place ["_law_cell", "_law_size"] (defScope s_place) := ⟨rfl, rfl, rfl, by decide +kernel, rfl, by decide +kernel, by decide +kernel⟩
abbrev s_refused_k03 : Stmt := (top 20)
theorem sc_refused_k03 : FnScope n_refused_k03 ["_law_diary_here", "_law_place_here"] (defScope s_refused_k03) := ⟨rfl, rfl, rfl, by decide +kernel, rfl, by decide +kernel, by decide +kernel⟩
abbrev s_lpassed : Stmt := (top 21)
theorem sc_lpassed : FnScope n_lpassed ["_law_diary_here", "_law_place_here"] (defScope s_lpassed) := ⟨rfl, rfl, rfl, by decide +kernel, rfl, by decide +kernel, by decide +kernel⟩
abbrev s_law_k03 : Stmt := (top 22)
theorem sc_law_k03 : FnScope n_law_k03 ["_law_script"] (defScope s_law_k03) := ⟨rfl, rfl, rfl, by decide +kernel, rfl, by decide +kernel, by decide +kernel⟩
structure Txt (K : PySem.W.Frag) (mg : Str → Option Value) (G : Str → Addr) : Prop where
  triv : True
  b_ValueError : mg "ValueError" = none
  b_bool : mg "bool" = none
  b_int : mg "int" = none
  b_isinstance : mg "isinstance" = none
  b_len : mg "len" = none
  b_list : mg "list" = none
  b_max : mg "max" = none
  b_range : mg "range" = none
  b_tuple : mg "tuple" = none
  b_zip : mg "zip" = none
  g_NoBox : mg "NoBox" = some (.ref (G "NoBox"))
  x_NoBox : PySem.W.excIn K (G "NoBox") [.type "ValueError", .type "Exception", .type "BaseException", .type "object"] "ValueError.__new__" = true
  k_NoBox : PySem.W.keepIn K (.ref (G "NoBox")) = true
  s_NoBox : PySem.W.subIn K (.ref (G "NoBox")) (.type "BaseException") = some true
  t_NoBox : PySem.W.typeIn K (.ref (G "NoBox")) = some (.type "type")
  g_NoDeed : mg "NoDeed" = some (.ref (G "NoDeed"))
  x_NoDeed : PySem.W.excIn K (G "NoDeed") [.type "ValueError", .type "Exception", .type "BaseException", .type "object"] "ValueError.__new__" = true
  k_NoDeed : PySem.W.keepIn K (.ref (G "NoDeed")) = true
  s_NoDeed : PySem.W.subIn K (.ref (G "NoDeed")) (.type "BaseException") = some true
  t_NoDeed : PySem.W.typeIn K (.ref (G "NoDeed")) = some (.type "type")
  g_NoPass : mg "NoPass" = some (.ref (G "NoPass"))
  x_NoPass : PySem.W.excIn K (G "NoPass") [.type "ValueError", .type "Exception", .type "BaseException", .type "object"] "ValueError.__new__" = true
  k_NoPass : PySem.W.keepIn K (.ref (G "NoPass")) = true
  s_NoPass : PySem.W.subIn K (.ref (G "NoPass")) (.type "BaseException") = some true
  t_NoPass : PySem.W.typeIn K (.ref (G "NoPass")) = some (.type "type")
  g_Nothing : mg "Nothing" = some (.ref (G "Nothing"))
  x_Nothing : PySem.W.excIn K (G "Nothing") [.type "ValueError", .type "Exception", .type "BaseException", .type "object"] "ValueError.__new__" = true
  k_Nothing : PySem.W.keepIn K (.ref (G "Nothing")) = true
  s_Nothing : PySem.W.subIn K (.ref (G "Nothing")) (.type "BaseException") = some true
  t_Nothing : PySem.W.typeIn K (.ref (G "Nothing")) = some (.type "type")
  g_PassbyError : mg "PassbyError" = some (.ref (G "PassbyError"))
  x_PassbyError : PySem.W.excIn K (G "PassbyError") [.type "ValueError", .type "Exception", .type "BaseException", .type "object"] "ValueError.__new__" = true
  k_PassbyError : PySem.W.keepIn K (.ref (G "PassbyError")) = true
  s_PassbyError : PySem.W.subIn K (.ref (G "PassbyError")) (.type "BaseException") = some true
  t_PassbyError : PySem.W.typeIn K (.ref (G "PassbyError")) = some (.type "type")
  xf_NoPass : XF K G "NoPass"
section
variable {P : Program} {w : World} {K : PySem.W.Frag} {mg : Str → Option Value} {base : Heap} {G : Str → Addr}
theorem ok_clash {f : Addr} {fd : FuncData} (F : Fun K "clash" "clash" s_clash f fd) (T : Txt K mg G)  : FnOk P w K mg base CX0 1 f fd ["one", "other"] (sp_clash K) := by
  refine F.ok sc_clash (fun vs H Q E h => len_clash h) (fun cdv A outer s H vs Q E hr h => ⟨t_clash K, ?_, r_clash h⟩)
  exact (pss_cons (ps_if (pt_cmpR (op_neA hr.units) (pe_op op_and (pe_ix ix_seq (pv 0) pe_int (fun _ _ => rfl)) (pe_op op_or (pe_ix ix_seq (pv 1) pe_int (fun _ _ => rfl)) (pe_ix ix_seq (pv 1) pe_int (fun _ _ => rfl)))) pe_int (nomark _))
  (pss_one (ps_ret pe_bl))
  pss_nil)
  (pss_one (ps_ret (pe_cmpR (op_neA hr.units) (pe_op op_and (pe_ix ix_seq (pv 1) pe_int (fun _ _ => rfl)) (pe_ix ix_seq (pv 0) pe_int (fun _ _ => rfl))) pe_int (nomark _)))))
theorem ok_passed {f : Addr} {fd : FuncData} (F : Fun K "passed" "passed" s_passed f fd) (T : Txt K mg G) (C_clash : Cal P w K mg base CX0 "clash" 1 ["one", "other"] [] (sp_clash K)) : FnOk P w K mg base (L2.CX P w) 2 f fd ["diary", "place"] (sp_passed K G) := by
  refine F.okX sc_passed (fun vs H Q E h => len_passed h) (fun cdv A outer s H vs Q E hr h => ⟨t_passed K G E, ?_, r_passed h⟩)
  exact (pss_cons (ps_if (PW.pt (pw_or (pt_cmpR op_lt (pv 1) pe_int (nomark _)) (pw_or1 (pt_cmpR op_ge (pe_op op_plus (pv 1) pe_int) (pe_callB call_len_seq (by rfl) T.b_len bt_len (pa_cons (pv 0) pa_nil)) (nomark _)))))
  (pss_one (ps_raise rfl (takes_of rfl rfl rfl rfl) (pmk_own PySem.F.excBase_ValueError T.x_NoPass T.g_NoPass T.k_NoPass (raises_own T.s_NoPass T.t_NoPass) (by rfl))))
  pss_nil)
  (pss_cons (ps_if (pt_val (pe_cal C_clash (hr.mono (by decide)) .nil (by rfl) pass0 (pa_cons (pe_ix ix_seq (pv 0) (pv 1) (fun _ _ => rfl)) (pa_cons (pe_ix ix_seq (pv 0) (pe_op op_plus (pv 1) pe_int) (fun _ _ => rfl)) pa_nil))))
  (pss_one (ps_raise rfl (takes_of rfl rfl rfl rfl) (pmk_own PySem.F.excBase_ValueError T.x_NoPass T.g_NoPass T.k_NoPass (raises_own T.s_NoPass T.t_NoPass) (by rfl))))
  pss_nil)
  (pss_one (ps_ret (pe_op op_plus (pe_op op_plus (pe_slice sl_any (pv 0) po_none (po_some (pv 1))) (pe_lst (pa_cons (pe_ix ix_seq (pv 0) (pe_op op_plus (pv 1) pe_int) (fun _ _ => rfl)) (pa_cons (pe_ix ix_seq (pv 0) (pv 1) (fun _ _ => rfl)) pa_nil)))) (pe_slice sl_any (pv 0) (po_some (pe_op op_plus (pv 1) pe_int)) po_none))))))
theorem ok_cell_at {f : Addr} {fd : FuncData} (F : Fun K "_law_cell_at" "_law_cell_at" s_cell_at f fd) (T : Txt K mg G)  : FnOk P w K mg base CX0 1 f fd ["_law_script", "_law_k"] (sp_cell_at K) := by
  refine F.ok sc_cell_at (fun vs H Q E h => len_cell_at h) (fun cdv A outer s H vs Q E hr h => ⟨t_cell_at K, ?_, r_cell_at h⟩)
  exact (pss_cons (ps_if (pt_cmpR op_lt (pv 1) (pe_callB call_len_seq (by rfl) T.b_len bt_len (pa_cons (pv 0) pa_nil)) (nomark _))
  (pss_one (ps_ret (pe_ix ix_seq (pv 0) (pv 1) (fun _ _ => rfl))))
  pss_nil)
  (pss_one (ps_ret pe_int)))
theorem ok_lclash {f : Addr} {fd : FuncData} (F : Fun K "_law_clash" "_law_clash" s_lclash f fd) (T : Txt K mg G)  : FnOk P w K mg base CX0 1 f fd ["_law_one", "_law_other"] (sp_clash K) := by
  refine F.ok sc_lclash (fun vs H Q E h => len_lclash h) (fun cdv A outer s H vs Q E hr h => ⟨t_lclash K, ?_, r_lclash h⟩)
  exact (pss_cons (ps_if (pt_cmpR (op_neA hr.units) (pe_op op_and (pe_ix ix_seq (pv 0) pe_int (fun _ _ => rfl)) (pe_op op_or (pe_ix ix_seq (pv 1) pe_int (fun _ _ => rfl)) (pe_ix ix_seq (pv 1) pe_int (fun _ _ => rfl)))) pe_int (nomark _))
  (pss_one (ps_ret pe_bl))
  pss_nil)
  (pss_one (ps_ret (pe_cmpR (op_neA hr.units) (pe_op op_and (pe_ix ix_seq (pv 1) pe_int (fun _ _ => rfl)) (pe_ix ix_seq (pv 0) pe_int (fun _ _ => rfl))) pe_int (nomark _)))))
theorem ok_bits {f : Addr} {fd : FuncData} (F : Fun K "_law_bits" "_law_bits" s_bits f fd) (T : Txt K mg G)  : FnOk P w K mg base CX0 1 f fd ["_law_which", "_law_boxes"] (sp_bits K) := by
  refine F.ok sc_bits (fun vs H Q E h => len_bits h) (fun cdv A outer s H vs Q E hr h => ⟨t_bits K, ?_, r_bits h⟩)
  exact (pss_cons (ps_set (i := 2) sc_bits.nd rfl (Or.inl rfl) pe_int)
  (pss_cons (ps_for PassesOwn.never rfl (pi_range1 (by rfl) T.b_range (pa_cons pe_int pa_nil)) (pg_name (i := 3) sc_bits.nd rfl (Or.inl rfl))
  (pss_one (ps_if (pt_cmpR (op_eqA hr.units) (pe_op op_mod (pe_op op_fdivW (pv 0) (pe_ix ix_seq (pe_lst (pa_cons pe_int (pa_cons pe_int (pa_cons pe_int pa_nil)))) (pv 3) (fun _ _ => rfl))) pe_int) pe_int (nomark _))
  (pss_one (ps_set (i := 2) sc_bits.nd rfl (Or.inl rfl) (pe_op op_or (pv 2) (pe_op op_shl pe_int (pe_ix ix_seq (pv 1) (pv 3) (fun _ _ => rfl))))))
  pss_nil)))
  (pss_one (ps_ret (pv 2)))))
theorem ok_far_bits {f : Addr} {fd : FuncData} (F : Fun K "_law_far_bits" "_law_far_bits" s_far_bits f fd) (T : Txt K mg G)  : FnOk P w K mg base CX0 1 f fd ["_law_cell"] (sp_far_bits K) := by
  refine F.ok sc_far_bits (fun vs H Q E h => len_far_bits h) (fun cdv A outer s H vs Q E hr h => ⟨t_far_bits K, ?_, r_far_bits h⟩)
  exact (pss_cons (ps_if (pt_cmpR (op_eqA hr.units) (pe_op op_mod (pv 0) pe_int) pe_int (nomark _))
  (pss_one (ps_ret pe_int))
  pss_nil)
  (pss_cons (ps_if (pt_cmpR (op_eqA hr.units) (pe_op op_mod (pv 0) pe_int) pe_int (nomark _))
  (pss_one (ps_ret (pe_op op_shl pe_int (pe_op op_mod (pe_op op_fdivW (pv 0) pe_int) pe_int))))
  pss_nil)
  (pss_one (ps_ret (pe_op op_mod (pe_op op_fdivW (pv 0) pe_int) (pe_op op_pow pe_int pe_int))))))
theorem ok_names {f : Addr} {fd : FuncData} (F : Fun K "_law_names" "_law_names" s_names f fd) (T : Txt K mg G)  : FnOk P w K mg base CX0 1 f fd ["_law_cell", "_law_other"] (sp_names K) := by
  refine F.ok sc_names (fun vs H Q E h => len_names h) (fun cdv A outer s H vs Q E hr h => ⟨t_names K, ?_, r_names h⟩)
  exact (pss_cons (ps_set (i := 2) sc_names.nd rfl (Or.inl rfl) (pe_op op_mod (pv 0) (pe_op op_pow pe_int pe_int)))
  (pss_cons (ps_set (i := 3) sc_names.nd rfl (Or.inl rfl) (pe_ix ix_seq (pe_lst (pa_cons pe_int (pa_cons (pe_op op_pow pe_int pe_int) (pa_cons (pe_op op_pow pe_int pe_int) (pa_cons (pe_op op_pow pe_int pe_int) pa_nil))))) (pe_op op_mod (pv 1) pe_int) (fun _ _ => rfl)))
  (pss_one (ps_ret (pe_lst (pa_cons (pv 2) (pa_cons (pe_op op_mod (pe_op op_plus (pv 2) (pv 3)) (pe_op op_pow pe_int pe_int)) (pa_cons (pe_op op_mod (pe_op op_plus (pv 2) (pe_op op_mul pe_int (pv 3))) (pe_op op_pow pe_int pe_int)) pa_nil))))))))
theorem ok_near {f : Addr} {fd : FuncData} (F : Fun K "_law_near" "_law_near" s_near f fd) (T : Txt K mg G) (C_bits : Cal P w K mg base CX0 "_law_bits" 1 ["_law_which", "_law_boxes"] [] (sp_bits K)) : FnOk P w K mg base CX0 2 f fd ["_law_number", "_law_names_here", "_law_boxes"] (sp_near K) := by
  refine F.ok sc_near (fun vs H Q E h => len_near h) (fun cdv A outer s H vs Q E hr h => ⟨t_near K, ?_, r_near h⟩)
  exact (pss_cons (ps_set (i := 3) sc_near.nd rfl (Or.inl rfl) (pe_ix ix_seq (pe_lst (pa_cons pe_int (pa_cons pe_int (pa_cons pe_int (pa_cons pe_int (pa_cons pe_int (pa_cons pe_int (pa_cons pe_int (pa_cons pe_int (pa_cons pe_int (pa_cons pe_int (pa_cons pe_int (pa_cons pe_int pa_nil))))))))))))) (pe_op op_mod (pe_op op_fdivW (pv 0) pe_int) pe_int) (fun _ _ => rfl)))
  (pss_one (ps_ret (pe_tup (pa_cons (pe_ix ix_seq (pv 1) (pe_op op_mod (pv 0) pe_int) (fun _ _ => rfl)) (pa_cons (pe_cal C_bits (hr.mono (by decide)) .nil (by rfl) pass0 (pa_cons (pe_op op_mod (pe_op op_fdivW (pv 0) pe_int) pe_int) (pa_cons (pv 2) pa_nil))) (pa_cons (pe_cal C_bits (hr.mono (by decide)) .nil (by rfl) pass0 (pa_cons (pv 3) (pa_cons (pv 2) pa_nil))) pa_nil)))))))
theorem ok_diary {f : Addr} {fd : FuncData} (F : Fun K "_law_diary" "_law_diary" s_diary f fd) (T : Txt K mg G) (C_cell_at : Cal P w K mg base CX0 "_law_cell_at" 1 ["_law_script", "_law_k"] [] (sp_cell_at K)) (C_far_bits : Cal P w K mg base CX0 "_law_far_bits" 1 ["_law_cell"] [] (sp_far_bits K)) (C_names : Cal P w K mg base CX0 "_law_names" 1 ["_law_cell", "_law_other"] [] (sp_names K)) (C_near : Cal P w K mg base CX0 "_law_near" 2 ["_law_number", "_law_names_here", "_law_boxes"] [] (sp_near K)) : FnOk P w K mg base CX0 3 f fd ["_law_script", "_law_most"] (sp_diary K) := by
  refine F.ok sc_diary (fun vs H Q E h => len_diary h) (fun cdv A outer s H vs Q E hr h => ⟨t_diary K, ?_, r_diary h⟩)
  exact (pss_cons (ps_set (i := 2) sc_diary.nd rfl (Or.inl rfl) (pe_slice sl_any (pv 0) (po_some pe_int) (po_some (pv 1))))
  (pss_cons (ps_if (pt_cmpR (op_eqA hr.units) (pe_op op_mod (pe_cal C_cell_at (hr.mono (by decide)) .nil (by rfl) pass0 (pa_cons (pv 0) (pa_cons pe_int pa_nil))) pe_int) pe_int (nomark _))
  (pss_cons (ps_set (i := 3) sc_diary.nd rfl (Or.inl rfl) (pe_lst pa_nil))
  (pss_cons (ps_for PassesOwn.never rfl (pi_range1 (by rfl) T.b_range (pa_cons (pe_op op_fdivW (pe_callB call_len_seq (by rfl) T.b_len bt_len (pa_cons (pv 2) pa_nil)) pe_int) pa_nil)) (pg_name (i := 4) sc_diary.nd rfl (Or.inl rfl))
  (pss_cons (ps_set (i := 5) sc_diary.nd rfl (Or.inl rfl) (pe_cal C_far_bits (hr.mono (by decide)) .nil (by rfl) pass0 (pa_cons (pe_ix ix_seq (pv 2) (pe_op op_plus (pe_op op_mul pe_int (pv 4)) pe_int) (fun _ _ => rfl)) pa_nil)))
  (pss_one (ps_expr (pe_bm PySem.F.plainAttrs_list PySem.F.slot_list_append PySem.F.type_list_append mt_append (pv 3) (pa_cons (pe_tup (pa_cons (pe_op op_mod (pe_ix ix_seq (pv 2) (pe_op op_mul pe_int (pv 4)) (fun _ _ => rfl)) (pe_op op_pow pe_int pe_int)) (pa_cons (pv 5) (pa_cons (pe_cal C_far_bits (hr.mono (by decide)) .nil (by rfl) pass0 (pa_cons (pe_ix ix_seq (pv 2) (pe_op op_plus (pe_op op_mul pe_int (pv 4)) pe_int) (fun _ _ => rfl)) pa_nil)) pa_nil)))) pa_nil))))))
  (pss_one (ps_ret (pv 3)))))
  pss_nil)
  (pss_cons (ps_set (i := 6) sc_diary.nd rfl (Or.inr rfl) (pe_cal C_names (hr.mono (by decide)) .nil (by rfl) pass0 (pa_cons (pe_cal C_cell_at (hr.mono (by decide)) .nil (by rfl) pass0 (pa_cons (pv 0) (pa_cons pe_int pa_nil))) (pa_cons (pe_cal C_cell_at (hr.mono (by decide)) .nil (by rfl) pass0 (pa_cons (pv 0) (pa_cons pe_int pa_nil))) pa_nil))))
  (pss_cons (ps_set (i := 7) sc_diary.nd rfl (Or.inr rfl) (pe_lc (own := [("_law_k", 4)]) (by rfl) sc_diary.nd (pi_range1 (by rfl) T.b_range (pa_cons pe_int pa_nil)) (blkOk_by (N := n_diary) (sc := defScope s_diary) (by decide +kernel)) (fun _ _ _ _ _ => (pg_name (i := 4) sc_diary.nd rfl (Or.inl rfl))) (fun _ _ _ _ _ => pts_nil) (fun _ _ _ _ _ => (pe_op op_mod (pe_cal C_cell_at (hr.mono (by decide)) .nil (by rfl) pass0 (pa_cons (pv 0) (pa_cons (pe_op op_plus pe_int (pv 4)) pa_nil))) pe_int))))
  (pss_one (ps_ret (pe_lc (own := [("_law_cell", 8)]) (by rfl) sc_diary.nd (pi_list (pv 2)) (blkOk_by (N := n_diary) (sc := defScope s_diary) (by decide +kernel)) (fun _ _ _ _ _ => (pg_name (i := 8) sc_diary.nd rfl (Or.inl rfl))) (fun _ _ _ _ _ => pts_nil) (fun _ _ _ _ _ => (pe_cal C_near (hr.mono (by decide)) .nil (by rfl) pass0 (pa_cons (pe_op op_mod (pe_op op_mul (pv 8) pe_int) pe_int) (pa_cons (pv 6) (pa_cons (pv 7) pa_nil))))))))))))
theorem ok_same {f : Addr} {fd : FuncData} (F : Fun K "_law_same" "_law_same" s_same f fd) (T : Txt K mg G) (hm : mg "_law_same" = some (.ref f)) (hb : Binds K fd ["_law_found", "_law_due"] []) : ∀ n : Nat, FnOk P w K mg base CX0 n f fd ["_law_found", "_law_due"] (sp_same n K)
  | 0 => ⟨fun vs H Q E h => (none_same h).elim, fun _ _ _ _ _ _ _ _ _ _ _ _ _ h => (none_same h).elim⟩
  | n + 1 => by
    have C_self : Cal P w K mg base CX0 "_law_same" n ["_law_found", "_law_due"] [] (sp_same n K) := ⟨_, _, ok_same F T hm hb n, hm, F.kp, hb⟩
    refine F.ok sc_same (fun vs H Q E h => len_same h) (fun cdv A outer s H vs Q E hr h => ⟨t_same n K, ?_, r_same h⟩)
    exact (pss_cons (ps_if (pt_val (pe_callB call_isi (by rfl) T.b_isinstance bt_isinstance (pa_cons (pv 1) (pa_cons (pe_bltn (v := .ty "int") (by rfl) T.b_int bt_int (by rfl)) pa_nil))))
  (pss_one (ps_ret (pe_and (pe_callB call_isi (by rfl) T.b_isinstance bt_isinstance (pa_cons (pv 0) (pa_cons (pe_bltn (v := .ty "int") (by rfl) T.b_int bt_int (by rfl)) pa_nil))) (pe_and (pe_not (pe_callB call_isi (by rfl) T.b_isinstance bt_isinstance (pa_cons (pv 0) (pa_cons (pe_bltn (v := .ty "bool") (by rfl) T.b_bool bt_bool (by rfl)) pa_nil)))) (pe_one (pe_cmpR (op_eqA hr.units) (pv 0) (pv 1) (nomark _)))))))
  pss_nil)
  (pss_cutR (ps_if (pt_val (pe_callB call_isi (by rfl) T.b_isinstance bt_isinstance (pa_cons (pv 1) (pa_cons (pe_bltn (v := .ty "tuple") (by rfl) T.b_tuple bt_tuple (by rfl)) pa_nil))))
  (pss_one (ps_if (pt_not (pt_val (pe_callB call_isi (by rfl) T.b_isinstance bt_isinstance (pa_cons (pv 0) (pa_cons (pe_bltn (v := .ty "tuple") (by rfl) T.b_tuple bt_tuple (by rfl)) pa_nil)))))
  (pss_one (ps_ret pe_bl))
  pss_nil))
  (pss_one (ps_if (pt_not (pt_val (pe_callB call_isi (by rfl) T.b_isinstance bt_isinstance (pa_cons (pv 0) (pa_cons (pe_bltn (v := .ty "list") (by rfl) T.b_list bt_list (by rfl)) pa_nil)))))
  (pss_one (ps_ret pe_bl))
  pss_nil)))
  (pss_cons (ps_if (pt_cmpR (op_neA hr.units) (pe_callB call_len_seq (by rfl) T.b_len bt_len (pa_cons (pv 0) pa_nil)) (pe_callB call_len_seq (by rfl) T.b_len bt_len (pa_cons (pv 1) pa_nil)) (nomark _))
  (pss_one (ps_ret pe_bl))
  pss_nil)
  (pss_cons (ps_for PassesOwn.never rfl (RZ.pi_zipA (by rfl) T.b_zip (pa_cons (pv 0) (pa_cons (pv 1) pa_nil))) (pg_tup rfl (pgs_cons (pg_name (i := 2) sc_same.nd rfl (Or.inl rfl)) (pgs_cons (pg_name (i := 3) sc_same.nd rfl (Or.inl rfl)) pgs_nil)))
  (pss_one (ps_if (pt_not (pt_val (pe_cal C_self (hr.mono (Nat.le_refl _)) .nil (by rfl) pass0 (pa_cons (pv 2) (pa_cons (pv 3) pa_nil)))))
  (pss_one (ps_ret pe_bl))
  pss_nil)))
  (pss_one (ps_ret pe_bl))))))
theorem ok_place {f : Addr} {fd : FuncData} (F : Fun K "_law_place" "_law_place" s_place f fd) (T : Txt K mg G)  : FnOk P w K mg base CX0 1 f fd ["_law_cell", "_law_size"] (sp_place K) := by
  refine F.ok sc_place (fun vs H Q E h => len_place h) (fun cdv A outer s H vs Q E hr h => ⟨t_place K, ?_, r_place h⟩)
  exact (pss_cons (ps_set (i := 2) sc_place.nd rfl (Or.inl rfl) (pe_op op_mod (pe_op op_fdivW (pv 0) pe_int) (pe_op op_pow pe_int pe_int)))
  (pss_cons (ps_if (pt_cmpR (op_eqA hr.units) (pe_op op_mod (pv 0) pe_int) pe_int (nomark _))
  (pss_one (ps_ret (pe_ix ix_seq (pe_lst (pa_cons (pe_un un_neg pe_int) (pa_cons (pe_op op_sub (pv 1) pe_int) (pa_cons (pv 1) (pa_cons (pe_op op_sub (pe_un un_neg pe_int) (pv 2)) (pa_cons (pe_op op_plus (pv 1) (pv 2)) (pa_cons (pe_op op_sub pe_int (pv 1)) pa_nil))))))) (pe_op op_mod (pe_op op_fdivW (pv 0) pe_int) pe_int) (fun _ _ => rfl))))
  pss_nil)
  (pss_one (ps_ret (pe_op op_mod (pe_op op_fdivW (pv 0) pe_int) (pe_callB (call_max2 rfl) (by rfl) T.b_max bt_max (pa_cons pe_int (pa_cons (pe_op op_sub (pv 1) pe_int) pa_nil))))))))
theorem ok_refused_k03 {f : Addr} {fd : FuncData} (F : Fun K "_law_refused" "_law_refused" s_refused_k03 f fd) (T : Txt K mg G) (C_passed : Cal P w K mg base (L2.CX P w) "passed" 2 ["diary", "place"] [] (sp_passed K G)) : FnOk P w K mg base CX0 3 f fd ["_law_diary_here", "_law_place_here"] (sp_refused_k03 K) := by
  refine F.ok sc_refused_k03 (fun vs H Q E h => len_refused_k03 h) (fun cdv A outer s H vs Q E hr h => ⟨t_refused_k03 K G, ?_, r_refused_k03 T.xf_NoPass h⟩)
  exact (pss_cons (ps_set (i := 2) sc_refused_k03.nd rfl (Or.inl rfl) pe_non)
  (pss_cons (by exact (ps_try_keep (i := 3) (tb := fun W => (tDrop (tCallS (sp_passed K G) (WE W) (tCons (tVar 0) (tCons (tVar 1) tNil))))) (ts := (fun a cls d => (tAsg (tVar 3) (gName 2)))) rfl rfl sc_refused_k03.nd rfl rfl ⟨rfl, by decide, .inl T.g_PassbyError⟩ rfl (fun W pn xe tk _ => (pss_one (ps_expr (by exact (pe_calS C_passed (hr.mono (by decide)) (by rfl) (fun σ => passAt tk σ) (by exact (pa_cons (pv 0) (pa_cons (pv 1) pa_nil)))))))) (fun a oe cls d pn hz hf => (pss_one (ps_set (i := 2) sc_refused_k03.nd rfl (Or.inl rfl) (pv 3))))))
  (pss_cons (ps_if (PW.pt (pw_or (pt_not (pt_val (pe_callB call_isV (by rfl) T.b_isinstance bt_isinstance (pa_cons (pv 2) (pa_cons (pe_glob (by rfl) T.g_NoPass (by rfl)) pa_nil))))) (pw_or1 (pt_not (pt_val (pe_callB call_isV (by rfl) T.b_isinstance bt_isinstance (pa_cons (pv 2) (pa_cons (pe_bltn (v := .ty "ValueError") (by rfl) T.b_ValueError bt_ValueError (by rfl)) pa_nil))))))))
  (pss_one (ps_ret pe_bl))
  pss_nil)
  (pss_cons (ps_if (PW.pt (pw_or (pt_val (pe_callB call_isV (by rfl) T.b_isinstance bt_isinstance (pa_cons (pv 2) (pa_cons (pe_glob (by rfl) T.g_NoDeed (by rfl)) pa_nil)))) (pw_or1 (pt_val (pe_callB call_isV (by rfl) T.b_isinstance bt_isinstance (pa_cons (pv 2) (pa_cons (pe_glob (by rfl) T.g_Nothing (by rfl)) pa_nil)))))))
  (pss_one (ps_ret pe_bl))
  pss_nil)
  (pss_one (ps_ret (pe_not (pe_callB call_isV (by rfl) T.b_isinstance bt_isinstance (pa_cons (pv 2) (pa_cons (pe_glob (by rfl) T.g_NoBox (by rfl)) pa_nil))))))))))
theorem ok_lpassed {f : Addr} {fd : FuncData} (F : Fun K "_law_passed" "_law_passed" s_lpassed f fd) (T : Txt K mg G)  : FnOk P w K mg base CX0 1 f fd ["_law_diary_here", "_law_place_here"] (sp_lpassed K) := by
  refine F.ok sc_lpassed (fun vs H Q E h => len_lpassed h) (fun cdv A outer s H vs Q E hr h => ⟨t_lpassed K, ?_, r_lpassed h⟩)
  exact (pss_one (ps_ret (pe_op op_plus (pe_op op_plus (pe_slice sl_any (pv 0) po_none (po_some (pv 1))) (pe_lst (pa_cons (pe_ix ix_seq (pv 0) (pe_op op_plus (pv 1) pe_int) (fun _ _ => rfl)) (pa_cons (pe_ix ix_seq (pv 0) (pv 1) (fun _ _ => rfl)) pa_nil)))) (pe_slice sl_any (pv 0) (po_some (pe_op op_plus (pv 1) pe_int)) po_none))))
theorem ok_law_k03 {f : Addr} {fd : FuncData} (F : Fun K "law" "law" s_law_k03 f fd) (T : Txt K mg G) (C_diary : Cal P w K mg base CX0 "_law_diary" 3 ["_law_script", "_law_most"] [] (sp_diary K)) (C_place : Cal P w K mg base CX0 "_law_place" 1 ["_law_cell", "_law_size"] [] (sp_place K)) (C_lclash : Cal P w K mg base CX0 "_law_clash" 1 ["_law_one", "_law_other"] [] (sp_clash K)) (C_passed : Cal P w K mg base (L2.CX P w) "passed" 2 ["diary", "place"] [] (sp_passed K G)) (C_lpassed : Cal P w K mg base CX0 "_law_passed" 1 ["_law_diary_here", "_law_place_here"] [] (sp_lpassed K)) (C_same : Cal P w K mg base CX0 "_law_same" 4 ["_law_found", "_law_due"] [] (sp_same 4 K)) (C_refused_k03 : Cal P w K mg base CX0 "_law_refused" 3 ["_law_diary_here", "_law_place_here"] [] (sp_refused_k03 K)) : FnOk P w K mg base CX0 5 f fd ["_law_script"] (sp_law K) := by
  refine F.ok sc_law_k03 (fun vs H Q E h => len_law_k03 h) (fun cdv A outer s H vs Q E hr h => ⟨t_law_k03 K G, ?_, r_law_k03 h⟩)
  exact (pss_cons (ps_set (i := 1) sc_law_k03.nd rfl (Or.inl rfl) (pe_cal C_diary (hr.mono (by decide)) .nil (by rfl) pass0 (pa_cons (pv 0) (pa_cons pe_int pa_nil))))
  (pss_cons (ps_set (i := 2) sc_law_k03.nd rfl (Or.inl rfl) (pe_callTy call_list_of (by rfl) T.b_list bt_list (pa_cons (pv 1) pa_nil)))
  (pss_cons (ps_set (i := 3) sc_law_k03.nd rfl (Or.inl rfl) (pe_lst pa_nil))
  (pss_cons (ps_for PassesOwn.never rfl (pi_list (pe_slice sl_any (pv 0) (po_some pe_int) (po_some pe_int))) (pg_name (i := 4) sc_law_k03.nd rfl (Or.inl rfl))
  (pss_cons (ps_set (i := 5) sc_law_k03.nd rfl (Or.inl rfl) (pe_cal C_place (hr.mono (by decide)) .nil (by rfl) pass0 (pa_cons (pv 4) (pa_cons (pe_callB call_len_seq (by rfl) T.b_len bt_len (pa_cons (pv 1) pa_nil)) pa_nil))))
  (pss_cons (ps_set (i := 6) sc_law_k03.nd rfl (Or.inl rfl) (pe_and (pe_cmpR op_ge (pv 5) pe_int (nomark _)) (pe_one (pe_cmpR op_lt (pe_op op_plus (pv 5) pe_int) (pe_callB call_len_seq (by rfl) T.b_len bt_len (pa_cons (pv 1) pa_nil)) (nomark _)))))
  (pss_one (ps_if (PW.pt (pw_and (pt_val (pv 6)) (pw_and1 (pt_not (pt_val (pe_cal C_lclash (hr.mono (by decide)) .nil (by rfl) pass0 (pa_cons (pe_ix ix_seq (pv 1) (pv 5) (fun _ _ => rfl)) (pa_cons (pe_ix ix_seq (pv 1) (pe_op op_plus (pv 5) pe_int) (fun _ _ => rfl)) pa_nil))))))))
  (pss_cons (ps_set (i := 7) sc_law_k03.nd rfl (Or.inl rfl) (pe_cal C_passed (hr.mono (by decide)) .nil (by rfl) passL (pa_cons (pv 2) (pa_cons (pv 5) pa_nil))))
  (pss_cons (ps_if (pt_cmpR (op_neA hr.units) (pv 2) (pv 1) (nomark _))
  (pss_one (ps_ret pe_bl))
  pss_nil)
  (pss_cons (ps_expr (pe_bm PySem.F.plainAttrs_list PySem.F.slot_list_append PySem.F.type_list_append mt_append (pv 3) (pa_cons (pe_tup (pa_cons (pv 2) (pa_cons (pv 1) pa_nil))) pa_nil)))
  (pss_cons (ps_set (i := 1) sc_law_k03.nd rfl (Or.inl rfl) (pe_cal C_lpassed (hr.mono (by decide)) .nil (by rfl) pass0 (pa_cons (pv 1) (pa_cons (pv 5) pa_nil))))
  (pss_cons (ps_set (i := 8) sc_law_k03.nd rfl (Or.inl rfl) (pe_slice sl_any (pv 1) (po_some (pv 5)) (po_some (pe_op op_plus (pv 5) pe_int))))
  (pss_cons (ps_if (PW.pt (pw_or (pt_cmpR (op_neA hr.units) (pv 7) (pv 1) (nomark _)) (pw_or1 (pt_not (pt_val (pe_cal C_same (hr.mono (by decide)) .nil (by rfl) pass0 (pa_cons (pe_slice sl_any (pv 7) (po_some (pv 5)) (po_some (pe_op op_plus (pv 5) pe_int))) (pa_cons (pv 8) pa_nil))))))))
  (pss_one (ps_ret pe_bl))
  pss_nil)
  (pss_one (ps_set (i := 2) sc_law_k03.nd rfl (Or.inl rfl) (pv 7)))))))))
  (pss_one (ps_if (PW.pt (pw_or (pt_not (pt_val (pe_cal C_refused_k03 (hr.mono (by decide)) .nil (by rfl) pass0 (pa_cons (pv 2) (pa_cons (pv 5) pa_nil))))) (pw_or1 (pt_cmpR (op_neA hr.units) (pv 2) (pv 1) (nomark _)))))
  (pss_one (ps_ret pe_bl))
  pss_nil)))))))
  (pss_cons (ps_for PassesOwn.never rfl (pi_list (pv 3)) (pg_tup rfl (pgs_cons (pg_name (i := 9) sc_law_k03.nd rfl (Or.inl rfl)) (pgs_cons (pg_name (i := 10) sc_law_k03.nd rfl (Or.inl rfl)) pgs_nil)))
  (pss_one (ps_if (pt_cmpR (op_neA hr.units) (pv 9) (pv 10) (nomark _))
  (pss_one (ps_ret pe_bl))
  pss_nil)))
  (pss_one (ps_ret (pe_cal C_same (hr.mono (by decide)) .nil (by rfl) pass0 (pa_cons (pv 2) (pa_cons (pv 1) pa_nil))))))))))
end
theorem all_mk {l : PySem.W.OpenLaw} {w : World} {K : PySem.W.Frag} {h : Heap} {mg : Str → Option Value} {fa : Addr} (X : K.In h) (Gx : h.Ns mainGlobals mg) (hfa : mg "law" = some (.ref fa))
    {f_clash f_passed f_cell_at f_lclash f_bits f_far_bits f_names f_near f_diary f_same f_place f_refused_k03 f_lpassed f_law_k03 : Addr}
    {C_NoBox C_NoDeed C_NoPass C_Nothing C_PassbyError : Addr}
    {od0 an0 : Option Addr} {sl0 : Array (Option Value)} {oc0 kV0 dc0 pm0 cd0 ct0 : Value}
    {od1 an1 : Option Addr} {sl1 : Array (Option Value)} {oc1 kV1 dc1 pm1 cd1 ct1 : Value}
    {od2 an2 : Option Addr} {sl2 : Array (Option Value)} {oc2 kV2 dc2 pm2 cd2 ct2 : Value}
    {od3 an3 : Option Addr} {sl3 : Array (Option Value)} {oc3 kV3 dc3 pm3 cd3 ct3 : Value}
    {od4 an4 : Option Addr} {sl4 : Array (Option Value)} {oc4 kV4 dc4 pm4 cd4 ct4 : Value}
    {od5 an5 : Option Addr} {sl5 : Array (Option Value)} {oc5 kV5 dc5 pm5 cd5 ct5 : Value}
    {od6 an6 : Option Addr} {sl6 : Array (Option Value)} {oc6 kV6 dc6 pm6 cd6 ct6 : Value}
    {od7 an7 : Option Addr} {sl7 : Array (Option Value)} {oc7 kV7 dc7 pm7 cd7 ct7 : Value}
    {od8 an8 : Option Addr} {sl8 : Array (Option Value)} {oc8 kV8 dc8 pm8 cd8 ct8 : Value}
    {od9 an9 : Option Addr} {sl9 : Array (Option Value)} {oc9 kV9 dc9 pm9 cd9 ct9 : Value}
    {od10 an10 : Option Addr} {sl10 : Array (Option Value)} {oc10 kV10 dc10 pm10 cd10 ct10 : Value}
    {od11 an11 : Option Addr} {sl11 : Array (Option Value)} {oc11 kV11 dc11 pm11 cd11 ct11 : Value}
    {od12 an12 : Option Addr} {sl12 : Array (Option Value)} {oc12 kV12 dc12 pm12 cd12 ct12 : Value}
    {od13 an13 : Option Addr} {sl13 : Array (Option Value)} {oc13 kV13 dc13 pm13 cd13 ct13 : Value}
    (qNoBox_g : PySem.W.nsIn K mainGlobals "NoBox" = some (some (.ref C_NoBox)))
    (qNoBox_x : PySem.W.excIn K C_NoBox [.type "ValueError", .type "Exception", .type "BaseException", .type "object"] "ValueError.__new__" = true)
    (qNoBox_k : PySem.W.keepIn K (.ref C_NoBox) = true)
    (qNoBox_s : PySem.W.subIn K (.ref C_NoBox) (.type "BaseException") = some true)
    (qNoBox_t : PySem.W.typeIn K (.ref C_NoBox) = some (.type "type"))
    (qNoDeed_g : PySem.W.nsIn K mainGlobals "NoDeed" = some (some (.ref C_NoDeed)))
    (qNoDeed_x : PySem.W.excIn K C_NoDeed [.type "ValueError", .type "Exception", .type "BaseException", .type "object"] "ValueError.__new__" = true)
    (qNoDeed_k : PySem.W.keepIn K (.ref C_NoDeed) = true)
    (qNoDeed_s : PySem.W.subIn K (.ref C_NoDeed) (.type "BaseException") = some true)
    (qNoDeed_t : PySem.W.typeIn K (.ref C_NoDeed) = some (.type "type"))
    (qNoPass_g : PySem.W.nsIn K mainGlobals "NoPass" = some (some (.ref C_NoPass)))
    (qNoPass_x : PySem.W.excIn K C_NoPass [.type "ValueError", .type "Exception", .type "BaseException", .type "object"] "ValueError.__new__" = true)
    (qNoPass_k : PySem.W.keepIn K (.ref C_NoPass) = true)
    (qNoPass_s : PySem.W.subIn K (.ref C_NoPass) (.type "BaseException") = some true)
    (qNoPass_t : PySem.W.typeIn K (.ref C_NoPass) = some (.type "type"))
    (qNothing_g : PySem.W.nsIn K mainGlobals "Nothing" = some (some (.ref C_Nothing)))
    (qNothing_x : PySem.W.excIn K C_Nothing [.type "ValueError", .type "Exception", .type "BaseException", .type "object"] "ValueError.__new__" = true)
    (qNothing_k : PySem.W.keepIn K (.ref C_Nothing) = true)
    (qNothing_s : PySem.W.subIn K (.ref C_Nothing) (.type "BaseException") = some true)
    (qNothing_t : PySem.W.typeIn K (.ref C_Nothing) = some (.type "type"))
    (qPassbyError_g : PySem.W.nsIn K mainGlobals "PassbyError" = some (some (.ref C_PassbyError)))
    (qPassbyError_x : PySem.W.excIn K C_PassbyError [.type "ValueError", .type "Exception", .type "BaseException", .type "object"] "ValueError.__new__" = true)
    (qPassbyError_k : PySem.W.keepIn K (.ref C_PassbyError) = true)
    (qPassbyError_s : PySem.W.subIn K (.ref C_PassbyError) (.type "BaseException") = some true)
    (qPassbyError_t : PySem.W.typeIn K (.ref C_PassbyError) = some (.type "type"))
    (rPassbyError_d : PySem.W.hasDictIn K C_PassbyError = true)
    (rNoDeed_d : PySem.W.hasDictIn K C_NoDeed = true)
    (rNoPass_d : PySem.W.hasDictIn K C_NoPass = true)
    (rNothing_d : PySem.W.hasDictIn K C_Nothing = true)
    (rNoBox_d : PySem.W.hasDictIn K C_NoBox = true)
    (r_sp : PySem.W.specialIn K (.builtin "object.__class__") "__get__" = some (some (.builtin "getset_descriptor.__get__")))
    (r_tk : PySem.W.takesIn K (.builtin "object.__class__") = some true)
    (rNoPass_a : PySem.W.findIn K (.ref C_NoPass) "__getattribute__" = some (some (.builtin "BaseException.__getattribute__")))
    (rNoPass_b : PySem.W.findIn K (.ref C_NoPass) "__getattr__" = some none)
    (rNoPass_c : PySem.W.findIn K (.ref C_NoPass) "__class__" = some (some (.builtin "object.__class__")))
    (rNoPass_m : PySem.W.mroIn K C_NoPass (.type "object") = some true)
    (rNoPass_v : PySem.W.subIn K (.ref C_NoPass) (.type "ValueError") = some true)
    (rNoPass_u_PassbyError : PySem.W.subIn K (.ref C_NoPass) (.ref C_PassbyError) = some true)
    (rNoPass_u_NoDeed : PySem.W.subIn K (.ref C_NoPass) (.ref C_NoDeed) = some false)
    (rNoPass_u_NoPass : PySem.W.subIn K (.ref C_NoPass) (.ref C_NoPass) = some true)
    (rNoPass_u_Nothing : PySem.W.subIn K (.ref C_NoPass) (.ref C_Nothing) = some false)
    (rNoPass_u_NoBox : PySem.W.subIn K (.ref C_NoPass) (.ref C_NoBox) = some false)
    (a0 : PySem.W.nsIn K mainGlobals "clash" = some (some (.ref f_clash)))
    (l0 : K.lookup f_clash = some ⟨oc0, od0, .func (PySem.W.fnOf "clash" "clash" (defArgs s_clash) (defBody s_clash) (defScope s_clash) .none kV0 dc0 pm0 an0 cd0 ct0), sl0⟩)
    (c0 : PySem.W.codeIn K cd0 "clash" = true)
    (k0 : PySem.W.keepIn K (.ref f_clash) = true)
    (a1 : PySem.W.nsIn K mainGlobals "passed" = some (some (.ref f_passed)))
    (l1 : K.lookup f_passed = some ⟨oc1, od1, .func (PySem.W.fnOf "passed" "passed" (defArgs s_passed) (defBody s_passed) (defScope s_passed) .none kV1 dc1 pm1 an1 cd1 ct1), sl1⟩)
    (c1 : PySem.W.codeIn K cd1 "passed" = true)
    (k1 : PySem.W.keepIn K (.ref f_passed) = true)
    (a2 : PySem.W.nsIn K mainGlobals "_law_cell_at" = some (some (.ref f_cell_at)))
    (l2 : K.lookup f_cell_at = some ⟨oc2, od2, .func (PySem.W.fnOf "_law_cell_at" "_law_cell_at" (defArgs s_cell_at) (defBody s_cell_at) (defScope s_cell_at) .none kV2 dc2 pm2 an2 cd2 ct2), sl2⟩)
    (c2 : PySem.W.codeIn K cd2 "_law_cell_at" = true)
    (k2 : PySem.W.keepIn K (.ref f_cell_at) = true)
    (a3 : PySem.W.nsIn K mainGlobals "_law_clash" = some (some (.ref f_lclash)))
    (l3 : K.lookup f_lclash = some ⟨oc3, od3, .func (PySem.W.fnOf "_law_clash" "_law_clash" (defArgs s_lclash) (defBody s_lclash) (defScope s_lclash) .none kV3 dc3 pm3 an3 cd3 ct3), sl3⟩)
    (c3 : PySem.W.codeIn K cd3 "_law_clash" = true)
    (k3 : PySem.W.keepIn K (.ref f_lclash) = true)
    (a4 : PySem.W.nsIn K mainGlobals "_law_bits" = some (some (.ref f_bits)))
    (l4 : K.lookup f_bits = some ⟨oc4, od4, .func (PySem.W.fnOf "_law_bits" "_law_bits" (defArgs s_bits) (defBody s_bits) (defScope s_bits) .none kV4 dc4 pm4 an4 cd4 ct4), sl4⟩)
    (c4 : PySem.W.codeIn K cd4 "_law_bits" = true)
    (k4 : PySem.W.keepIn K (.ref f_bits) = true)
    (a5 : PySem.W.nsIn K mainGlobals "_law_far_bits" = some (some (.ref f_far_bits)))
    (l5 : K.lookup f_far_bits = some ⟨oc5, od5, .func (PySem.W.fnOf "_law_far_bits" "_law_far_bits" (defArgs s_far_bits) (defBody s_far_bits) (defScope s_far_bits) .none kV5 dc5 pm5 an5 cd5 ct5), sl5⟩)
    (c5 : PySem.W.codeIn K cd5 "_law_far_bits" = true)
    (k5 : PySem.W.keepIn K (.ref f_far_bits) = true)
    (a6 : PySem.W.nsIn K mainGlobals "_law_names" = some (some (.ref f_names)))
    (l6 : K.lookup f_names = some ⟨oc6, od6, .func (PySem.W.fnOf "_law_names" "_law_names" (defArgs s_names) (defBody s_names) (defScope s_names) .none kV6 dc6 pm6 an6 cd6 ct6), sl6⟩)
    (c6 : PySem.W.codeIn K cd6 "_law_names" = true)
    (k6 : PySem.W.keepIn K (.ref f_names) = true)
    (a7 : PySem.W.nsIn K mainGlobals "_law_near" = some (some (.ref f_near)))
    (l7 : K.lookup f_near = some ⟨oc7, od7, .func (PySem.W.fnOf "_law_near" "_law_near" (defArgs s_near) (defBody s_near) (defScope s_near) .none kV7 dc7 pm7 an7 cd7 ct7), sl7⟩)
    (c7 : PySem.W.codeIn K cd7 "_law_near" = true)
    (k7 : PySem.W.keepIn K (.ref f_near) = true)
    (a8 : PySem.W.nsIn K mainGlobals "_law_diary" = some (some (.ref f_diary)))
    (l8 : K.lookup f_diary = some ⟨oc8, od8, .func (PySem.W.fnOf "_law_diary" "_law_diary" (defArgs s_diary) (defBody s_diary) (defScope s_diary) .none kV8 dc8 pm8 an8 cd8 ct8), sl8⟩)
    (c8 : PySem.W.codeIn K cd8 "_law_diary" = true)
    (k8 : PySem.W.keepIn K (.ref f_diary) = true)
    (a9 : PySem.W.nsIn K mainGlobals "_law_same" = some (some (.ref f_same)))
    (l9 : K.lookup f_same = some ⟨oc9, od9, .func (PySem.W.fnOf "_law_same" "_law_same" (defArgs s_same) (defBody s_same) (defScope s_same) .none kV9 dc9 pm9 an9 cd9 ct9), sl9⟩)
    (c9 : PySem.W.codeIn K cd9 "_law_same" = true)
    (k9 : PySem.W.keepIn K (.ref f_same) = true)
    (a10 : PySem.W.nsIn K mainGlobals "_law_place" = some (some (.ref f_place)))
    (l10 : K.lookup f_place = some ⟨oc10, od10, .func (PySem.W.fnOf "_law_place" "_law_place" (defArgs s_place) (defBody s_place) (defScope s_place) .none kV10 dc10 pm10 an10 cd10 ct10), sl10⟩)
    (c10 : PySem.W.codeIn K cd10 "_law_place" = true)
    (k10 : PySem.W.keepIn K (.ref f_place) = true)
    (a11 : PySem.W.nsIn K mainGlobals "_law_refused" = some (some (.ref f_refused_k03)))
    (l11 : K.lookup f_refused_k03 = some ⟨oc11, od11, .func (PySem.W.fnOf "_law_refused" "_law_refused" (defArgs s_refused_k03) (defBody s_refused_k03) (defScope s_refused_k03) .none kV11 dc11 pm11 an11 cd11 ct11), sl11⟩)
    (c11 : PySem.W.codeIn K cd11 "_law_refused" = true)
    (k11 : PySem.W.keepIn K (.ref f_refused_k03) = true)
    (a12 : PySem.W.nsIn K mainGlobals "_law_passed" = some (some (.ref f_lpassed)))
    (l12 : K.lookup f_lpassed = some ⟨oc12, od12, .func (PySem.W.fnOf "_law_passed" "_law_passed" (defArgs s_lpassed) (defBody s_lpassed) (defScope s_lpassed) .none kV12 dc12 pm12 an12 cd12 ct12), sl12⟩)
    (c12 : PySem.W.codeIn K cd12 "_law_passed" = true)
    (k12 : PySem.W.keepIn K (.ref f_lpassed) = true)
    (a13 : PySem.W.nsIn K mainGlobals "law" = some (some (.ref f_law_k03)))
    (l13 : K.lookup f_law_k03 = some ⟨oc13, od13, .func (PySem.W.fnOf "law" "law" (defArgs s_law_k03) (defBody s_law_k03) (defScope s_law_k03) .none kV13 dc13 pm13 an13 cd13 ct13), sl13⟩)
    (c13 : PySem.W.codeIn K cd13 "law" = true)
    (k13 : PySem.W.keepIn K (.ref f_law_k03) = true)
    (z_ValueError : PySem.W.nsIn K mainGlobals "ValueError" = some none)
    (z_bool : PySem.W.nsIn K mainGlobals "bool" = some none)
    (z_int : PySem.W.nsIn K mainGlobals "int" = some none)
    (z_isinstance : PySem.W.nsIn K mainGlobals "isinstance" = some none)
    (z_len : PySem.W.nsIn K mainGlobals "len" = some none)
    (z_list : PySem.W.nsIn K mainGlobals "list" = some none)
    (z_max : PySem.W.nsIn K mainGlobals "max" = some none)
    (z_range : PySem.W.nsIn K mainGlobals "range" = some none)
    (z_tuple : PySem.W.nsIn K mainGlobals "tuple" = some none)
    (z_zip : PySem.W.nsIn K mainGlobals "zip" = some none)
    : ∃ fd : FuncData, (∀ (s : Shared) (v : Value), BindsTo s fd ⟨[v], []⟩ [("_law_script", v)]) ∧ ∀ base : Heap, K.In base → base.Ns mainGlobals mg → FnOk l.prog w K mg base CX0 5 fa fd ["_law_script"] (sp_law K) := by
  have e := hfa.symm.trans (PySem.W.mg_of X Gx a13)
  cases e
  obtain ⟨G, hG⟩ : ∃ G : Str → Addr, G = fun x => match mg x with | some (.ref a) => a | _ => 0 := ⟨_, rfl⟩
  have m_NoBox := PySem.W.mg_of X Gx qNoBox_g
  have G_NoBox : G "NoBox" = C_NoBox := by rw [hG]; show (match mg "NoBox" with | some (.ref a) => a | _ => 0) = C_NoBox; rw [m_NoBox]
  subst G_NoBox
  have m_NoDeed := PySem.W.mg_of X Gx qNoDeed_g
  have G_NoDeed : G "NoDeed" = C_NoDeed := by rw [hG]; show (match mg "NoDeed" with | some (.ref a) => a | _ => 0) = C_NoDeed; rw [m_NoDeed]
  subst G_NoDeed
  have m_NoPass := PySem.W.mg_of X Gx qNoPass_g
  have G_NoPass : G "NoPass" = C_NoPass := by rw [hG]; show (match mg "NoPass" with | some (.ref a) => a | _ => 0) = C_NoPass; rw [m_NoPass]
  subst G_NoPass
  have m_Nothing := PySem.W.mg_of X Gx qNothing_g
  have G_Nothing : G "Nothing" = C_Nothing := by rw [hG]; show (match mg "Nothing" with | some (.ref a) => a | _ => 0) = C_Nothing; rw [m_Nothing]
  subst G_Nothing
  have m_PassbyError := PySem.W.mg_of X Gx qPassbyError_g
  have G_PassbyError : G "PassbyError" = C_PassbyError := by rw [hG]; show (match mg "PassbyError" with | some (.ref a) => a | _ => 0) = C_PassbyError; rw [m_PassbyError]
  subst G_PassbyError
  have T : Txt K mg G := { triv := trivial, b_ValueError := PySem.W.mg_none_of X Gx z_ValueError, b_bool := PySem.W.mg_none_of X Gx z_bool, b_int := PySem.W.mg_none_of X Gx z_int, b_isinstance := PySem.W.mg_none_of X Gx z_isinstance, b_len := PySem.W.mg_none_of X Gx z_len, b_list := PySem.W.mg_none_of X Gx z_list, b_max := PySem.W.mg_none_of X Gx z_max, b_range := PySem.W.mg_none_of X Gx z_range, b_tuple := PySem.W.mg_none_of X Gx z_tuple, b_zip := PySem.W.mg_none_of X Gx z_zip, g_NoBox := m_NoBox, x_NoBox := qNoBox_x, k_NoBox := qNoBox_k, s_NoBox := qNoBox_s, t_NoBox := qNoBox_t, g_NoDeed := m_NoDeed, x_NoDeed := qNoDeed_x, k_NoDeed := qNoDeed_k, s_NoDeed := qNoDeed_s, t_NoDeed := qNoDeed_t, g_NoPass := m_NoPass, x_NoPass := qNoPass_x, k_NoPass := qNoPass_k, s_NoPass := qNoPass_s, t_NoPass := qNoPass_t, g_Nothing := m_Nothing, x_Nothing := qNothing_x, k_Nothing := qNothing_k, s_Nothing := qNothing_s, t_Nothing := qNothing_t, g_PassbyError := m_PassbyError, x_PassbyError := qPassbyError_x, k_PassbyError := qPassbyError_k, s_PassbyError := qPassbyError_s, t_PassbyError := qPassbyError_t, xf_NoPass := ⟨⟨rNoPass_a, rNoPass_b, qNoPass_s, rNoPass_d, rNoPass_c, r_sp, r_tk, rNoPass_m⟩, PySem.W.exm_ref qNoPass_s rNoPass_d qNoPass_t rNoPass_u_NoPass, PySem.W.exm_ref qPassbyError_s rPassbyError_d qPassbyError_t rNoPass_u_PassbyError, kit_ve rNoPass_v, kit_yes rNoPass_d qNoPass_t rNoPass_u_NoPass, by intro x hx hn; simp only [errNames, List.mem_cons, List.not_mem_nil, or_false] at hx; rcases hx with rfl | rfl | rfl | rfl; exact kit_no rNoDeed_d qNoDeed_t rNoPass_u_NoDeed rNoPass_u_NoPass; exact absurd rfl hn; exact kit_no rNothing_d qNothing_t rNoPass_u_Nothing rNoPass_u_NoPass; exact kit_no rNoBox_d qNoBox_t rNoPass_u_NoBox rNoPass_u_NoPass⟩ }
  have F_clash := fun_mk (st := s_clash) l0 c0 k0
  have F_passed := fun_mk (st := s_passed) l1 c1 k1
  have F_cell_at := fun_mk (st := s_cell_at) l2 c2 k2
  have F_lclash := fun_mk (st := s_lclash) l3 c3 k3
  have F_bits := fun_mk (st := s_bits) l4 c4 k4
  have F_far_bits := fun_mk (st := s_far_bits) l5 c5 k5
  have F_names := fun_mk (st := s_names) l6 c6 k6
  have F_near := fun_mk (st := s_near) l7 c7 k7
  have F_diary := fun_mk (st := s_diary) l8 c8 k8
  have F_same := fun_mk (st := s_same) l9 c9 k9
  have F_place := fun_mk (st := s_place) l10 c10 k10
  have F_refused_k03 := fun_mk (st := s_refused_k03) l11 c11 k11
  have F_lpassed := fun_mk (st := s_lpassed) l12 c12 k12
  have F_law_k03 := fun_mk (st := s_law_k03) l13 c13 k13
  have b_clash := F_clash.binds (ps := ["one", "other"]) fun _ _ _ _ _ _ us hl => match us, hl with | [_, _], _ => rfl
  have b_passed := F_passed.binds (ps := ["diary", "place"]) fun _ _ _ _ _ _ us hl => match us, hl with | [_, _], _ => rfl
  have b_cell_at := F_cell_at.binds (ps := ["_law_script", "_law_k"]) fun _ _ _ _ _ _ us hl => match us, hl with | [_, _], _ => rfl
  have b_lclash := F_lclash.binds (ps := ["_law_one", "_law_other"]) fun _ _ _ _ _ _ us hl => match us, hl with | [_, _], _ => rfl
  have b_bits := F_bits.binds (ps := ["_law_which", "_law_boxes"]) fun _ _ _ _ _ _ us hl => match us, hl with | [_, _], _ => rfl
  have b_far_bits := F_far_bits.binds (ps := ["_law_cell"]) fun _ _ _ _ _ _ us hl => match us, hl with | [_], _ => rfl
  have b_names := F_names.binds (ps := ["_law_cell", "_law_other"]) fun _ _ _ _ _ _ us hl => match us, hl with | [_, _], _ => rfl
  have b_near := F_near.binds (ps := ["_law_number", "_law_names_here", "_law_boxes"]) fun _ _ _ _ _ _ us hl => match us, hl with | [_, _, _], _ => rfl
  have b_diary := F_diary.binds (ps := ["_law_script", "_law_most"]) fun _ _ _ _ _ _ us hl => match us, hl with | [_, _], _ => rfl
  have b_same := F_same.binds (ps := ["_law_found", "_law_due"]) fun _ _ _ _ _ _ us hl => match us, hl with | [_, _], _ => rfl
  have b_place := F_place.binds (ps := ["_law_cell", "_law_size"]) fun _ _ _ _ _ _ us hl => match us, hl with | [_, _], _ => rfl
  have b_refused_k03 := F_refused_k03.binds (ps := ["_law_diary_here", "_law_place_here"]) fun _ _ _ _ _ _ us hl => match us, hl with | [_, _], _ => rfl
  have b_lpassed := F_lpassed.binds (ps := ["_law_diary_here", "_law_place_here"]) fun _ _ _ _ _ _ us hl => match us, hl with | [_, _], _ => rfl
  refine ⟨PySem.W.fnOf "law" "law" (defArgs s_law_k03) (defBody s_law_k03) (defScope s_law_k03) .none kV13 dc13 pm13 an13 cd13 ct13, fun s v => .of_eq rfl, fun base _ _ => ?_⟩
  have C_clash : Cal l.prog w K mg base CX0 "clash" 1 ["one", "other"] [] (sp_clash K) := ⟨_, _, ok_clash F_clash T , PySem.W.mg_of X Gx a0, k0, b_clash⟩
  have C_passed : Cal l.prog w K mg base (L2.CX l.prog w) "passed" 2 ["diary", "place"] [] (sp_passed K G) := ⟨_, _, ok_passed F_passed T C_clash, PySem.W.mg_of X Gx a1, k1, b_passed⟩
  have C_cell_at : Cal l.prog w K mg base CX0 "_law_cell_at" 1 ["_law_script", "_law_k"] [] (sp_cell_at K) := ⟨_, _, ok_cell_at F_cell_at T , PySem.W.mg_of X Gx a2, k2, b_cell_at⟩
  have C_lclash : Cal l.prog w K mg base CX0 "_law_clash" 1 ["_law_one", "_law_other"] [] (sp_clash K) := ⟨_, _, ok_lclash F_lclash T , PySem.W.mg_of X Gx a3, k3, b_lclash⟩
  have C_bits : Cal l.prog w K mg base CX0 "_law_bits" 1 ["_law_which", "_law_boxes"] [] (sp_bits K) := ⟨_, _, ok_bits F_bits T , PySem.W.mg_of X Gx a4, k4, b_bits⟩
  have C_far_bits : Cal l.prog w K mg base CX0 "_law_far_bits" 1 ["_law_cell"] [] (sp_far_bits K) := ⟨_, _, ok_far_bits F_far_bits T , PySem.W.mg_of X Gx a5, k5, b_far_bits⟩
  have C_names : Cal l.prog w K mg base CX0 "_law_names" 1 ["_law_cell", "_law_other"] [] (sp_names K) := ⟨_, _, ok_names F_names T , PySem.W.mg_of X Gx a6, k6, b_names⟩
  have C_near : Cal l.prog w K mg base CX0 "_law_near" 2 ["_law_number", "_law_names_here", "_law_boxes"] [] (sp_near K) := ⟨_, _, ok_near F_near T C_bits, PySem.W.mg_of X Gx a7, k7, b_near⟩
  have C_diary : Cal l.prog w K mg base CX0 "_law_diary" 3 ["_law_script", "_law_most"] [] (sp_diary K) := ⟨_, _, ok_diary F_diary T C_cell_at C_far_bits C_names C_near, PySem.W.mg_of X Gx a8, k8, b_diary⟩
  have C_same : Cal l.prog w K mg base CX0 "_law_same" 4 ["_law_found", "_law_due"] [] (sp_same 4 K) := ⟨_, _, ok_same F_same T (PySem.W.mg_of X Gx a9) b_same 4, PySem.W.mg_of X Gx a9, k9, b_same⟩
  have C_place : Cal l.prog w K mg base CX0 "_law_place" 1 ["_law_cell", "_law_size"] [] (sp_place K) := ⟨_, _, ok_place F_place T , PySem.W.mg_of X Gx a10, k10, b_place⟩
  have C_refused_k03 : Cal l.prog w K mg base CX0 "_law_refused" 3 ["_law_diary_here", "_law_place_here"] [] (sp_refused_k03 K) := ⟨_, _, ok_refused_k03 F_refused_k03 T C_passed, PySem.W.mg_of X Gx a11, k11, b_refused_k03⟩
  have C_lpassed : Cal l.prog w K mg base CX0 "_law_passed" 1 ["_law_diary_here", "_law_place_here"] [] (sp_lpassed K) := ⟨_, _, ok_lpassed F_lpassed T , PySem.W.mg_of X Gx a12, k12, b_lpassed⟩
  exact ok_law_k03 F_law_k03 T C_diary C_place C_lclash C_passed C_lpassed C_same C_refused_k03
theorem walk {l : PySem.W.OpenLaw} {q : Program} {loose : List Str} {XP : (Str → Option Value) → Heap → Prop} {YP : World → Heap → Prop} {d : DefRec} {K : Params → PySem.W.Frag} (hn : l.most = some 63) (hdf : d.params.defaults = [])
    (hY : ∀ (w : World) (h : Heap), YP w h → (K w.params).In h)
    (F : ∀ (w : World) (mg : Str → Option Value) (fa : Addr) (h : Heap), (K w.params).In h → h.Ns mainGlobals mg → mg d.name = some (.ref fa) →
      ∃ fd : FuncData, (∀ (s : Shared) (u : Value), BindsTo s fd ⟨[u], []⟩ [("_law_script", u)]) ∧ ∀ base : Heap, (K w.params).In base → base.Ns mainGlobals mg → FnOk l.prog w (K w.params) mg base CX0 5 fa fd ["_law_script"] (sp_law (K w.params))) :
    PySem.W.WalkO q loose XP YP l.row.toRowW d [] (fun f vs => PySem.call f vs) :=
  L2.walk_of (n := 63) (k := 5) (x := "_law_script") (CX := fun _ => CX0) (sp := fun w => sp_law (K w.params)) hn (by decide) hdf ⟨rfl, by decide, by decide⟩ hY F (fun _ _ a ns hl _ hS => ⟨a, ns, rfl, hS, hl, fun _ => rfl⟩) fun _ _ _ _ _ z => z
end Rk03
open PySem PySem.W PyProof.Rows
set_option maxRecDepth 100000 in
set_option maxHeartbeats 0 in
theorem PySem.Challenge.cw_passby_k03_one_passing_holds : PySem.Challenge.rw_passby_k03_one_passing.Holds := by
  w_on; o_law; k_head; (case hw => w_witness2)
  k_fill
  refine Rk03.walk (l := PySem.Challenge.rw_passby_k03_one_passing) rfl rfl (fun w h Y => PySem.W.kIn_of Y) ?F
  case F =>
    intro w mg fa h KX Gx hmg
    refine' Rk03.all_mk KX Gx hmg ?qNoBox_g ?qNoBox_x ?qNoBox_k ?qNoBox_s ?qNoBox_t ?qNoDeed_g ?qNoDeed_x ?qNoDeed_k ?qNoDeed_s ?qNoDeed_t ?qNoPass_g ?qNoPass_x ?qNoPass_k ?qNoPass_s ?qNoPass_t ?qNothing_g ?qNothing_x ?qNothing_k ?qNothing_s ?qNothing_t ?qPassbyError_g ?qPassbyError_x ?qPassbyError_k ?qPassbyError_s ?qPassbyError_t ?rPassbyError_d ?rNoDeed_d ?rNoPass_d ?rNothing_d ?rNoBox_d ?r_sp ?r_tk ?rNoPass_a ?rNoPass_b ?rNoPass_c ?rNoPass_m ?rNoPass_v ?rNoPass_u_PassbyError ?rNoPass_u_NoDeed ?rNoPass_u_NoPass ?rNoPass_u_Nothing ?rNoPass_u_NoBox ?a0 ?l0 ?c0 ?k0 ?a1 ?l1 ?c1 ?k1 ?a2 ?l2 ?c2 ?k2 ?a3 ?l3 ?c3 ?k3 ?a4 ?l4 ?c4 ?k4 ?a5 ?l5 ?c5 ?k5 ?a6 ?l6 ?c6 ?k6 ?a7 ?l7 ?c7 ?k7 ?a8 ?l8 ?c8 ?k8 ?a9 ?l9 ?c9 ?k9 ?a10 ?l10 ?c10 ?k10 ?a11 ?l11 ?c11 ?k11 ?a12 ?l12 ?c12 ?k12 ?a13 ?l13 ?c13 ?k13 ?z_ValueError ?z_bool ?z_int ?z_isinstance ?z_len ?z_list ?z_max ?z_range ?z_tuple ?z_zip
    (case qNoBox_g => k_is); (case qNoBox_x => k_exc); (case qNoBox_k => k_is); (case qNoBox_s => k_is); (case qNoBox_t => k_is); (case qNoDeed_g => k_is)
    (case qNoDeed_x => k_exc); (case qNoDeed_k => k_is); (case qNoDeed_s => k_is); (case qNoDeed_t => k_is); (case qNoPass_g => k_is); (case qNoPass_x => k_exc)
    (case qNoPass_k => k_is); (case qNoPass_s => k_is); (case qNoPass_t => k_is); (case qNothing_g => k_is); (case qNothing_x => k_exc); (case qNothing_k => k_is)
    (case qNothing_s => k_is); (case qNothing_t => k_is); (case qPassbyError_g => k_is); (case qPassbyError_x => k_exc); (case qPassbyError_k => k_is); (case qPassbyError_s => k_is)
    (case qPassbyError_t => k_is); (case rPassbyError_d => k_is); (case rNoDeed_d => k_is); (case rNoPass_d => k_is); (case rNothing_d => k_is); (case rNoBox_d => k_is)
    (case r_sp => k_is); (case r_tk => k_is); (case rNoPass_a => k_is); (case rNoPass_b => k_is); (case rNoPass_c => k_is); (case rNoPass_m => k_is)
    (case rNoPass_v => k_is); (case rNoPass_u_PassbyError => k_is); (case rNoPass_u_NoDeed => k_is); (case rNoPass_u_NoPass => k_is); (case rNoPass_u_Nothing => k_is); (case rNoPass_u_NoBox => k_is)
    (case a0 => k_is); (case l0 => k_is); (case c0 => k_is); (case k0 => k_is); (case a1 => k_is); (case l1 => k_is)
    (case c1 => k_is); (case k1 => k_is); (case a2 => k_is); (case l2 => k_is); (case c2 => k_is); (case k2 => k_is)
    (case a3 => k_is); (case l3 => k_is); (case c3 => k_is); (case k3 => k_is); (case a4 => k_is); (case l4 => k_is)
    (case c4 => k_is); (case k4 => k_is); (case a5 => k_is); (case l5 => k_is); (case c5 => k_is); (case k5 => k_is)
    (case a6 => k_is); (case l6 => k_is); (case c6 => k_is); (case k6 => k_is); (case a7 => k_is); (case l7 => k_is)
    (case c7 => k_is); (case k7 => k_is); (case a8 => k_is); (case l8 => k_is); (case c8 => k_is); (case k8 => k_is)
    (case a9 => k_is); (case l9 => k_is); (case c9 => k_is); (case k9 => k_is); (case a10 => k_is); (case l10 => k_is)
    (case c10 => k_is); (case k10 => k_is); (case a11 => k_is); (case l11 => k_is); (case c11 => k_is); (case k11 => k_is)
    (case a12 => k_is); (case l12 => k_is); (case c12 => k_is); (case k12 => k_is); (case a13 => k_is); (case l13 => k_is)
    (case c13 => k_is); (case k13 => k_is); (case z_ValueError => k_is); (case z_bool => k_is); (case z_int => k_is); (case z_isinstance => k_is)
    (case z_len => k_is); (case z_list => k_is); (case z_max => k_is); (case z_range => k_is); (case z_tuple => k_is); (case z_zip => k_is)
#print axioms PySem.Challenge.cw_passby_k03_one_passing_holds
