import PyProof.Rows.All
import Wide.All
import OpenK.AllK
import Wide.FinOn
import HandS.ForMost
import HandS.ForExc
import HandS.Deep
import HandS.IsInst
import HandS.Wide
import HandS.Zip
import HandS.More
import HandS.SortKw
import HandS.ExcIs
import HandS.TryOnly
import HandS.Defaults
import HandS.HotCalls
import PySem.Challenge.RW_passby_k01_deeds_made
set_option Elab.async false
set_option linter.all false
set_option maxRecDepth 100000
set_option maxHeartbeats 4000000
/-! PbBase: short names of readings, calls of defs as facts, heaps that grow. -/
namespace Pb
open PySem PySem.Spec L2

/-! ### readings by short names -/
abbrev rSub : R2 := rI0 fun i j => .int (i - j)
abbrev rMul : R2 := rI CMul fun i j => .int (i * j)
abbrev rDiv : R2 := rI CDivW fun i j => .int (i / j)
abbrev rMod : R2 := rI (fun _ j => 0 < j) fun i j => .int (i % j)
abbrev rAnd : R2 := rI0 fun i j => .int (Builtin.bitAnd i j)
abbrev rOr : R2 := rI0 fun i j => .int (Builtin.bitOr i j)
abbrev rShr : R2 := rI (fun _ j => 0 ≤ j) fun i j => .int (i / 2 ^ j.toNat)
abbrev rShl : R2 := rI CPow fun i j => .int (i * 2 ^ j.toNat)
abbrev rPow : R2 := rI CPow fun i j => .int (i ^ j.toNat)
abbrev rNeg : V → Hp → VK → Prop := rU fun i => .int (-i)
abbrev rLt : R2 := rI0 fun i j => .bl (decide (i < j))
abbrev rLe : R2 := rI0 fun i j => .bl (decide (i ≤ j))
abbrev rGt : R2 := rI0 fun i j => .bl (decide (j < i))
abbrev rGe : R2 := rI0 fun i j => .bl (decide (j ≤ i))
abbrev rIsN : R2 := fun x y H Q => y = .non ∧ Q (.bl (decide (x = .non))) H
abbrev rNotN : R2 := fun x y H Q => y = .non ∧ Q (.bl (!decide (x = .non))) H
def rLen (K : PySem.W.Frag) : List V → Hp → VK → Prop := fun xs H Q => ∃ p ys, xs = [.ref p] ∧ (SqL K H p ys ∨ SqT K H p ys) ∧ Q (.int ys.length) H
def rListOf (K : PySem.W.Frag) : List V → Hp → VK → Prop := fun xs H Q => ∃ p ys, xs = [.ref p] ∧ (SqL K H p ys ∨ SqT K H p ys) ∧ ∀ l, H l = none → Q (.ref l) (upd H l (.lst ys))
def rMax2 : List V → Hp → VK → Prop := fun xs H Q => ∃ i j, xs = [.int i, .int j] ∧ Q (.int (if j > i then j else i)) H
def rInsert : V → List V → Hp → VK → Prop := fun x vs H Q => ∃ (l : Addr) (xs : List V) (i : Int) (y : V), x = .ref l ∧ vs = [.int i, y] ∧ H l = some (.lst xs) ∧ xs.length < sizeLine ∧ 0 ≤ i ∧ i < 2 ^ 63 ∧ Q .non (upd H l (.lst (xs.take i.toNat ++ [y] ++ xs.drop i.toNat)))
/-- a + b: of ints, of lists -/
def rPlus : R2 := fun x y H Q => rI0 (fun i j => .int (i + j)) x y H Q ∨ rCat x y H Q
def rEqA (K : PySem.W.Frag) : R2 := fun x y H Q => rEq x y H Q ∨ rEqD K x y H Q
def rNeA (K : PySem.W.Frag) : R2 := fun x y H Q => rNe x y H Q ∨ rNeD K x y H Q
def rSlA (K : PySem.W.Frag) : V → Option Int → Option Int → Hp → VK → Prop := fun x lo hi H Q => rSlL K x lo hi H Q ∨ rSlT K x lo hi H Q
section
variable {X : Cx}
theorem op_plus : OpR X (binaryOp .Add) rPlus := op_add.or op_cat
theorem op_eqA (hu : X.A.units + 64 < cLine) : OpR X (compareOp .Eq) (rEqA X.K) := op_eq.or (op_eqD hu)
theorem op_neA (hu : X.A.units + 64 < cLine) : OpR X (compareOp .NotEq) (rNeA X.K) := op_ne.or (op_neD hu)
theorem sl_any : SlR X (rSlA X.K) := sl_list.or sl_tup
end
theorem hu65 {A : Around} {k : Nat} (hr : Room k A) : A.units + 65 < cLine := by
  have := hr.un
  omega

/-! ### the built-ins' names -/
theorem bt_len : bootBuiltins "len" = some (.builtin "len") := by decide +kernel
theorem bt_isinstance : bootBuiltins "isinstance" = some (.builtin "isinstance") := by decide +kernel
theorem bt_max : bootBuiltins "max" = some (.builtin "max") := by decide +kernel
theorem bt_min : bootBuiltins "min" = some (.builtin "min") := by decide +kernel
theorem bt_sorted : bootBuiltins "sorted" = some (.builtin "sorted") := by decide +kernel
theorem bt_list : bootBuiltins "list" = some (.type "list") := by decide +kernel
theorem bt_tuple : bootBuiltins "tuple" = some (.type "tuple") := by decide +kernel
theorem bt_int : bootBuiltins "int" = some (.type "int") := by decide +kernel
theorem bt_bool : bootBuiltins "bool" = some (.type "bool") := by decide +kernel
theorem bt_str : bootBuiltins "str" = some (.type "str") := by decide +kernel
theorem bt_dict : bootBuiltins "dict" = some (.type "dict") := by decide +kernel
theorem bt_sum : bootBuiltins "sum" = some (.builtin "sum") := by decide +kernel
theorem bt_ValueError : bootBuiltins "ValueError" = some (.type "ValueError") := by decide +kernel

/-! ### a def of the module, as a fact: what it is called by, its level, what it promises -/
structure Cal (P : Program) (w : World) (K : PySem.W.Frag) (mg : Str → Option Value) (base : Heap) (CX : CXT) (x : Str) (k : Nat) (ps : List Str) (ds : List Value) (sp : Sp) : Prop where
  ex : ∃ (f : Addr) (fd : FuncData), FnOk P w K mg base CX k f fd ps sp ∧ mg x = some (.ref f) ∧ PySem.W.keepIn K (.ref f) = true ∧ Binds K fd ps ds
structure Mth (P : Program) (w : World) (K : PySem.W.Frag) (mg : Str → Option Value) (base : Heap) (CX : CXT) (C : Addr) (m : Str) (k : Nat) (ps : List Str) (sp : Sp) : Prop where
  ex : ∃ (f : Addr) (fd : FuncData), FnOk P w K mg base CX k f fd ps sp ∧ Meth K C m f ∧ Binds K fd ps []
structure Mak (P : Program) (w : World) (K : PySem.W.Frag) (mg : Str → Option Value) (base : Heap) (CX : CXT) (C : Addr) (k : Nat) (ps : List Str) (sp : Sp) : Prop where
  ex : ∃ (f : Addr) (fd : FuncData), FnOk P w K mg base CX k f fd ps sp ∧ Mk K C f ∧ Binds K fd ps []
section
variable {X : Cx} {CX : CXT} {k : Nat} {C : Addr} {ps : List Str} {sp : Sp} {dvs : List V} {ds : List Value} {E : XK} {x m : Str} {p pos apos : Pos} {e o : Expr} {es : List Expr} {ta : TE} {t : TA}
theorem pe_cal (C : Cal X.prog X.w X.K X.mg X.base CX x k ps ds sp) (hr : Room k X.A) (hd : Vals dvs ds) (hg : Gl X x) (hx : Passes CX X E)
    (ha : PA X (e :: es) t) (hdb : (x == ("__debug__" : Str)) = false := by decide) (he : starEach (e :: es) X.env = (false, eval e X.env) :: starEach es X.env := by rfl) (hpl : (backTo pos (starEach es X.env)).any (·.1) = false := by rfl) :
    PE X (.Call (.Name x p) (e :: es) [] pos) (tCall sp dvs E t) := by
  obtain ⟨f, fd, F, hm, hk, hb⟩ := C.ex
  exact pe_call F hr hg hm hk hb hd hx ha hdb he hpl
theorem pe_mth {pl : Sem Bool} (ho : PE X o ta) (c : Cls X.K C) (M : Mth X.prog X.w X.K X.mg X.base CX C m k ps sp) (hr : Room k X.A) (hx : Passes CX X E) (ha : PA X (e :: es) t)
    (hst : starEach (e :: es) X.env = (false, eval e X.env) :: starEach es X.env := by rfl) (hpl : (backTo pos (starEach es X.env)).any (·.1) = false := by rfl)
    (ht : eval (.Call (.Attribute o m apos) (e :: es) [] pos) X.env = (do
      let ov ← eval o X.env
      standAt apos.atName
      let (f, first) ← holding [ov] (getMethod ov m pl)
      callWith pos f first (backTo pos (starEach (e :: es) X.env)) (backToKw pos (keywordEach [] X.env))) := by rfl) :
    PE X (.Call (.Attribute o m apos) (e :: es) [] pos) (tMeth C m sp [] E ta t) := by
  obtain ⟨f, fd, F, hm, hb⟩ := M.ex
  exact pe_meth ho c hm F hr hb .nil hx ha hst hpl ht
theorem pe_mth0 {pl : Sem Bool} (ho : PE X o ta) (c : Cls X.K C) (M : Mth X.prog X.w X.K X.mg X.base CX C m k ps sp) (hr : Room k X.A) (hx : Passes CX X E)
    (ht : eval (.Call (.Attribute o m apos) [] [] pos) X.env = (do
      let ov ← eval o X.env
      standAt apos.atName
      let (f, first) ← holding [ov] (getMethod ov m pl)
      callWith pos f first (backTo pos (starEach [] X.env)) (backToKw pos (keywordEach [] X.env))) := by rfl) :
    PE X (.Call (.Attribute o m apos) [] [] pos) (tMeth C m sp [] E ta tNil) := by
  obtain ⟨f, fd, F, hm, hb⟩ := M.ex
  exact pe_meth0 ho c hm F hr hb .nil hx ht
theorem pe_mk0 (M : Mak X.prog X.w X.K X.mg X.base CX C k ps sp) (hr : Room (k + 1) X.A) (hg : Gl X x) (hm : X.mg x = some (.ref C)) (hx : Passes CX X E) (hdb : (x == ("__debug__" : Str)) = false := by decide) :
    PE X (.Call (.Name x p) [] [] pos) (tMake C sp [] E tNil) := by
  obtain ⟨f, fd, F, M, hb⟩ := M.ex
  exact pe_make0 M F hr hg hm hb .nil hx hdb
theorem pe_const {v : V} (hg : Gl X x) (hm : ∃ u, X.mg x = some u ∧ RelV v u) (hd : (x == ("__debug__" : Str)) = false := by decide) : PE X (.Name x pos) (tC v) := by
  obtain ⟨u, h1, h2⟩ := hm
  exact pe_glob hg h1 h2 hd
end

/-! ### heaps that grow -/
theorem same_upd {H H' : Hp} {p : Addr} {o : HO} (s : Same H H') (h : H p = none) : Same H (upd H' p o) := fun b x e => by
  rw [upd_ne (ne_of_none e h)]
  exact s b x e
theorem same_new {H : Hp} {p : Addr} {o : HO} (h : H p = none) : Same H (upd H p o) := same_upd (Same.refl H) h
/-- a new object: the heap behind it by a letter -/
theorem al {H : Hp} {o : HO} {Q : VK} (h : ∀ (p : Addr) (H1 : Hp), H p = none → Same H H1 → H1 p = some o → Q (.ref p) H1) : ∀ p, H p = none → Q (.ref p) (upd H p o) :=
  fun p hp => h p _ hp (same_new hp) upd_same
/-- an object that H0 doesn't know is changed -/
theorem mu {H0 H : Hp} {p : Addr} {o : HO} {Q : Hp → Prop} (s : Same H0 H) (hp : H0 p = none) (h : ∀ H1 : Hp, Same H0 H1 → H1 p = some o → (∀ b, b ≠ p → H1 b = H b) → Q H1) : Q (upd H p o) :=
  h _ (same_upd s hp) upd_same fun _ n => upd_ne n
theorem sq_t {K : PySem.W.Frag} {H H' : Hp} {a : Addr} {xs : List V} (s : Same H H') (h : SqT K H a xs) : SqT K H' a xs := by
  rcases h with (h | ⟨o, h⟩) | h
  · exact .inl (.inl (s _ _ h))
  · exact .inl (.inr ⟨o, s _ _ h⟩)
  · exact .inr h

/-! ### bits of numbers from nought -/
theorem bnot2 (x : Int) : Builtin.bitNot (Builtin.bitNot x) = x := by
  unfold Builtin.bitNot
  omega
theorem band_nat (a b : Nat) : Builtin.bitAnd (a : Int) (b : Int) = ((a &&& b : Nat) : Int) := rfl
theorem bor_nat (a b : Nat) : Builtin.bitOr (a : Int) (b : Int) = ((a ||| b : Nat) : Int) := by
  have h1 : ¬ (0 : Int) ≤ Builtin.bitNot (a : Int) := by
    unfold Builtin.bitNot
    omega
  have h2 : ¬ (0 : Int) ≤ Builtin.bitNot (b : Int) := by
    unfold Builtin.bitNot
    omega
  unfold Builtin.bitOr Builtin.bitAnd
  rw [decide_eq_false h1, decide_eq_false h2]
  show Builtin.bitNot (Builtin.bitNot (((Builtin.bitNot (Builtin.bitNot (a : Int))).toNat ||| (Builtin.bitNot (Builtin.bitNot (b : Int))).toNat : Nat) : Int)) = _
  rw [bnot2, bnot2, bnot2, Int.toNat_natCast, Int.toNat_natCast]

/-! ### written numbers -/
/-- written powers, divisors, factors -/
theorem cp_of {i j : Int} (h : 0 ≤ j ∧ j ≤ 1000000 ∧ i.natAbs < 2 ^ 64) : CPow i j = True := eq_true h
theorem cp_2_60 : CPow 2 60 = True := cp_of (by decide)
theorem cp_2_61 : CPow 2 61 = True := cp_of (by decide)
theorem cp_10_60 : CPow 10 60 = True := cp_of (by decide)
theorem cp_10_59 : CPow 10 59 = True := cp_of (by decide)
theorem cp_10_50 : CPow 10 50 = True := cp_of (by decide)
theorem cp_10_30 : CPow 10 30 = True := cp_of (by decide)
theorem cp_10_7 : CPow 10 7 = True := cp_of (by decide)
theorem cdw {i j : Int} (h : 0 < j ∧ j.natAbs.log2 < 9000) : CDivW i j = True := eq_true h
theorem cmw {i j : Int} (h : -(2 ^ 64) < i ∧ i < 2 ^ 64) : CMul i j = True := eq_true (.inl h)
theorem cmv {i j : Int} (h : -(2 ^ 64) < j ∧ j < 2 ^ 64) : CMul i j = True := eq_true (.inr h)

theorem cd_2 {i : Int} : CDivW i 2 = True := cdw (by decide +kernel)
theorem cd_3 {i : Int} : CDivW i 3 = True := cdw (by decide +kernel)
theorem cd_4 {i : Int} : CDivW i 4 = True := cdw (by decide +kernel)
theorem cd_6 {i : Int} : CDivW i 6 = True := cdw (by decide +kernel)
theorem cd_7 {i : Int} : CDivW i 7 = True := cdw (by decide +kernel)
theorem cd_8 {i : Int} : CDivW i 8 = True := cdw (by decide +kernel)
theorem cd_9 {i : Int} : CDivW i 9 = True := cdw (by decide +kernel)
theorem cd_10 {i : Int} : CDivW i 10 = True := cdw (by decide +kernel)
theorem cd_24 {i : Int} : CDivW i 24 = True := cdw (by decide +kernel)
theorem cd_36 {i : Int} : CDivW i 36 = True := cdw (by decide +kernel)
theorem cd_48 {i : Int} : CDivW i 48 = True := cdw (by decide +kernel)
theorem cd_56 {i : Int} : CDivW i 56 = True := cdw (by decide +kernel)
theorem cd_60 {i : Int} : CDivW i 60 = True := cdw (by decide +kernel)
theorem cd_61 {i : Int} : CDivW i 61 = True := cdw (by decide +kernel)
theorem cd_180 {i : Int} : CDivW i 180 = True := cdw (by decide +kernel)
theorem cd_183 {i : Int} : CDivW i 183 = True := cdw (by decide +kernel)
theorem cd_540 {i : Int} : CDivW i 540 = True := cdw (by decide +kernel)
theorem cd_3600 {i : Int} : CDivW i 3600 = True := cdw (by decide +kernel)
theorem cd_1152921504606846976 {i : Int} : CDivW i 1152921504606846976 = True := cdw (by decide +kernel)
theorem cm_2 {i : Int} : CMul 2 i = True := cmw (by decide +kernel)
theorem cn_2 {i : Int} : CMul i 2 = True := cmv (by decide +kernel)
theorem cm_3 {i : Int} : CMul 3 i = True := cmw (by decide +kernel)
theorem cn_3 {i : Int} : CMul i 3 = True := cmv (by decide +kernel)
theorem cm_175 {i : Int} : CMul 175 i = True := cmw (by decide +kernel)
theorem cn_175 {i : Int} : CMul i 175 = True := cmv (by decide +kernel)
theorem cm_48271 {i : Int} : CMul 48271 i = True := cmw (by decide +kernel)
theorem cn_48271 {i : Int} : CMul i 48271 = True := cmv (by decide +kernel)
theorem cm_2147483647 {i : Int} : CMul 2147483647 i = True := cmw (by decide +kernel)
theorem cn_2147483647 {i : Int} : CMul i 2147483647 = True := cmv (by decide +kernel)

/-! ### single readings -/
theorem rd_plus {i j : Int} {H : Hp} {Q : VK} (h : Q (.int (i + j)) H) : rPlus (.int i) (.int j) H Q := .inl ⟨_, _, rfl, rfl, h⟩
theorem plus_int {i j : Int} {H : Hp} {Q : VK} : rPlus (.int i) (.int j) H Q = Q (.int (i + j)) H := by
  refine propext ⟨fun h => ?_, rd_plus⟩
  rcases h with ⟨_, _, e, e', h⟩ | ⟨_, _, _, _, e, _⟩
  · cases e
    cases e'
    exact h
  · cases e
theorem ri0_int {g : Int → Int → V} {i j : Int} {H : Hp} {Q : VK} : rI0 g (.int i) (.int j) H Q = Q (g i j) H := propext ⟨fun ⟨_, _, e, e', h⟩ => by cases e; cases e'; exact h, fun h => ⟨_, _, rfl, rfl, h⟩⟩
theorem ri_int {C : Int → Int → Prop} {g : Int → Int → V} {i j : Int} {H : Hp} {Q : VK} : rI C g (.int i) (.int j) H Q = (C i j ∧ Q (g i j) H) := propext ⟨fun ⟨_, _, e, e', h⟩ => by cases e; cases e'; exact h, fun h => ⟨_, _, rfl, rfl, h⟩⟩
theorem ru_int {g : Int → V} {i : Int} {H : Hp} {Q : VK} : rU g (.int i) H Q = Q (g i) H := propext ⟨fun ⟨_, e, h⟩ => by cases e; exact h, fun h => ⟨_, rfl, h⟩⟩
theorem eqv_int (i j : Int) : PyData.eqv (.int i) (.int j) = decide (i = j) := by
  rw [← Bool.beq_eq_decide_eq]
  rfl
theorem eqA_int {K : PySem.W.Frag} {i j : Int} {H : Hp} {Q : VK} : rEqA K (.int i) (.int j) H Q = Q (.bl (decide (i = j))) H := propext ⟨fun h => by
    rcases h with ⟨_, h⟩ | ⟨d, e, h1, h2, _, _, h⟩
    · rw [show decide (V.int i = V.int j) = decide (i = j) from decide_eq_decide.mpr ⟨fun e => by cases e; rfl, fun e => by rw [e]⟩] at h
      exact h
    · cases h1; cases h2
      rw [eqv_int] at h
      exact h, fun h => .inl ⟨rfl, by rw [show decide (V.int i = V.int j) = decide (i = j) from decide_eq_decide.mpr ⟨fun e => by cases e; rfl, fun e => by rw [e]⟩]; exact h⟩⟩
theorem neA_int {K : PySem.W.Frag} {i j : Int} {H : Hp} {Q : VK} : rNeA K (.int i) (.int j) H Q = Q (.bl (!decide (i = j))) H := propext ⟨fun h => by
    rcases h with ⟨_, h⟩ | ⟨d, e, h1, h2, _, _, h⟩
    · rw [show decide (V.int i = V.int j) = decide (i = j) from decide_eq_decide.mpr ⟨fun e => by cases e; rfl, fun e => by rw [e]⟩] at h
      exact h
    · cases h1; cases h2
      rw [eqv_int] at h
      exact h, fun h => .inl ⟨rfl, by rw [show decide (V.int i = V.int j) = decide (i = j) from decide_eq_decide.mpr ⟨fun e => by cases e; rfl, fun e => by rw [e]⟩]; exact h⟩⟩
theorem bl_dec (i j : Bool) : decide (V.bl i = V.bl j) = decide (i = j) := decide_eq_decide.mpr ⟨fun e => by cases e; rfl, fun e => by rw [e]⟩
theorem eqv_bl (i j : Bool) : PyData.eqv (.bool i) (.bool j) = decide (i = j) := by cases i <;> cases j <;> rfl
theorem eqA_bl {K : PySem.W.Frag} {i j : Bool} {H : Hp} {Q : VK} : rEqA K (.bl i) (.bl j) H Q = Q (.bl (decide (i = j))) H := propext ⟨fun h => by
    rcases h with ⟨_, h⟩ | ⟨d, e, h1, h2, _, _, h⟩
    · rw [bl_dec] at h
      exact h
    · cases h1; cases h2
      rw [eqv_bl] at h
      exact h, fun h => .inl ⟨rfl, by rw [bl_dec]; exact h⟩⟩
theorem neA_bl {K : PySem.W.Frag} {i j : Bool} {H : Hp} {Q : VK} : rNeA K (.bl i) (.bl j) H Q = Q (.bl (!decide (i = j))) H := propext ⟨fun h => by
    rcases h with ⟨_, h⟩ | ⟨d, e, h1, h2, _, _, h⟩
    · rw [bl_dec] at h
      exact h
    · cases h1; cases h2
      rw [eqv_bl] at h
      exact h, fun h => .inl ⟨rfl, by rw [bl_dec]; exact h⟩⟩
/-- isinstance(x, a built-in class) -/
theorem isi {K : PySem.W.Frag} {H : Hp} {x : V} {T T' : String} {b : Bool} {Q : VK} (h : TyOf K H x (.type T)) (hk : kitB T T' = some b) (q : Q (.bl b) H) : rIsi K [x, .ty T'] H Q := ⟨x, .ty T', .type T, .type T', b, rfl, .ty _, .base h, kit_ty hk, q⟩
theorem kb_bool_bool : kitB "bool" "bool" = some true := by decide +kernel
theorem kb_int_int : kitB "int" "int" = some true := by decide +kernel
theorem kb_int_bool : kitB "int" "bool" = some false := by decide +kernel
theorem kb_bool_int : kitB "bool" "int" = some true := by decide +kernel
theorem kb_tuple_tuple : kitB "tuple" "tuple" = some true := by decide +kernel
theorem kb_list_list : kitB "list" "list" = some true := by decide +kernel
theorem kb_list_tuple : kitB "list" "tuple" = some false := by decide +kernel
theorem kb_tuple_int : kitB "tuple" "int" = some false := by decide +kernel
theorem kb_list_int : kitB "list" "int" = some false := by decide +kernel
theorem kb_str_str : kitB "str" "str" = some true := by decide +kernel
theorem isi_bl {K : PySem.W.Frag} {H : Hp} {c : Bool} {Q : VK} (q : Q (.bl true) H) : rIsi K [.bl c, .ty "bool"] H Q := isi (.bl c) kb_bool_bool q
theorem isi_int {K : PySem.W.Frag} {H : Hp} {i : Int} {Q : VK} (q : Q (.bl true) H) : rIsi K [.int i, .ty "int"] H Q := isi (.int i) kb_int_int q
theorem isi_intb {K : PySem.W.Frag} {H : Hp} {i : Int} {Q : VK} (q : Q (.bl false) H) : rIsi K [.int i, .ty "bool"] H Q := isi (.int i) kb_int_bool q
theorem isi_tup {K : PySem.W.Frag} {H : Hp} {a : Addr} {xs : List V} {Q : VK} (h : H a = some (.tup xs)) (q : Q (.bl true) H) : rIsi K [.ref a, .ty "tuple"] H Q := isi (.tup h) kb_tuple_tuple q
theorem isi_tupi {K : PySem.W.Frag} {H : Hp} {a : Addr} {xs : List V} {Q : VK} (h : H a = some (.tup xs)) (q : Q (.bl false) H) : rIsi K [.ref a, .ty "int"] H Q := isi (.tup h) kb_tuple_int q
theorem isi_lst {K : PySem.W.Frag} {H : Hp} {a : Addr} {xs : List V} {Q : VK} (h : H a = some (.lst xs)) (q : Q (.bl true) H) : rIsi K [.ref a, .ty "list"] H Q := isi (.lst h) kb_list_list q
theorem isi_lstt {K : PySem.W.Frag} {H : Hp} {a : Addr} {xs : List V} {Q : VK} (h : H a = some (.lst xs)) (q : Q (.bl false) H) : rIsi K [.ref a, .ty "tuple"] H Q := isi (.lst h) kb_list_tuple q
theorem isi_lsti {K : PySem.W.Frag} {H : Hp} {a : Addr} {xs : List V} {Q : VK} (h : H a = some (.lst xs)) (q : Q (.bl false) H) : rIsi K [.ref a, .ty "int"] H Q := isi (.lst h) kb_list_int q
theorem eqA_D {K : PySem.W.Frag} {x y : V} {d e : PyData} {H : Hp} {Q : VK} (hx : Dp K H x d) (hy : Dp K H y e) (h1 : SeqAt.shaped d = true) (h2 : SeqAt.shaped e = true) (h : Q (.bl (PyData.eqv d e)) H) : rEqA K x y H Q :=
  .inr ⟨d, e, hx, hy, h1, h2, h⟩
theorem neA_D {K : PySem.W.Frag} {x y : V} {d e : PyData} {H : Hp} {Q : VK} (hx : Dp K H x d) (hy : Dp K H y e) (h1 : SeqAt.shaped d = true) (h2 : SeqAt.shaped e = true) (h : Q (.bl (!PyData.eqv d e)) H) : rNeA K x y H Q :=
  .inr ⟨d, e, hx, hy, h1, h2, h⟩
/-- an item of a tuple, of a list -/
theorem ix_t {K : PySem.W.Frag} {H : Hp} {p : Addr} {xs : List V} {i : Int} {v : V} {Q : VK} (h : SqT K H p xs) (hv : atI xs i = some v) (q : Q v H) : rIx K (.ref p) (.int i) H Q := .inr (.inl ⟨p, xs, i, v, rfl, rfl, h, hv, q⟩)
theorem ix_l {K : PySem.W.Frag} {H : Hp} {p : Addr} {xs : List V} {i : Int} {v : V} {Q : VK} (h : SqL K H p xs) (hv : atI xs i = some v) (q : Q v H) : rIx K (.ref p) (.int i) H Q := .inl ⟨p, xs, i, v, rfl, rfl, h, hv, q⟩
theorem ix_t' {K : PySem.W.Frag} {H : Hp} {p : Addr} {xs : List V} {i : Int} {v : V} {Q : VK} (h : H p = some (.tup xs)) (hv : atI xs i = some v) (q : Q v H) : rIx K (.ref p) (.int i) H Q := ix_t (.of h) hv q
theorem ix_l' {K : PySem.W.Frag} {H : Hp} {p : Addr} {xs : List V} {i : Int} {v : V} {Q : VK} (h : H p = some (.lst xs)) (hv : atI xs i = some v) (q : Q v H) : rIx K (.ref p) (.int i) H Q := ix_l (.of h) hv q

/-! ### loops: the walked thing's own part apart -/
/-- what holds between two turns, not to be opened on the way -/
def Hold (P : St → Hp → Prop) : St → Hp → Prop := P
/-- the turns of a for -/
def ForW (J : It) (g : TG) (tb : TS) (D : Ends) (σ : St) (H1 : Hp) : Prop := ∃ W : Nat → Nat → St → Hp → Prop, (∃ m, W 0 m σ H1) ∧ ∀ i m σ H, W i m σ H →
  (J.stop i H ∧ D.nx σ H) ∨ (J.go i H ∧ ∃ N : St → Hp → Prop, (∀ σ' H', N σ' H' → ∃ m', m' < m ∧ W (i + 1) m' σ' H') ∧ ∀ x H', J.yld i H x H' → g x σ H' fun σ2 H2 => tb { D with nx := N, ct := N, bk := D.nx } σ2 H2)
def ForL (K : PySem.W.Frag) (g : TG) (tb : TS) (D : Ends) (σ : St) (x : V) (H1 : Hp) : Prop := ∃ a, x = .ref a ∧ (∃ xs, SqL K H1 a xs) ∧ ForW (Itl K a) g tb D σ H1
def ForR1 (g : TG) (tb : TS) (D : Ends) (σ : St) (vs : List V) (H1 : Hp) : Prop := ∃ j : Int, vs = [.int j] ∧ -(2 ^ 62) ≤ j ∧ j < 2 ^ 62 ∧ ForW (Itr 0 j.toNat) g tb D σ H1
def ForR2 (g : TG) (tb : TS) (D : Ends) (σ : St) (vs : List V) (H1 : Hp) : Prop := ∃ i j : Int, vs = [.int i, .int j] ∧ (-(2 ^ 62) ≤ i ∧ i < 2 ^ 62 ∧ -(2 ^ 62) ≤ j ∧ j < 2 ^ 62) ∧ ForW (Itr i (j - i).toNat) g tb D σ H1
def ForR3 (g : TG) (tb : TS) (D : Ends) (σ : St) (vs : List V) (H1 : Hp) : Prop := ∃ (i j c : Int) (n : Nat), vs = [.int i, .int j, .int c] ∧ RgC i j c n ∧ ForW (Itc i c n) g tb D σ H1
def ForZ (K : PySem.W.Frag) (g : TG) (tb : TS) (D : Ends) (σ : St) (vs : List V) (H1 : Hp) : Prop := ∃ a b xs ys, vs = [.ref a, .ref b] ∧
  ((SqL K H1 a xs ∧ SqL K H1 b ys ∧ ForW (Itz K a b) g tb D σ H1) ∨ (SqT K H1 a xs ∧ SqT K H1 b ys ∧ ForW (RZ.ItzT K a b) g tb D σ H1))
section
variable {K : PySem.W.Frag} {g : TG} {tb : TS} {D : Ends} {σ : St} {H H1 : Hp} {tl : TE} {ta : TA}
theorem for_eqL : tFor (iList K tl) g tb D σ H = tl σ H (ForL K g tb D σ) := rfl
theorem for_eqR1 : tFor (iRng1 ta) g tb D σ H = ta σ H (ForR1 g tb D σ) := rfl
theorem for_eqR2 : tFor (iRng2 ta) g tb D σ H = ta σ H (ForR2 g tb D σ) := rfl
theorem for_eqR3 : tFor (iRng3 ta) g tb D σ H = ta σ H (ForR3 g tb D σ) := rfl
theorem for_eqZ : tFor (RZ.iZipA K ta) g tb D σ H = ta σ H (ForZ K g tb D σ) := rfl
theorem forL {a : Addr} {xs : List V} (hS : SqL K H1 a xs) (Pv : Nat → St → Hp → Prop) (h0 : Pv 0 σ H1) (hl : ∀ i σ H, i ≤ xs.length → Pv i σ H → SqL K H a xs)
    (hs : ∀ i x σ H, xs[i]? = some x → Pv i σ H → g x σ H fun σ2 H2 => tb { D with nx := Hold (Pv (i + 1)), ct := Hold (Pv (i + 1)), bk := D.nx } σ2 H2) (hd : ∀ σ H, Pv xs.length σ H → D.nx σ H) : ForL K g tb D σ (.ref a) H1 :=
  ⟨a, rfl, ⟨xs, hS⟩, for_list Pv h0 hl hs hd⟩
theorem forR1 {n : Nat} (Pv : Nat → St → Hp → Prop) (hn : n < 2 ^ 62) (h0 : Pv 0 σ H1)
    (hs : ∀ (i : Nat) σ H, i < n → Pv i σ H → g (.int (i : Int)) σ H fun σ2 H2 => tb { D with nx := Hold (Pv (i + 1)), ct := Hold (Pv (i + 1)), bk := D.nx } σ2 H2) (hd : ∀ σ H, Pv n σ H → D.nx σ H) : ForR1 g tb D σ [.int (n : Int)] H1 := by
  refine ⟨_, rfl, by omega, by omega, ?_⟩
  rw [Int.toNat_natCast]
  exact for_range (lo := 0) (n := n) Pv h0 (fun i σ H hi h => by rw [Int.zero_add]; exact hs i σ H hi h) hd
/-- range(lo, lo + n) -/
theorem forR2 {lo n : Nat} {hi : Int} (e : hi = ((lo + n : Nat) : Int)) (Pv : Nat → St → Hp → Prop) (hn : lo + n < 2 ^ 62) (h0 : Pv 0 σ H1)
    (hs : ∀ (i : Nat) σ H, i < n → Pv i σ H → g (.int ((lo + i : Nat) : Int)) σ H fun σ2 H2 => tb { D with nx := Hold (Pv (i + 1)), ct := Hold (Pv (i + 1)), bk := D.nx } σ2 H2) (hd : ∀ σ H, Pv n σ H → D.nx σ H) : ForR2 g tb D σ [.int (lo : Int), .int hi] H1 := by
  refine ⟨_, _, rfl, by omega, ?_⟩
  rw [show (hi - (lo : Int)).toNat = n by omega]
  exact for_range (lo := (lo : Int)) (n := n) Pv h0 (fun i σ H hi h => by rw [show (lo : Int) + (i : Int) = ((lo + i : Nat) : Int) by omega]; exact hs i σ H hi h) hd
theorem rg4 : ∀ m : Nat, m < 100 → RgC 0 (m : Int) ((4 : Nat) : Int) ((m + 3) / 4) := by
  unfold RgC
  decide +kernel
theorem rg8 : ∀ m : Nat, m < 100 → RgC 0 (m : Int) ((8 : Nat) : Int) ((m + 7) / 8) := by
  unfold RgC
  decide +kernel
theorem forR3 {n c : Nat} {j : Int} (hr : RgC 0 j (c : Int) n) (Pv : Nat → St → Hp → Prop) (h0 : Pv 0 σ H1)
    (hs : ∀ (i : Nat) σ H, i < n → Pv i σ H → g (.int ((i * c : Nat) : Int)) σ H fun σ2 H2 => tb { D with nx := Hold (Pv (i + 1)), ct := Hold (Pv (i + 1)), bk := D.nx } σ2 H2) (hd : ∀ σ H, Pv n σ H → D.nx σ H) : ForR3 g tb D σ [.int 0, .int j, .int (c : Int)] H1 := by
  refine ⟨_, _, _, n, rfl, hr, ?_⟩
  exact for_rangeC (lo := 0) (c := (c : Int)) (n := n) Pv h0 (fun i σ H hi h => by rw [show (0 : Int) + (i : Int) * (c : Int) = ((i * c : Nat) : Int) by rw [Int.zero_add, Int.natCast_mul]]; exact hs i σ H hi h) hd
/-- zip of two lists (any lengths) -/
theorem forZ {a b : Addr} {xs ys : List V} {n : Nat} (en : n = min xs.length ys.length) (hA : SqL K H1 a xs) (hB : SqL K H1 b ys) (Pv : Nat → St → Hp → Prop) (h0 : Pv 0 σ H1) (hq : ∀ i σ H, Pv i σ H → SqL K H a xs ∧ SqL K H b ys)
    (hs : ∀ (i : Nat) (x y : V) (T : Addr) (σ : St) (H H' : Hp), xs[i]? = some x → ys[i]? = some y → Pv i σ H → H T = none → Same H H' → H' T = some (.tup [x, y]) → g (.ref T) σ H' fun σ2 H2 => tb { D with nx := Hold (Pv (i + 1)), ct := Hold (Pv (i + 1)), bk := D.nx } σ2 H2) (hd : ∀ σ H, Pv n σ H → D.nx σ H) :
    ForZ K g tb D σ [.ref a, .ref b] H1 := by
  refine ⟨a, b, xs, ys, rfl, .inl ⟨hA, hB, fun i m σ H => m = n - i ∧ i ≤ n ∧ Pv i σ H, ⟨n, rfl, Nat.zero_le _, h0⟩, ?_⟩⟩
  rintro i m σ H ⟨rfl, hi, p⟩
  obtain ⟨qx, qy⟩ := hq i σ H p
  by_cases hlt : i < n
  · have h1 : i < xs.length := by omega
    have h2 : i < ys.length := by omega
    refine .inr ⟨⟨xs, ys, _, _, qx, qy, List.getElem?_eq_getElem h1, List.getElem?_eq_getElem h2⟩, Pv (i + 1), fun σ' H' p' => ⟨n - (i + 1), by omega, rfl, hlt, p'⟩, fun v H' y => ?_⟩
    obtain ⟨T, x', y', rfl, hT, rfl, f1, f2⟩ := y
    exact hs i x' y' T σ H _ (f1 xs qx) (f2 ys qy) p hT (same_new hT) upd_same
  · have e : i = n := by omega
    subst e
    exact .inl ⟨⟨xs, ys, qx, qy, by omega⟩, hd σ H p⟩
theorem forZT {a b : Addr} {xs ys : List V} {n : Nat} (en : n = min xs.length ys.length) (hA : SqT K H1 a xs) (hB : SqT K H1 b ys) (Pv : Nat → St → Hp → Prop) (h0 : Pv 0 σ H1) (hq : ∀ i σ H, Pv i σ H → SqT K H a xs ∧ SqT K H b ys)
    (hs : ∀ (i : Nat) (x y : V) (T : Addr) (σ : St) (H H' : Hp), xs[i]? = some x → ys[i]? = some y → Pv i σ H → H T = none → Same H H' → H' T = some (.tup [x, y]) → g (.ref T) σ H' fun σ2 H2 => tb { D with nx := Hold (Pv (i + 1)), ct := Hold (Pv (i + 1)), bk := D.nx } σ2 H2) (hd : ∀ σ H, Pv n σ H → D.nx σ H) :
    ForZ K g tb D σ [.ref a, .ref b] H1 := by
  refine ⟨a, b, xs, ys, rfl, .inr ⟨hA, hB, fun i m σ H => m = n - i ∧ i ≤ n ∧ Pv i σ H, ⟨n, rfl, Nat.zero_le _, h0⟩, ?_⟩⟩
  rintro i m σ H ⟨rfl, hi, p⟩
  obtain ⟨qx, qy⟩ := hq i σ H p
  by_cases hlt : i < n
  · have h1 : i < xs.length := by omega
    have h2 : i < ys.length := by omega
    refine .inr ⟨⟨xs, ys, _, _, qx, qy, List.getElem?_eq_getElem h1, List.getElem?_eq_getElem h2⟩, Pv (i + 1), fun σ' H' p' => ⟨n - (i + 1), by omega, rfl, hlt, p'⟩, fun v H' y => ?_⟩
    obtain ⟨T, x', y', rfl, hT, rfl, f1, f2⟩ := y
    exact hs i x' y' T σ H _ (f1 xs qx) (f2 ys qy) p hT (same_new hT) upd_same
  · have e : i = n := by omega
    subst e
    exact .inl ⟨⟨xs, ys, qx, qy, by omega⟩, hd σ H p⟩
end

/-! ### comprehensions -/
def LcW (J : It) (g : TG) (tt : TT) (te : TE) (vs : List Nat) (σ : St) (Q : VK) (H1 : Hp) : Prop := ∀ D, H1 D = none → ∃ W : Nat → Nat → Hp → Prop, (∃ m, W 0 m (upd H1 D (.lst []))) ∧ ∀ i m H, W i m H →
  (J.stop i H ∧ Q (.ref D) H) ∨ (J.go i H ∧ ∃ Nx : Hp → Prop, (∀ H', Nx H' → ∃ m', m' < m ∧ W (i + 1) m' H') ∧ ∀ x H', J.yld i H x H' → g x (wipe σ vs) H' fun σ2 H2 => wipe σ2 vs = wipe σ vs ∧ tt σ2 H2 fun b H3 =>
    if b = true then te σ2 H3 fun y H4 => ∃ acc, H4 D = some (.lst acc) ∧ acc.length < sizeLine ∧ Nx (upd H4 D (.lst (acc ++ [y]))) else Nx H3)
def LcL (K : PySem.W.Frag) (g : TG) (tt : TT) (te : TE) (vs : List Nat) (σ : St) (Q : VK) (x : V) (H1 : Hp) : Prop := ∃ a, x = .ref a ∧ (∃ xs, SqL K H1 a xs) ∧ LcW (Itl K a) g tt te vs σ Q H1
def LcR1 (g : TG) (tt : TT) (te : TE) (vs : List Nat) (σ : St) (Q : VK) (ws : List V) (H1 : Hp) : Prop := ∃ j : Int, ws = [.int j] ∧ -(2 ^ 62) ≤ j ∧ j < 2 ^ 62 ∧ LcW (Itr 0 j.toNat) g tt te vs σ Q H1
def LcZ (K : PySem.W.Frag) (g : TG) (tt : TT) (te : TE) (vs : List Nat) (σ : St) (Q : VK) (ws : List V) (H1 : Hp) : Prop := ∃ a b xs ys, ws = [.ref a, .ref b] ∧
  ((SqL K H1 a xs ∧ SqL K H1 b ys ∧ LcW (Itz K a b) g tt te vs σ Q H1) ∨ (SqT K H1 a xs ∧ SqT K H1 b ys ∧ LcW (RZ.ItzT K a b) g tt te vs σ Q H1))
section
variable {K : PySem.W.Frag} {g : TG} {tt : TT} {te : TE} {vs : List Nat} {σ : St} {H H1 : Hp} {tl : TE} {ta : TA} {Q : VK} {J : It}
theorem lc_eqL : tLc (iList K tl) g tt te vs σ H Q = tl σ H (LcL K g tt te vs σ Q) := rfl
theorem lc_eqR1 : tLc (iRng1 ta) g tt te vs σ H Q = ta σ H (LcR1 g tt te vs σ Q) := rfl
theorem lc_eqZ : tLc (RZ.iZipA K ta) g tt te vs σ H Q = ta σ H (LcZ K g tt te vs σ Q) := rfl
theorem fm_succ {α : Type} (F : Nat → Option α) (i : Nat) : (List.range (i + 1)).filterMap F = (List.range i).filterMap F ++ (F i).toList := by
  rw [List.range_succ, List.filterMap_append]
  cases h : F i with
  | none => simp [h]
  | some y => simp [h]
theorem fm_len {α : Type} (F : Nat → Option α) (i : Nat) : ((List.range i).filterMap F).length ≤ i :=
  Nat.le_trans (List.length_filterMap_le _ _) (by rw [List.length_range]; exact Nat.le_refl _)
/-- n items; item i gives F i, told by itself (numbers, things that stood), or is left out; what is made on the way stays -/
theorem lc_pure {n : Nat} (F : Nat → Option V) (hn : n < sizeLine) (hstop : ∀ H, Same H1 H → J.stop n H) (hgo : ∀ i H, i < n → Same H1 H → J.go i H)
    (turn : ∀ (i : Nat) (x : V) (H H' : Hp), i < n → Same H1 H → J.yld i H x H' → ∀ R : V → Hp → Prop, (∀ y H4, F i = some y → Same H H4 → R y H4) → ∀ R2 : Hp → Prop, (∀ H3, F i = none → Same H H3 → R2 H3) →
      g x (wipe σ vs) H' fun σ2 H2 => wipe σ2 vs = wipe σ vs ∧ tt σ2 H2 fun b H3 => if b = true then te σ2 H3 R else R2 H3)
    (q : ∀ p H', H1 p = none → Same H1 H' → H' p = some (.lst ((List.range n).filterMap F)) → Q (.ref p) H') : LcW J g tt te vs σ Q H1 := by
  intro D hD
  refine ⟨fun i m H => m = n - i ∧ i ≤ n ∧ Same H1 H ∧ H D = some (.lst ((List.range i).filterMap F)), ⟨n, rfl, Nat.zero_le _, same_new hD, upd_same⟩, ?_⟩
  rintro i m H ⟨rfl, hi, s, hd⟩
  by_cases hlt : i < n
  · refine .inr ⟨hgo i H hlt s, fun H' => Same H1 H' ∧ H' D = some (.lst ((List.range (i + 1)).filterMap F)), fun H' h' => ⟨n - (i + 1), by omega, rfl, hlt, h'.1, h'.2⟩, fun x H' hy => ?_⟩
    refine turn i x H H' hlt s hy _ (fun y H4 e s4 => ?_) _ (fun H3 e s3 => ?_)
    · refine ⟨_, s4 _ _ hd, Nat.lt_of_le_of_lt (fm_len F i) (by omega), same_upd (s.trans s4) hD, ?_⟩
      rw [upd_same, fm_succ, e]
      rfl
    · refine ⟨s.trans s3, ?_⟩
      rw [fm_succ, e, s3 _ _ hd]
      simp
  · have e : i = n := by omega
    subst e
    exact .inl ⟨hstop H s, q D H hD s hd⟩
/-- n items, each gives a new object: its content by Ob -/
theorem lc_new {n : Nat} (Ob : Nat → HO → Prop) (hn : n < sizeLine) (hstop : ∀ H, Same H1 H → J.stop n H) (hgo : ∀ i H, i < n → Same H1 H → J.go i H)
    (turn : ∀ (i : Nat) (x : V) (H H' : Hp), i < n → Same H1 H → J.yld i H x H' → ∀ R : V → Hp → Prop, (∀ p o H4, H p = none → H4 p = some o → Ob i o → Same H H4 → R (.ref p) H4) → ∀ R2 : Hp → Prop,
      g x (wipe σ vs) H' fun σ2 H2 => wipe σ2 vs = wipe σ vs ∧ tt σ2 H2 fun b H3 => if b = true then te σ2 H3 R else R2 H3)
    (q : ∀ p H' (as : List Addr), H1 p = none → Same H1 H' → H' p = some (.lst (as.map V.ref)) → as.length = n → as.Nodup → p ∉ as → (∀ i a, as[i]? = some a → H1 a = none ∧ ∃ o, H' a = some o ∧ Ob i o) → Q (.ref p) H') : LcW J g tt te vs σ Q H1 := by
  intro D hD
  refine ⟨fun i m H => m = n - i ∧ i ≤ n ∧ Same H1 H ∧ ∃ as : List Addr, H D = some (.lst (as.map V.ref)) ∧ as.length = i ∧ as.Nodup ∧ D ∉ as ∧ ∀ j a, as[j]? = some a → H1 a = none ∧ ∃ o, H a = some o ∧ Ob j o,
    ⟨n, rfl, Nat.zero_le _, same_new hD, [], upd_same, rfl, List.nodup_nil, by simp, fun j a e => by simp at e⟩, ?_⟩
  rintro i m H ⟨rfl, hi, s, as, hd, hl, hnd, hna, hob⟩
  by_cases hlt : i < n
  · refine .inr ⟨hgo i H hlt s, fun H' => Same H1 H' ∧ ∃ as : List Addr, H' D = some (.lst (as.map V.ref)) ∧ as.length = i + 1 ∧ as.Nodup ∧ D ∉ as ∧ ∀ j a, as[j]? = some a → H1 a = none ∧ ∃ o, H' a = some o ∧ Ob j o,
      fun H' h' => ⟨n - (i + 1), by omega, rfl, hlt, h'.1, h'.2⟩, fun x H' hy => ?_⟩
    refine turn i x H H' hlt s hy _ (fun p o H4 hp ho hb s4 => ?_) _
    have pD : p ≠ D := (ne_of_none hd hp).symm
    have pas : p ∉ as := fun hm => by
      obtain ⟨j, hj⟩ := List.getElem?_of_mem hm
      obtain ⟨_, o', h', _⟩ := hob j p hj
      rw [hp] at h'
      cases h'
    refine ⟨_, s4 _ _ hd, by rw [List.length_map]; omega, same_upd (s.trans s4) hD, as ++ [p], by rw [upd_same, List.map_append]; rfl, by simp [hl], ?_, by simp [hna, pD.symm], fun j a e => ?_⟩
    · rw [List.nodup_append]
      exact ⟨hnd, by simp, fun x hx y hy => by simp at hy; rw [hy]; exact fun e => pas (e ▸ hx)⟩
    · by_cases hj : j < as.length
      · rw [List.getElem?_append_left hj] at e
        obtain ⟨h1, o', h2, h3⟩ := hob j a e
        refine ⟨h1, o', ?_, h3⟩
        have ne : a ≠ D := fun e' => hna (by rw [← e']; exact List.mem_of_getElem? e)
        rw [upd_ne ne]
        exact s4 _ _ h2
      · rw [List.getElem?_append_right (by omega)] at e
        have ej : j = i := by
          have := (List.getElem?_eq_some_iff.mp e).1
          simp at this
          omega
        subst ej
        rw [hl, Nat.sub_self] at e
        have ea : p = a := Option.some.inj e
        subst ea
        exact ⟨s.free hp, o, by rw [upd_ne pD]; exact ho, hb⟩
  · have e : i = n := by omega
    subst e
    exact .inl ⟨hstop H s, q D H as hD s hd hl hnd hna hob⟩
/-- over a list -/
theorem lcL_of {a : Addr} {xs : List V} (hS : SqL K H1 a xs) (h : (∀ H, Same H1 H → (Itl K a).stop xs.length H) → (∀ i H, i < xs.length → Same H1 H → (Itl K a).go i H) →
      (∀ i x H H', Same H1 H → (Itl K a).yld i H x H' → H' = H ∧ xs[i]? = some x) → LcW (Itl K a) g tt te vs σ Q H1) : LcL K g tt te vs σ Q (.ref a) H1 :=
  ⟨a, rfl, ⟨xs, hS⟩, h (fun H s => ⟨xs, s.seq hS, Nat.le_refl _⟩) (fun i H hi s => ⟨xs, _, s.seq hS, List.getElem?_eq_getElem hi⟩) fun i x H H' s y => ⟨y.1, y.2 xs (s.seq hS)⟩⟩
theorem lcL {a : Addr} {xs : List V} (hS : SqL K H1 a xs) (F : Nat → Option V) (hn : xs.length ≤ 1000)
    (turn : ∀ (i : Nat) (x : V) (H : Hp), xs[i]? = some x → Same H1 H → ∀ R : V → Hp → Prop, (∀ y H4, F i = some y → Same H H4 → R y H4) → ∀ R2 : Hp → Prop, (∀ H3, F i = none → Same H H3 → R2 H3) →
      g x (wipe σ vs) H fun σ2 H2 => wipe σ2 vs = wipe σ vs ∧ tt σ2 H2 fun b H3 => if b = true then te σ2 H3 R else R2 H3)
    (q : ∀ p H', H1 p = none → Same H1 H' → H' p = some (.lst ((List.range xs.length).filterMap F)) → Q (.ref p) H') : LcL K g tt te vs σ Q (.ref a) H1 :=
  lcL_of hS fun h1 h2 h3 => lc_pure F (Nat.lt_of_le_of_lt hn (by decide)) h1 h2 (fun i x H H' hi s y R hR R2 hR2 => by
    obtain ⟨rfl, e⟩ := h3 i x H H' s y
    exact turn i x _ e s R hR R2 hR2) q
theorem lcLn {a : Addr} {xs : List V} (hS : SqL K H1 a xs) (Ob : Nat → HO → Prop) (hn : xs.length ≤ 1000)
    (turn : ∀ (i : Nat) (x : V) (H : Hp), xs[i]? = some x → Same H1 H → ∀ R : V → Hp → Prop, (∀ p o H4, H p = none → H4 p = some o → Ob i o → Same H H4 → R (.ref p) H4) → ∀ R2 : Hp → Prop,
      g x (wipe σ vs) H fun σ2 H2 => wipe σ2 vs = wipe σ vs ∧ tt σ2 H2 fun b H3 => if b = true then te σ2 H3 R else R2 H3)
    (q : ∀ p H' (as : List Addr), H1 p = none → Same H1 H' → H' p = some (.lst (as.map V.ref)) → as.length = xs.length → as.Nodup → p ∉ as → (∀ i a, as[i]? = some a → H1 a = none ∧ ∃ o, H' a = some o ∧ Ob i o) → Q (.ref p) H') : LcL K g tt te vs σ Q (.ref a) H1 :=
  lcL_of hS fun h1 h2 h3 => lc_new Ob (Nat.lt_of_le_of_lt hn (by decide)) h1 h2 (fun i x H H' hi s y R hR R2 => by
    obtain ⟨rfl, e⟩ := h3 i x H H' s y
    exact turn i x _ e s R hR R2) q
theorem fm_map {α : Type} (f : V → α) (xs : List V) : (List.range xs.length).filterMap (fun i => (xs[i]?).map f) = xs.map f := by
  apply List.ext_getElem?
  intro i
  have : ∀ n, n ≤ xs.length → (List.range n).filterMap (fun i => (xs[i]?).map f) = (xs.take n).map f := by
    intro n
    induction n with
    | zero => intro _; rfl
    | succ n ih =>
      intro h
      rw [fm_succ, ih (by omega), List.take_add_one, List.map_append]
      cases h : xs[n]? <;> rfl
  rw [this _ (Nat.le_refl _), List.take_length]
/-- [f x for x in xs], nothing made -/
theorem lcMap {a : Addr} {xs : List V} (hS : SqL K H1 a xs) (f : V → V)
    (turn : ∀ (x : V) (H : Hp), x ∈ xs → Same H1 H → ∀ R : V → Hp → Prop, (∀ H4, Same H H4 → R (f x) H4) → ∀ R2 : Hp → Prop,
      g x (wipe σ vs) H fun σ2 H2 => wipe σ2 vs = wipe σ vs ∧ tt σ2 H2 fun b H3 => if b = true then te σ2 H3 R else R2 H3)
    (q : ∀ p H', H1 p = none → Same H1 H' → H' p = some (.lst (xs.map f)) → Q (.ref p) H') (hn : xs.length ≤ 1000 := by simp) : LcL K g tt te vs σ Q (.ref a) H1 :=
  lcL hS (fun i => (xs[i]?).map f) hn (fun i x H hx s R hR R2 hR2 => turn x H (List.mem_of_getElem? hx) s R (fun H4 s4 => hR _ H4 (by rw [hx]; rfl) s4) R2) fun p H' hp s h => q p H' hp s (by rw [fm_map] at h; exact h)
/-- [x for x in xs if c x], nothing made -/
theorem fm_filter (c : V → Bool) (xs : List V) : (List.range xs.length).filterMap (fun i => (xs[i]?).bind fun x => if c x then some x else none) = xs.filter c := by
  have : ∀ n, n ≤ xs.length → (List.range n).filterMap (fun i => (xs[i]?).bind fun x => if c x then some x else none) = (xs.take n).filter c := by
    intro n
    induction n with
    | zero => intro _; rfl
    | succ n ih =>
      intro h
      rw [fm_succ, ih (by omega), List.take_add_one, List.filter_append]
      cases h : xs[n]? with
      | none => rfl
      | some x =>
        cases h2 : c x <;> simp [h2]
  rw [this _ (Nat.le_refl _), List.take_length]
theorem lcFilter {a : Addr} {xs : List V} (hS : SqL K H1 a xs) (c : V → Bool)
    (turn : ∀ (x : V) (H : Hp), x ∈ xs → Same H1 H → ∀ R : V → Hp → Prop, (∀ H4, c x = true → Same H H4 → R x H4) → ∀ R2 : Hp → Prop, (∀ H4, c x = false → Same H H4 → R2 H4) →
      g x (wipe σ vs) H fun σ2 H2 => wipe σ2 vs = wipe σ vs ∧ tt σ2 H2 fun b H3 => if b = true then te σ2 H3 R else R2 H3)
    (q : ∀ p H', H1 p = none → Same H1 H' → H' p = some (.lst (xs.filter c)) → Q (.ref p) H') (hn : xs.length ≤ 1000 := by simp) : LcL K g tt te vs σ Q (.ref a) H1 :=
  lcL hS (fun i => (xs[i]?).bind fun x => if c x then some x else none) hn (fun i x H hx s R hR R2 hR2 => turn x H (List.mem_of_getElem? hx) s R
    (fun H4 hc s4 => hR _ H4 (by rw [hx]; show (if c x then some x else none) = some x; rw [hc]; rfl) s4) R2
    (fun H4 hc s4 => hR2 H4 (by rw [hx]; show (if c x then some x else none) = none; rw [hc]; rfl) s4)) fun p H' hp s h => q p H' hp s (by rw [fm_filter] at h; exact h)
/-- over range(n) -/
theorem lcR1 {n : Nat} (F : Nat → Option V) (hn : n < 1000000)
    (turn : ∀ (i : Nat) (H : Hp), i < n → Same H1 H → ∀ R : V → Hp → Prop, (∀ y H4, F i = some y → Same H H4 → R y H4) → ∀ R2 : Hp → Prop, (∀ H3, F i = none → Same H H3 → R2 H3) →
      g (.int (i : Int)) (wipe σ vs) H fun σ2 H2 => wipe σ2 vs = wipe σ vs ∧ tt σ2 H2 fun b H3 => if b = true then te σ2 H3 R else R2 H3)
    (q : ∀ p H', H1 p = none → Same H1 H' → H' p = some (.lst ((List.range n).filterMap F)) → Q (.ref p) H') : LcR1 g tt te vs σ Q [.int (n : Int)] H1 := by
  refine ⟨_, rfl, by omega, by omega, ?_⟩
  rw [Int.toNat_natCast]
  exact lc_pure F (Nat.lt_of_lt_of_le hn (by decide)) (fun H s => Nat.le_refl n) (fun i H hi s => hi) (fun i x H H' hi s y R hR R2 hR2 => by
    obtain ⟨rfl, rfl⟩ := y
    rw [Int.zero_add]
    exact turn i _ hi s R hR R2 hR2) q
theorem lcR1n {n : Nat} (Ob : Nat → HO → Prop) (hn : n < 1000000)
    (turn : ∀ (i : Nat) (H : Hp), i < n → Same H1 H → ∀ R : V → Hp → Prop, (∀ p o H4, H p = none → H4 p = some o → Ob i o → Same H H4 → R (.ref p) H4) → ∀ R2 : Hp → Prop,
      g (.int (i : Int)) (wipe σ vs) H fun σ2 H2 => wipe σ2 vs = wipe σ vs ∧ tt σ2 H2 fun b H3 => if b = true then te σ2 H3 R else R2 H3)
    (q : ∀ p H' (as : List Addr), H1 p = none → Same H1 H' → H' p = some (.lst (as.map V.ref)) → as.length = n → as.Nodup → p ∉ as → (∀ i a, as[i]? = some a → H1 a = none ∧ ∃ o, H' a = some o ∧ Ob i o) → Q (.ref p) H') : LcR1 g tt te vs σ Q [.int (n : Int)] H1 := by
  refine ⟨_, rfl, by omega, by omega, ?_⟩
  rw [Int.toNat_natCast]
  exact lc_new Ob (Nat.lt_of_lt_of_le hn (by decide)) (fun H s => Nat.le_refl n) (fun i H hi s => hi) (fun i x H H' hi s y R hR R2 => by
    obtain ⟨rfl, rfl⟩ := y
    rw [Int.zero_add]
    exact turn i _ hi s R hR R2) q
end

/-! ### new lists and tuples, by what follows -/
def LstQ (Q : VK) (xs : List V) (H : Hp) : Prop := xs.length ≤ sizeLine ∧ ∀ p, H p = none → Q (.ref p) (upd H p (.lst xs))
def TupQ (Q : VK) (xs : List V) (H : Hp) : Prop := xs.length ≤ sizeLine ∧ ∀ p, H p = none → Q (.ref p) (upd H p (.tup xs))
section
variable {K : PySem.W.Frag} {σ : St} {H : Hp} {ta : TA} {Q : VK} {xs ys : List V} {a b : Addr}
theorem lst_eq : tLst ta σ H Q = ta σ H (LstQ Q) := rfl
theorem tup_eq : tTup ta σ H Q = ta σ H (TupQ Q) := rfl
theorem sz1000 {n : Nat} (h : n ≤ 1000) : n ≤ sizeLine := Nat.le_trans h (by decide)
theorem lstQ (h : ∀ p H1, H p = none → Same H H1 → H1 p = some (.lst xs) → Q (.ref p) H1) (hl : xs.length ≤ 1000 := by simp) : LstQ Q xs H :=
  ⟨sz1000 hl, fun p hp => h p _ hp (same_new hp) upd_same⟩
theorem tupQ (h : ∀ p H1, H p = none → Same H H1 → H1 p = some (.tup xs) → Q (.ref p) H1) (hl : xs.length ≤ 1000 := by simp) : TupQ Q xs H :=
  ⟨sz1000 hl, fun p hp => h p _ hp (same_new hp) upd_same⟩
theorem len_l (h : SqL K H a xs) (q : Q (.int xs.length) H) : rLen K [.ref a] H Q := ⟨a, xs, rfl, .inl h, q⟩
theorem len_t (h : SqT K H a xs) (q : Q (.int xs.length) H) : rLen K [.ref a] H Q := ⟨a, xs, rfl, .inr h, q⟩
theorem len_l' (h : H a = some (.lst xs)) (q : Q (.int xs.length) H) : rLen K [.ref a] H Q := ⟨a, xs, rfl, .inl (.of h), q⟩
theorem len_t' (h : H a = some (.tup xs)) (q : Q (.int xs.length) H) : rLen K [.ref a] H Q := ⟨a, xs, rfl, .inr (.of h), q⟩
theorem listOf (h : SqL K H a xs) (q : ∀ p H1, H p = none → Same H H1 → H1 p = some (.lst xs) → Q (.ref p) H1) : rListOf K [.ref a] H Q :=
  ⟨a, xs, rfl, .inl h, fun p hp => q p _ hp (same_new hp) upd_same⟩
theorem listOfT (h : SqT K H a xs) (q : ∀ p H1, H p = none → Same H H1 → H1 p = some (.lst xs) → Q (.ref p) H1) : rListOf K [.ref a] H Q :=
  ⟨a, xs, rfl, .inr h, fun p hp => q p _ hp (same_new hp) upd_same⟩
theorem max2 {i j : Int} (q : Q (.int (if j > i then j else i)) H) : rMax2 [.int i, .int j] H Q := ⟨i, j, rfl, q⟩
/-- xs + ys -/
theorem cat_l (h : H a = some (.lst xs)) (h' : H b = some (.lst ys)) (hl : xs.length + ys.length ≤ 1000) (q : ∀ p H1, H p = none → Same H H1 → H1 p = some (.lst (xs ++ ys)) → Q (.ref p) H1) : rPlus (.ref a) (.ref b) H Q :=
  .inr ⟨a, b, xs, ys, rfl, rfl, h, h', sz1000 hl, fun p hp => q p _ hp (same_new hp) upd_same⟩
/-- xs[lo:hi] -/
theorem sl_l {lo hi : Option Int} (h : SqL K H a xs) (q : ∀ p H1, H p = none → Same H H1 → H1 p = some (.lst (cutV xs lo hi)) → Q (.ref p) H1) : rSlA K (.ref a) lo hi H Q :=
  .inl ⟨a, xs, rfl, h, fun p hp => q p _ hp (same_new hp) upd_same⟩
/-- xs.append(y), pop(), pop(i), insert, extend on a list that H0 does not know -/
theorem append_r {H0 : Hp} {y : V} (s : Same H0 H) (h0 : H0 a = none) (h : H a = some (.lst xs)) (hl : xs.length ≤ 1000) (q : ∀ H1, Same H0 H1 → H1 a = some (.lst (xs ++ [y])) → (∀ b, b ≠ a → H1 b = H b) → Q .non H1) :
    rAppend (.ref a) [y] H Q := ⟨a, xs, y, rfl, rfl, h, Nat.lt_of_le_of_lt hl (by decide), q _ (same_upd s h0) upd_same fun _ n => upd_ne n⟩
theorem ty_l (h : H a = some (.lst xs)) : tyV K "list" (.ref a) H := .inl ⟨rfl, _, .of h⟩
end
section
variable {K : PySem.W.Frag} {H : Hp} {a : Addr} {xs : List V} {Q : VK}
theorem pop_r {H0 : Hp} {y : V} (s : Same H0 H) (h0 : H0 a = none) (h : H a = some (.lst (xs ++ [y]))) (q : ∀ H1, Same H0 H1 → H1 a = some (.lst xs) → (∀ b, b ≠ a → H1 b = H b) → Q y H1) : rPop (.ref a) [] H Q := by
  refine ⟨a, xs ++ [y], y, rfl, rfl, h, by simp, ?_⟩
  rw [List.dropLast_concat]
  exact q _ (same_upd s h0) upd_same fun _ n => upd_ne n
theorem popAt_r {H0 : Hp} {y : V} {i : Nat} (s : Same H0 H) (h0 : H0 a = none) (h : H a = some (.lst xs)) (hi : xs[i]? = some y) (hb : i < 1000000) (q : ∀ H1, Same H0 H1 → H1 a = some (.lst (xs.eraseIdx i)) → (∀ b, b ≠ a → H1 b = H b) → Q y H1) : rPopAt (.ref a) [.int (i : Int)] H Q := by
  refine ⟨a, xs, (i : Int), i, y, rfl, rfl, h, by omega, by omega, ?_, hi, q _ (same_upd s h0) upd_same fun _ n => upd_ne n⟩
  have hl := (List.getElem?_eq_some_iff.mp hi).1
  exact (ixN_seq (n := xs.length) (i := (i : Int)) (j := i) (by unfold ixN; rw [if_pos (by omega), if_pos (by omega)]; rfl)).1
theorem insert_r {H0 : Hp} {y : V} {i : Nat} (s : Same H0 H) (h0 : H0 a = none) (h : H a = some (.lst xs)) (hl : xs.length ≤ 1000) (hb : i < 1000000) (q : ∀ H1, Same H0 H1 → H1 a = some (.lst (xs.take i ++ [y] ++ xs.drop i)) → (∀ b, b ≠ a → H1 b = H b) → Q .non H1) : rInsert (.ref a) [.int (i : Int), y] H Q :=
  ⟨a, xs, (i : Int), y, rfl, rfl, h, Nat.lt_of_le_of_lt hl (by decide), by omega, by omega, q _ (same_upd s h0) upd_same fun _ n => upd_ne n⟩
theorem extend_r {H0 : Hp} {b : Addr} {ys : List V} (s : Same H0 H) (h0 : H0 a = none) (h : H a = some (.lst xs)) (h' : H b = some (.lst ys)) (hl : xs.length + ys.length ≤ 100000) (q : ∀ H1, Same H0 H1 → H1 a = some (.lst (xs ++ ys)) → (∀ b, b ≠ a → H1 b = H b) → Q .non H1) : rExtend (.ref a) [.ref b] H Q :=
  ⟨a, b, xs, ys, rfl, rfl, h, h', Nat.le_trans hl (by decide), q _ (same_upd s h0) upd_same fun _ n => upd_ne n⟩
/-- xs[i] = v -/
theorem set_r {H0 : Hp} {v : V} {i : Nat} {Q : Hp → Prop} (s : Same H0 H) (h0 : H0 a = none) (h : H a = some (.lst xs)) (hi : i < xs.length) (q : ∀ H1, Same H0 H1 → H1 a = some (.lst (xs.set i v)) → (∀ b, b ≠ a → H1 b = H b) → Q H1) : rSetL (.ref a) (.int (i : Int)) v H Q :=
  ⟨a, xs, (i : Int), i, rfl, rfl, h, by unfold ixN; rw [if_pos (by omega), if_pos (by omega)]; rfl, q _ (same_upd s h0) upd_same fun _ n => upd_ne n⟩
end

/-! ### a statement and the rest, with a word between -/
def tCut (t u : TS) : TS := fun D σ H => ∃ R : St → Hp → Prop, t { D with nx := R } σ H ∧ ∀ σ' H', R σ' H' → u D σ' H'
theorem pss_cutR {X : Cx} {st : Stmt} {rest : List Stmt} {t u : TS} (h1 : PS X st t) (h2 : PSs X rest u) : PSs X (st :: rest) (tCut t u) := by
  refine ⟨fun pins s σ H D I h => ?_⟩
  obtain ⟨R, hr, k⟩ := h
  refine wpAny_execs_cons (thn (h1.run pins s σ H { D with nx := R } I hr) fun f s1 q => ?_)
  cases f with
  | next =>
    obtain ⟨σ', H', I', q⟩ := q
    exact h2.run pins s1 σ' H' D I' (k σ' H' q)
  | ret v => exact q
  | brk => exact q
  | cont => exact q
theorem cut {t u : TS} {D : Ends} {σ : St} {H : Hp} (R : St → Hp → Prop) (h1 : t { D with nx := Hold R } σ H) (h2 : ∀ σ' H', R σ' H' → u D σ' H') : tCut t u D σ H := ⟨R, h1, h2⟩

/-! ### a, b = a tuple, a list -/
section
variable {K : PySem.W.Frag} {H : Hp} {a : Addr} {x y z : V} {g1 g2 g3 : TG} {σ : St} {Q : St → Hp → Prop}
theorem gtup2 (h : H a = some (.tup [x, y])) (q : g1 x σ H fun σ' H' => g2 y σ' H' Q) : gTup K 2 (gCons g1 (gCons g2 gNil)) (.ref a) σ H Q := by
  refine ⟨a, _, rfl, .of h, rfl, ?_⟩
  refine ⟨x, [y], rfl, ?_⟩
  have e : ∀ σ' H', g2 y σ' H' Q = gCons g2 gNil [y] σ' H' Q := fun σ' H' => propext ⟨fun h => ⟨y, [], rfl, by
    have : (fun σ' H' => gNil [] σ' H' Q) = Q := by funext σ H; exact propext ⟨fun h => h.2, fun h => ⟨rfl, h⟩⟩
    rw [this]; exact h⟩, fun ⟨v, r, e, h⟩ => by
    cases e
    have : (fun σ' H' => gNil [] σ' H' Q) = Q := by funext σ H; exact propext ⟨fun h => h.2, fun h => ⟨rfl, h⟩⟩
    rw [this] at h; exact h⟩
  have e2 : (fun σ' H' => g2 y σ' H' Q) = fun σ' H' => gCons g2 gNil [y] σ' H' Q := by funext σ' H'; exact e σ' H'
  rw [e2] at q
  exact q
theorem glst2 (h : H a = some (.lst [x, y])) (q : g1 x σ H fun σ' H' => g2 y σ' H' Q) : gLst K 2 (gCons g1 (gCons g2 gNil)) (.ref a) σ H Q := by
  refine ⟨a, _, rfl, .of h, rfl, ?_⟩
  refine ⟨x, [y], rfl, ?_⟩
  have e : ∀ σ' H', g2 y σ' H' Q = gCons g2 gNil [y] σ' H' Q := fun σ' H' => propext ⟨fun h => ⟨y, [], rfl, by
    have : (fun σ' H' => gNil [] σ' H' Q) = Q := by funext σ H; exact propext ⟨fun h => h.2, fun h => ⟨rfl, h⟩⟩
    rw [this]; exact h⟩, fun ⟨v, r, e, h⟩ => by
    cases e
    have : (fun σ' H' => gNil [] σ' H' Q) = Q := by funext σ H; exact propext ⟨fun h => h.2, fun h => ⟨rfl, h⟩⟩
    rw [this] at h; exact h⟩
  have e2 : (fun σ' H' => g2 y σ' H' Q) = fun σ' H' => gCons g2 gNil [y] σ' H' Q := by funext σ' H'; exact e σ' H'
  rw [e2] at q
  exact q
/-- three names -/
theorem gtup3 {i j k : Nat} (h : H a = some (.tup [x, y, z])) (q : Q (((σ.set i (some x)).set j (some y)).set k (some z)) H) : gTup K 3 (gCons (gName i) (gCons (gName j) (gCons (gName k) gNil))) (.ref a) σ H Q :=
  ⟨a, _, rfl, .of h, rfl, x, [y, z], rfl, y, [z], rfl, z, [], rfl, rfl, q⟩
end
end Pb

open PySem PySem.Spec L2
/-! the readings opened: «rd»; items of known tuples and lists: «go» -/
local macro_rules | `(tactic| walk_at "rd") => `(tactic| simp (config := { failIfUnchanged := false }) only [tSeq, tAsg, tDrop, tRet, tRetN, tIfS, tNext, tTest, tB, tNot, tAnd, tOr, tAndV, tOrV, tNotV, tOp, tUn, tC, tVar, tNil, tCons, tCB, tCall, tCallS, tMeth, gName, gSub, tBM, tBM0, Pb.lst_eq, Pb.tup_eq, tSl, tPart, tNoPart, tChain, tIf, Pb.for_eqL, Pb.for_eqR1, Pb.for_eqR2, Pb.for_eqR3, Pb.for_eqZ, tYes, Pb.lc_eqL, Pb.lc_eqR1, Pb.lc_eqZ, wipe, Pb.band_nat, Pb.bor_nat, eq_self, ite_true, if_true, decide_true, decide_false, Bool.not_true, Bool.not_false, Bool.false_eq_true, ite_false, if_false, Int.reduceToNat, Int.reducePow, Int.reduceLT, Int.reduceSub, Int.reduceAdd, Int.reduceMul, Int.reduceNeg, Pb.cd_2, Pb.cd_3, Pb.cd_4, Pb.cd_6, Pb.cd_7, Pb.cd_8, Pb.cd_9, Pb.cd_10, Pb.cd_24, Pb.cd_36, Pb.cd_48, Pb.cd_56, Pb.cd_60, Pb.cd_61, Pb.cd_180, Pb.cd_183, Pb.cd_540, Pb.cd_3600, Pb.cd_1152921504606846976, Pb.cm_2, Pb.cn_2, Pb.cm_3, Pb.cn_3, Pb.cm_175, Pb.cn_175, Pb.cm_48271, Pb.cn_48271, Pb.cm_2147483647, Pb.cn_2147483647, Pb.cp_2_60, Pb.cp_2_61, Pb.cp_10_60, Pb.cp_10_59, Pb.cp_10_50, Pb.cp_10_30, Pb.cp_10_7, Pb.plus_int, Pb.ri0_int, Pb.ri_int, Pb.ru_int, Pb.eqA_int, Pb.neA_int, Pb.eqA_bl, Pb.neA_bl,
  L2.start, List.map_cons, List.map_nil, List.length_cons, List.length_nil, List.replicate, List.cons_append, List.nil_append, List.set_cons_zero, List.set_cons_succ, List.getElem?_cons_zero, List.getElem?_cons_succ, Nat.reduceAdd, Nat.reduceSub, Option.some.injEq, V.int.injEq, V.ref.injEq, V.bl.injEq, V.str.injEq, V.ty.injEq, List.cons.injEq, and_true, true_and, reduceCtorEq, false_and, and_false, false_or, or_false, exists_eq_left', exists_eq_left, exists_false])
local macro_rules | `(tactic| walk_at "go") => `(tactic| (walk_at "rd"; repeat (first | refine Pb.ix_t' (by assumption) (by rfl) ?_ | refine Pb.ix_l' (by assumption) (by rfl) ?_ | refine Pb.ix_l (by assumption) (by rfl) ?_ | refine Pb.len_l' (by assumption) ?_ | refine Pb.gtup2 (by assumption) ?_ | refine Pb.glst2 (by assumption) ?_ | refine Pb.gtup3 (by assumption) ?_ | refine Pb.isi_bl ?_ | refine Pb.isi_int ?_ | refine Pb.isi_intb ?_ | refine Pb.isi_tup (by assumption) ?_ | refine Pb.isi_lst (by assumption) ?_); walk_at "rd"))
namespace Pb
/-! ### deeds -/
/-- a deed: its name, the boxes looked at, the boxes changed -/
structure Dd where
  n : Int
  l : Nat
  c : Nat
  deriving DecidableEq
abbrev Dd.vs (d : Dd) : List V := [.int d.n, .int (d.l : Int), .int (d.c : Int)]
/-- at a stands the tuple of the deed d -/
abbrev TD (H : Hp) (a : Addr) (d : Dd) : Prop := H a = some (.tup [.int d.n, .int (d.l : Int), .int (d.c : Int)])
def clash (d e : Dd) : Bool := (d.c &&& (e.l ||| e.c) != 0) || (e.c &&& d.l != 0)
theorem clash_bit {d e : Dd} : clash d e = true ↔ ∃ j : Nat, (d.c.testBit j = true ∧ (e.l.testBit j = true ∨ e.c.testBit j = true)) ∨ (e.c.testBit j = true ∧ d.l.testBit j = true) := by
  have key : ∀ x y : Nat, (x &&& y != 0) = true ↔ ∃ j, x.testBit j = true ∧ y.testBit j = true := by
    intro x y
    rw [bne_iff_ne]
    constructor
    · intro h
      obtain ⟨j, hj⟩ := Nat.exists_testBit_of_ne_zero h
      rw [Nat.testBit_and, Bool.and_eq_true] at hj
      exact ⟨j, hj⟩
    · rintro ⟨j, h1, h2⟩ h
      have e : (x &&& y).testBit j = true := by rw [Nat.testBit_and, h1, h2]; rfl
      rw [h, Nat.zero_testBit] at e
      cases e
  unfold clash
  rw [Bool.or_eq_true, key, key]
  constructor
  · rintro (⟨j, h1, h2⟩ | ⟨j, h⟩)
    · rw [Nat.testBit_or, Bool.or_eq_true] at h2
      exact ⟨j, .inl ⟨h1, h2⟩⟩
    · exact ⟨j, .inr h⟩
  · rintro ⟨j, ⟨h1, h2⟩ | h⟩
    · refine .inl ⟨j, h1, ?_⟩
      rw [Nat.testBit_or, Bool.or_eq_true]
      exact h2
    · exact .inr ⟨j, h⟩
theorem clash_comm (d e : Dd) : clash d e = clash e d := by
  have h : clash d e = true ↔ clash e d = true := by
    rw [clash_bit, clash_bit]
    constructor <;> (rintro ⟨j, h⟩; refine ⟨j, ?_⟩; rcases h with ⟨h1, h2 | h2⟩ | ⟨h1, h2⟩)
    · exact .inr ⟨h1, h2⟩
    · exact .inl ⟨h2, .inr h1⟩
    · exact .inl ⟨h1, .inl h2⟩
    · exact .inr ⟨h1, h2⟩
    · exact .inl ⟨h2, .inr h1⟩
    · exact .inl ⟨h1, .inl h2⟩
  cases h1 : clash d e <;> cases h2 : clash e d <;> simp_all

def sp_clash (K : PySem.W.Frag) : Sp := fun vs H Q _ => ∃ a b d e, vs = [.ref a, .ref b] ∧ TD H a d ∧ TD H b e ∧ Q (.bl (clash d e)) H
theorem len_clash {K vs H Q E} (h : sp_clash K vs H Q E) : vs.length = 2 := by
  obtain ⟨a, b, d, e, rfl, _⟩ := h
  rfl
abbrev n_clash : List Str := ["one", "other"]
def t_clash (K : PySem.W.Frag) : TS :=
  (tSeq (tIfS (tTest (tOp (rNeA K) (tOp rAnd (tOp (rIx K) (tVar 0) (tC (.int 2))) (tOp rOr (tOp (rIx K) (tVar 1) (tC (.int 1))) (tOp (rIx K) (tVar 1) (tC (.int 2))))) (tC (.int 0))))
  (tRet (tC (.bl true)))
  tNext)
  (tRet (tOp (rNeA K) (tOp rAnd (tOp (rIx K) (tVar 1) (tC (.int 2))) (tOp (rIx K) (tVar 0) (tC (.int 1)))) (tC (.int 0)))))
theorem nz_bne (x : Nat) : (!decide ((x : Int) = 0)) = (x != 0) := by
  by_cases h : x = 0
  · subst h
    rfl
  · rw [decide_eq_false (by omega), bne_iff_ne.mpr h]
    rfl
theorem r_clash {K vs H Q E} (h : sp_clash K vs H Q E) : t_clash K { nx := fun _ H' => Q .non H', rt := Q } (start n_clash vs) H := by
  obtain ⟨a, b, d, e, rfl, ha, hb, q⟩ := h
  unfold t_clash
  walk_at "go"
  rw [nz_bne]
  unfold clash at q
  refine ite2 (fun h => ?_) (fun h => ?_)
  · rw [h, Bool.true_or] at q
    exact q
  · walk_at "go"
    rw [nz_bne]
    rw [Bool.not_eq_true] at h
    rw [h, Bool.false_or] at q
    exact q

/-! ### a cell of the script -/
def sp_cell_at (K : PySem.W.Frag) : Sp := fun vs H Q _ => ∃ (a : Addr) (ns : List Int) (k : Nat), vs = [.ref a, .int (k : Int)] ∧ SqL K H a (ns.map V.int) ∧ Q (.int (ns.getD k 0)) H
theorem len_cell_at {K vs H Q E} (h : sp_cell_at K vs H Q E) : vs.length = 2 := by
  obtain ⟨a, ns, k, rfl, _⟩ := h
  rfl
abbrev n_cell_at : List Str := ["_law_script", "_law_k"]
def t_cell_at (K : PySem.W.Frag) : TS :=
  (tSeq (tIfS (tTest (tOp rLt (tVar 1) (tCB (rLen K) (tCons (tVar 0) tNil))))
  (tRet (tOp (rIx K) (tVar 0) (tVar 1)))
  tNext)
  (tRet (tC (.int 0))))
theorem r_cell_at {K vs H Q E} (h : sp_cell_at K vs H Q E) : t_cell_at K { nx := fun _ H' => Q .non H', rt := Q } (start n_cell_at vs) H := by
  obtain ⟨a, ns, k, rfl, ha, q⟩ := h
  unfold t_cell_at
  walk_at "go"
  refine len_l ha ?_
  walk_at "rd"
  rw [List.length_map]
  refine ite2 (fun h => ?_) (fun h => ?_)
  · have hk : k < ns.length := by simpa using h
    refine ix_l ha (atI_nat (j := k) (by rw [List.getElem?_map, List.getElem?_eq_getElem hk]; rfl)) ?_
    have e : ns.getD k 0 = ns[k] := by simp [List.getD, hk]
    rw [← e]
    exact q
  · have hk : ns.length ≤ k := by simpa using h
    have e : ns.getD k 0 = 0 := by simp [List.getD, hk]
    rw [e] at q
    exact q
end Pb

namespace Pb
/-! ### what the laws build: a diary of drawn deeds -/
theorem nn_nat {x : Int} (h : 0 ≤ x) : ∃ n : Nat, x = (n : Int) := ⟨x.toNat, by omega⟩
/-- a deed of boxes below sixty -/
def Ok60 (d : Dd) : Prop := d.l < 2 ^ 60 ∧ d.c < 2 ^ 60
theorem cut_ints (ns : List Int) (lo hi : Option Int) : ∃ ms : List Int, cutV (ns.map V.int) lo hi = ms.map V.int ∧ ms.length ≤ ns.length := by
  unfold cutV
  rw [← List.map_drop, ← List.map_take]
  refine ⟨_, rfl, ?_⟩
  rw [List.length_take, List.length_drop]
  omega
/-- the law's promise -/
def sp_law (K : PySem.W.Frag) : Sp := fun vs H Q _ => ∃ (a : Addr) (ns : List Int), vs = [.ref a] ∧ SqL K H a (ns.map V.int) ∧ ns.length ≤ 63 ∧ ∀ H', Q (.bl true) H'
theorem len_law {K vs H Q E} (h : sp_law K vs H Q E) : vs.length = 1 := by
  obtain ⟨a, cs, rfl, _⟩ := h
  rfl
/-- the deeds ds stand at the addresses as -/
def DL (H : Hp) : List Addr → List Dd → Prop
  | [], [] => True
  | a :: as, d :: ds => TD H a d ∧ DL H as ds
  | _, _ => False
theorem DL.mono {H H' : Hp} (s : Same H H') : ∀ {as : List Addr} {ds : List Dd}, DL H as ds → DL H' as ds
  | [], [], _ => trivial
  | a :: as, d :: ds, h => ⟨s _ _ h.1, DL.mono s h.2⟩
  | [], _ :: _, h => h.elim
  | _ :: _, [], h => h.elim
theorem DL.len {H : Hp} : ∀ {as : List Addr} {ds : List Dd}, DL H as ds → as.length = ds.length
  | [], [], _ => rfl
  | a :: as, d :: ds, h => congrArg (· + 1) (DL.len h.2)
  | [], _ :: _, h => h.elim
  | _ :: _, [], h => h.elim
theorem DL.get {H : Hp} : ∀ {as : List Addr} {ds : List Dd} {i : Nat} {a : Addr}, DL H as ds → as[i]? = some a → ∃ d, ds[i]? = some d ∧ TD H a d
  | a :: as, d :: ds, 0, _, h, e => by
    cases e
    exact ⟨d, rfl, h.1⟩
  | a :: as, d :: ds, i + 1, _, h, e => DL.get (i := i) h.2 (by simpa using e)
  | [], [], _, _, _, e => by simp at e
  | [], _ :: _, _, _, h, _ => h.elim
  | _ :: _, [], _, _, h, _ => h.elim
theorem DL.getd {H : Hp} {as : List Addr} {ds : List Dd} {i : Nat} {d : Dd} (h : DL H as ds) (e : ds[i]? = some d) : ∃ a, as[i]? = some a ∧ TD H a d := by
  have hl := (List.getElem?_eq_some_iff.mp e).1
  rw [← h.len] at hl
  obtain ⟨d', e', t⟩ := h.get (List.getElem?_eq_getElem hl)
  rw [e] at e'
  cases e'
  exact ⟨_, List.getElem?_eq_getElem hl, t⟩
theorem DL.app {H : Hp} : ∀ {as bs : List Addr} {ds es : List Dd}, DL H as ds → DL H bs es → DL H (as ++ bs) (ds ++ es)
  | [], _, [], _, _, h => h
  | a :: as, _, d :: ds, _, h, h' => ⟨h.1, DL.app h.2 h'⟩
  | [], _, _ :: _, _, h, _ => h.elim
  | _ :: _, _, [], _, h, _ => h.elim
theorem DL.take {H : Hp} : ∀ {as : List Addr} {ds : List Dd} (n : Nat), DL H as ds → DL H (as.take n) (ds.take n)
  | _, _, 0, _ => trivial
  | [], [], _ + 1, _ => trivial
  | a :: as, d :: ds, n + 1, h => ⟨h.1, DL.take n h.2⟩
  | [], _ :: _, _ + 1, h => h.elim
  | _ :: _, [], _ + 1, h => h.elim
theorem DL.drop {H : Hp} : ∀ {as : List Addr} {ds : List Dd} (n : Nat), DL H as ds → DL H (as.drop n) (ds.drop n)
  | _, _, 0, h => h
  | [], [], _ + 1, _ => trivial
  | a :: as, d :: ds, n + 1, h => DL.drop n h.2
  | [], _ :: _, _ + 1, h => h.elim
  | _ :: _, [], _ + 1, h => h.elim
theorem DL.one {H : Hp} {a : Addr} {d : Dd} (h : TD H a d) : DL H [a] [d] := ⟨h, trivial⟩
/-- a list of deeds at p -/
abbrev LD (H : Hp) (p : Addr) (as : List Addr) (ds : List Dd) : Prop := H p = some (.lst (as.map V.ref)) ∧ DL H as ds
theorem LD.mono {H H' : Hp} {p : Addr} {as : List Addr} {ds : List Dd} (s : Same H H') (h : LD H p as ds) : LD H' p as ds := ⟨s _ _ h.1, h.2.mono s⟩
theorem ref_at {as : List Addr} {i : Nat} {a : Addr} (h : as[i]? = some a) : (as.map V.ref)[i]? = some (.ref a) := by
  rw [List.getElem?_map, h]
  rfl
/-- cuts of lists at numbers -/
theorem cutV_to (xs : List V) (n : Nat) : cutV xs none (some (n : Int)) = xs.take n := by
  unfold cutV
  rw [HT.sIx_nat, HT.sIx_none, List.drop_zero, Nat.sub_zero]
  by_cases h : n ≤ xs.length
  · rw [Nat.min_eq_left h]
  · rw [Nat.min_eq_right (by omega), List.take_length, List.take_of_length_le (by omega)]
theorem cutV_from (xs : List V) (n : Nat) : cutV xs (some (n : Int)) none = xs.drop n := by
  unfold cutV
  rw [HT.sIx_nat, HT.sIx_none]
  by_cases h : n ≤ xs.length
  · rw [Nat.min_eq_left h, List.take_of_length_le (by simp)]
  · rw [Nat.min_eq_right (by omega), Nat.sub_self, List.take_zero, List.drop_of_length_le (by omega)]
theorem cutV_mid (xs : List V) (n m : Nat) : cutV xs (some (n : Int)) (some (m : Int)) = (xs.drop n).take (m - n) := by
  unfold cutV
  rw [HT.sIx_nat, HT.sIx_nat]
  by_cases h : n ≤ xs.length
  · by_cases h2 : m ≤ xs.length
    · rw [Nat.min_eq_left h, Nat.min_eq_left h2]
    · rw [Nat.min_eq_left h, Nat.min_eq_right (by omega), List.take_of_length_le (by simp), List.take_of_length_le (by rw [List.length_drop]; omega)]
  · rw [Nat.min_eq_right (a := n) (by omega), List.drop_of_length_le (by omega), List.drop_of_length_le (by omega), List.take_nil, List.take_nil]

theorem len_lclash {K vs H Q E} (h : sp_clash K vs H Q E) : vs.length = 2 := len_clash h
abbrev n_lclash : List Str := ["_law_one", "_law_other"]
def t_lclash (K : PySem.W.Frag) : TS :=
  (tSeq (tIfS (tTest (tOp (rNeA K) (tOp rAnd (tOp (rIx K) (tVar 0) (tC (.int 2))) (tOp rOr (tOp (rIx K) (tVar 1) (tC (.int 1))) (tOp (rIx K) (tVar 1) (tC (.int 2))))) (tC (.int 0))))
  (tRet (tC (.bl true)))
  tNext)
  (tRet (tOp (rNeA K) (tOp rAnd (tOp (rIx K) (tVar 1) (tC (.int 2))) (tOp (rIx K) (tVar 0) (tC (.int 1)))) (tC (.int 0)))))
theorem r_lclash {K vs H Q E} (h : sp_clash K vs H Q E) : t_lclash K { nx := fun _ H' => Q .non H', rt := Q } (start n_lclash vs) H := r_clash h

def sp_bits (K : PySem.W.Frag) : Sp := fun vs H Q _ => ∃ (a : Addr) (w : Int) (b0 b1 b2 : Nat), vs = [.int w, .ref a] ∧ H a = some (.lst [.int b0, .int b1, .int b2]) ∧ b0 < 60 ∧ b1 < 60 ∧ b2 < 60 ∧ ∀ H' (x : Nat), Same H H' → x < 2 ^ 60 → Q (.int x) H'
theorem len_bits {K vs H Q E} (h : sp_bits K vs H Q E) : vs.length = 2 := by
  obtain ⟨a, w, b0, b1, b2, rfl, _⟩ := h
  rfl
abbrev n_bits : List Str := ["_law_which", "_law_boxes", "_law_found", "_law_k"]
def t_bits (K : PySem.W.Frag) : TS :=
  (tSeq (tAsg (tC (.int 0)) (gName 2))
  (tSeq (tFor (iRng1 (tCons (tC (.int 3)) tNil)) (gName 3)
  (tIfS (tTest (tOp (rEqA K) (tOp rMod (tOp rDiv (tVar 0) (tOp (rIx K) (tLst (tCons (tC (.int 1)) (tCons (tC (.int 2)) (tCons (tC (.int 4)) tNil)))) (tVar 3))) (tC (.int 2))) (tC (.int 1))))
  (tAsg (tOp rOr (tVar 2) (tOp rShl (tC (.int 1)) (tOp (rIx K) (tVar 1) (tVar 3)))) (gName 2))
  tNext))
  (tRet (tVar 2))))
theorem shl1 (b : Nat) : (1 : Int) * 2 ^ ((b : Int)).toNat = ((2 ^ b : Nat) : Int) := by
  rw [Int.toNat_natCast, Int.one_mul]
  simp
theorem r_bits {K vs H Q E} (h : sp_bits K vs H Q E) : t_bits K { nx := fun _ H' => Q .non H', rt := Q } (start n_bits vs) H := by
  obtain ⟨a, w, b0, b1, b2, rfl, ha, h0, h1, h2, q⟩ := h
  unfold t_bits
  walk_at "go"
  refine forR1 (n := 3) (fun i σ H2 => ∃ (x : Nat) (v3 : Option V), σ = [some (.int w), some (.ref a), some (.int (x : Int)), v3] ∧ Same H H2 ∧ x < 2 ^ 60) (by decide) ⟨0, none, rfl, Same.refl _, by decide⟩ ?_ ?_
  · rintro i σ H2 hi ⟨x, v3, rfl, s2, hx⟩
    walk_at "go"
    refine lstQ fun p H3 hp s3 g3 => ?_
    have ga := s3 _ _ (s2 _ _ ha)
    have hc : ∃ c : Int, [V.int 1, V.int 2, V.int 4][i]? = some (.int c) ∧ 0 < c ∧ c.natAbs.log2 < 9000 := by
      rcases (show i = 0 ∨ i = 1 ∨ i = 2 by omega) with rfl | rfl | rfl
      · exact ⟨1, rfl, by decide, by decide⟩
      · exact ⟨2, rfl, by decide, by decide⟩
      · exact ⟨4, rfl, by decide, by decide⟩
    obtain ⟨c, hc, hc0, hc1⟩ := hc
    have hb : ∃ b : Nat, [V.int (b0 : Int), V.int (b1 : Int), V.int (b2 : Int)][i]? = some (.int (b : Int)) ∧ b < 60 := by
      rcases (show i = 0 ∨ i = 1 ∨ i = 2 by omega) with rfl | rfl | rfl
      · exact ⟨b0, rfl, h0⟩
      · exact ⟨b1, rfl, h1⟩
      · exact ⟨b2, rfl, h2⟩
    obtain ⟨b, hb, hb0⟩ := hb
    refine ix_l' g3 (atI_nat (j := i) hc) ?_
    walk_at "go"
    refine ⟨⟨hc0, hc1⟩, ?_⟩
    refine ite2 (fun c => ?_) (fun c => ?_)
    · walk_at "go"
      refine ix_l' ga (atI_nat (j := i) hb) ?_
      walk_at "go"
      refine ⟨⟨by omega, by omega, by decide⟩, ?_⟩
      rw [shl1]
      walk_at "go"
      exact ⟨_, _, rfl, s2.trans s3, Nat.or_lt_two_pow hx (Nat.pow_lt_pow_right (by decide) hb0)⟩
    · exact ⟨_, _, rfl, s2.trans s3, hx⟩
  · rintro σ H2 ⟨x, v3, rfl, s2, hx⟩
    walk_at "go"
    exact q _ _ s2 hx

def sp_far_bits (K : PySem.W.Frag) : Sp := fun vs H Q _ => ∃ c : Int, vs = [.int c] ∧ ∀ x : Nat, x < 2 ^ 60 → Q (.int x) H
theorem len_far_bits {K vs H Q E} (h : sp_far_bits K vs H Q E) : vs.length = 1 := by
  obtain ⟨c, rfl, _⟩ := h
  rfl
abbrev n_far_bits : List Str := ["_law_cell"]
def t_far_bits (K : PySem.W.Frag) : TS :=
  (tSeq (tIfS (tTest (tOp (rEqA K) (tOp rMod (tVar 0) (tC (.int 3))) (tC (.int 0))))
  (tRet (tC (.int 0)))
  tNext)
  (tSeq (tIfS (tTest (tOp (rEqA K) (tOp rMod (tVar 0) (tC (.int 3))) (tC (.int 1))))
  (tRet (tOp rShl (tC (.int 1)) (tOp rMod (tOp rDiv (tVar 0) (tC (.int 3))) (tC (.int 60)))))
  tNext)
  (tRet (tOp rMod (tOp rDiv (tVar 0) (tC (.int 3))) (tOp rPow (tC (.int 2)) (tC (.int 60)))))))
theorem r_far_bits {K vs H Q E} (h : sp_far_bits K vs H Q E) : t_far_bits K { nx := fun _ H' => Q .non H', rt := Q } (start n_far_bits vs) H := by
  obtain ⟨c, rfl, q⟩ := h
  unfold t_far_bits
  walk_at "go"
  obtain ⟨b, hb⟩ := nn_nat (Int.emod_nonneg (c / 3) (show (60 : Int) ≠ 0 by decide))
  obtain ⟨e, he⟩ := nn_nat (Int.emod_nonneg (c / 3) (show (1152921504606846976 : Int) ≠ 0 by decide))
  refine ite2 (fun c => ?_) (fun c => ?_)
  · exact q 0 (by decide)
  · walk_at "go"
    refine ite2 (fun c => ?_) (fun c => ?_)
    · walk_at "go"
      rw [hb]
      refine ⟨⟨by omega, by omega, by decide⟩, ?_⟩
      rw [shl1]
      exact q _ (Nat.pow_lt_pow_right (by decide) (by omega))
    · walk_at "go"
      rw [he]
      exact q _ (by omega)

def sp_names (K : PySem.W.Frag) : Sp := fun vs H Q _ => ∃ c o : Int, vs = [.int c, .int o] ∧ ∀ p H' (n0 n1 n2 : Int), H p = none → Same H H' → H' p = some (.lst [.int n0, .int n1, .int n2]) → Q (.ref p) H'
theorem len_names {K vs H Q E} (h : sp_names K vs H Q E) : vs.length = 2 := by
  obtain ⟨c, o, rfl, _⟩ := h
  rfl
abbrev n_names : List Str := ["_law_cell", "_law_other", "_law_base", "_law_step"]
def t_names (K : PySem.W.Frag) : TS :=
  (tSeq (tAsg (tOp rMod (tVar 0) (tOp rPow (tC (.int 10)) (tC (.int 60)))) (gName 2))
  (tSeq (tAsg (tOp (rIx K) (tLst (tCons (tC (.int 1)) (tCons (tOp rPow (tC (.int 10)) (tC (.int 7))) (tCons (tOp rPow (tC (.int 10)) (tC (.int 30))) (tCons (tOp rPow (tC (.int 10)) (tC (.int 59))) tNil))))) (tOp rMod (tVar 1) (tC (.int 4)))) (gName 3))
  (tRet (tLst (tCons (tVar 2) (tCons (tOp rMod (tOp rPlus (tVar 2) (tVar 3)) (tOp rPow (tC (.int 10)) (tC (.int 60)))) (tCons (tOp rMod (tOp rPlus (tVar 2) (tOp rMul (tC (.int 2)) (tVar 3))) (tOp rPow (tC (.int 10)) (tC (.int 60)))) tNil)))))))
theorem r_names {K vs H Q E} (h : sp_names K vs H Q E) : t_names K { nx := fun _ H' => Q .non H', rt := Q } (start n_names vs) H := by
  obtain ⟨c, o, rfl, q⟩ := h
  unfold t_names
  walk_at "go"
  refine lstQ fun p H1 hp s1 g1 => ?_
  walk_at "go"
  obtain ⟨b, hb⟩ := nn_nat (Int.emod_nonneg o (show (4 : Int) ≠ 0 by decide))
  have hb4 : b < 4 := by omega
  rw [hb]
  obtain ⟨st, hst⟩ : ∃ st : Int, [V.int 1, V.int 10000000, V.int 1000000000000000000000000000000, V.int 100000000000000000000000000000000000000000000000000000000000][b]? = some (.int st) := by
    rcases (show b = 0 ∨ b = 1 ∨ b = 2 ∨ b = 3 by omega) with rfl | rfl | rfl | rfl <;> exact ⟨_, rfl⟩
  refine ix_l' g1 (atI_nat (j := b) hst) ?_
  walk_at "go"
  refine lstQ fun p2 H2 hp2 s2 g2 => ?_
  exact q p2 H2 _ _ _ (s1.free hp2) (s1.trans s2) g2

def sp_near (K : PySem.W.Frag) : Sp := fun vs H Q _ => ∃ (w : Int) (a b : Addr) (n0 n1 n2 : Int) (b0 b1 b2 : Nat), vs = [.int w, .ref a, .ref b] ∧ H a = some (.lst [.int n0, .int n1, .int n2]) ∧ H b = some (.lst [.int b0, .int b1, .int b2]) ∧ b0 < 60 ∧ b1 < 60 ∧ b2 < 60 ∧
  ∀ p H' d, H p = none → Same H H' → TD H' p d → Ok60 d → Q (.ref p) H'
theorem len_near {K vs H Q E} (h : sp_near K vs H Q E) : vs.length = 3 := by
  obtain ⟨w, a, b, n0, n1, n2, b0, b1, b2, rfl, _⟩ := h
  rfl
abbrev n_near : List Str := ["_law_number", "_law_names_here", "_law_boxes", "_law_changes"]
def t_near (K : PySem.W.Frag) : TS :=
  (tSeq (tAsg (tOp (rIx K) (tLst (tCons (tC (.int 0)) (tCons (tC (.int 0)) (tCons (tC (.int 0)) (tCons (tC (.int 0)) (tCons (tC (.int 0)) (tCons (tC (.int 1)) (tCons (tC (.int 2)) (tCons (tC (.int 3)) (tCons (tC (.int 4)) (tCons (tC (.int 5)) (tCons (tC (.int 6)) (tCons (tC (.int 7)) tNil))))))))))))) (tOp rMod (tOp rDiv (tVar 0) (tC (.int 24))) (tC (.int 12)))) (gName 3))
  (tRet (tTup (tCons (tOp (rIx K) (tVar 1) (tOp rMod (tVar 0) (tC (.int 3)))) (tCons (tCall (sp_bits K) [] E0 (tCons (tOp rMod (tOp rDiv (tVar 0) (tC (.int 3))) (tC (.int 8))) (tCons (tVar 2) tNil))) (tCons (tCall (sp_bits K) [] E0 (tCons (tVar 3) (tCons (tVar 2) tNil))) tNil))))))
theorem r_near {K vs H Q E} (h : sp_near K vs H Q E) : t_near K { nx := fun _ H' => Q .non H', rt := Q } (start n_near vs) H := by
  obtain ⟨w, a, b, n0, n1, n2, b0, b1, b2, rfl, ha, hb, h0, h1, h2, q⟩ := h
  unfold t_near
  walk_at "go"
  refine lstQ fun p H1 hp s1 g1 => ?_
  walk_at "go"
  obtain ⟨c, hc⟩ := nn_nat (Int.emod_nonneg (w / 24) (show (12 : Int) ≠ 0 by decide))
  obtain ⟨m, hm⟩ := nn_nat (Int.emod_nonneg w (show (3 : Int) ≠ 0 by decide))
  have hc12 : c < 12 := by omega
  have hm3 : m < 3 := by omega
  rw [hc]
  obtain ⟨st, hst⟩ : ∃ st : Int, [V.int 0, V.int 0, V.int 0, V.int 0, V.int 0, V.int 1, V.int 2, V.int 3, V.int 4, V.int 5, V.int 6, V.int 7][c]? = some (.int st) := by
    rcases (show c = 0 ∨ c = 1 ∨ c = 2 ∨ c = 3 ∨ c = 4 ∨ c = 5 ∨ c = 6 ∨ c = 7 ∨ c = 8 ∨ c = 9 ∨ c = 10 ∨ c = 11 by omega) with rfl | rfl | rfl | rfl | rfl | rfl | rfl | rfl | rfl | rfl | rfl | rfl <;> exact ⟨_, rfl⟩
  refine ix_l' g1 (atI_nat (j := c) hst) ?_
  walk_at "go"
  rw [hm]
  obtain ⟨nm, hnm⟩ : ∃ nm : Int, [V.int n0, V.int n1, V.int n2][m]? = some (.int nm) := by
    rcases (show m = 0 ∨ m = 1 ∨ m = 2 by omega) with rfl | rfl | rfl <;> exact ⟨_, rfl⟩
  refine ix_l' (s1 _ _ ha) (atI_nat (j := m) hnm) ?_
  walk_at "go"
  refine ⟨b, _, b0, b1, b2, rfl, s1 _ _ hb, h0, h1, h2, fun H2 x s2 hx => ?_⟩
  walk_at "go"
  refine ⟨b, _, b0, b1, b2, rfl, s2 _ _ (s1 _ _ hb), h0, h1, h2, fun H3 y s3 hy => ?_⟩
  walk_at "go"
  refine tupQ fun p4 H4 hp4 s4 g4 => ?_
  have s13 := (s1.trans s2).trans s3
  exact q p4 H4 ⟨nm, x, y⟩ (s13.free hp4) (s13.trans s4) g4 ⟨hx, hy⟩
end Pb
namespace Pb
theorem DL.keep {H H1 : Hp} {p : Addr} {xs : List V} (hp : H p = some (.lst xs)) (ne : ∀ b, b ≠ p → H1 b = H b) : ∀ {as : List Addr} {ds : List Dd}, DL H as ds → DL H1 as ds
  | [], [], _ => trivial
  | a :: as, d :: ds, h => ⟨by
      have n : a ≠ p := ne_of h.1 hp (by intro z; cases z)
      show H1 a = _
      rw [ne a n]
      exact h.1, DL.keep hp ne h.2⟩
  | [], _ :: _, h => h.elim
  | _ :: _, [], h => h.elim
theorem DL.ofAll {H : Hp} {P : Dd → Prop} : ∀ {as : List Addr}, (∀ (i : Nat) a, as[i]? = some a → ∃ d, TD H a d ∧ P d) → ∃ ds, DL H as ds ∧ ∀ d ∈ ds, P d
  | [], _ => ⟨[], trivial, by simp⟩
  | a :: as, h => by
    obtain ⟨d, hd, pd⟩ := h 0 a rfl
    obtain ⟨ds, h1, h2⟩ := DL.ofAll (as := as) (P := P) fun i b e => h (i + 1) b (by simpa using e)
    refine ⟨d :: ds, ⟨hd, h1⟩, fun e he => ?_⟩
    rcases List.mem_cons.mp he with rfl | he
    · exact pd
    · exact h2 e he
theorem ints_at {ns : List Int} {i : Nat} (h : i < ns.length) : (ns.map V.int)[i]? = some (.int (ns[i])) := by
  rw [List.getElem?_map, List.getElem?_eq_getElem h]
  rfl
def sp_diary (K : PySem.W.Frag) : Sp := fun vs H Q _ => ∃ (a : Addr) (ns : List Int) (m : Int), vs = [.ref a, .int m] ∧ SqL K H a (ns.map V.int) ∧ ns.length ≤ 63 ∧
  ∀ p H' as ds, H p = none → Same H H' → LD H' p as ds → (∀ d ∈ ds, Ok60 d) → as.length ≤ 63 → Q (.ref p) H'
theorem len_diary {K vs H Q E} (h : sp_diary K vs H Q E) : vs.length = 2 := by
  obtain ⟨a, ns, m, rfl, _⟩ := h
  rfl
abbrev n_diary : List Str := ["_law_script", "_law_most", "_law_cells", "_law_diary_here", "_law_k", "_law_looks", "_law_names_here", "_law_boxes", "_law_cell"]
def t_diary (K : PySem.W.Frag) : TS :=
  (tSeq (tAsg (tSl (rSlA K) (tVar 0) (tPart (tC (.int 6))) (tPart (tVar 1))) (gName 2))
  (tSeq (tIfS (tTest (tOp (rEqA K) (tOp rMod (tCall (sp_cell_at K) [] E0 (tCons (tVar 0) (tCons (tC (.int 0)) tNil))) (tC (.int 3))) (tC (.int 1))))
  (tSeq (tAsg (tLst tNil) (gName 3))
  (tSeq (tFor (iRng1 (tCons (tOp rDiv (tCB (rLen K) (tCons (tVar 2) tNil)) (tC (.int 3))) tNil)) (gName 4)
  (tSeq (tAsg (tCall (sp_far_bits K) [] E0 (tCons (tOp (rIx K) (tVar 2) (tOp rPlus (tOp rMul (tC (.int 3)) (tVar 4)) (tC (.int 1)))) tNil)) (gName 5))
  (tDrop (tBM K "list" rAppend (tVar 3) (tCons (tTup (tCons (tOp rMod (tOp (rIx K) (tVar 2) (tOp rMul (tC (.int 3)) (tVar 4))) (tOp rPow (tC (.int 10)) (tC (.int 60)))) (tCons (tVar 5) (tCons (tCall (sp_far_bits K) [] E0 (tCons (tOp (rIx K) (tVar 2) (tOp rPlus (tOp rMul (tC (.int 3)) (tVar 4)) (tC (.int 2)))) tNil)) tNil)))) tNil)))))
  (tRet (tVar 3))))
  tNext)
  (tSeq (tAsg (tCall (sp_names K) [] E0 (tCons (tCall (sp_cell_at K) [] E0 (tCons (tVar 0) (tCons (tC (.int 1)) tNil))) (tCons (tCall (sp_cell_at K) [] E0 (tCons (tVar 0) (tCons (tC (.int 2)) tNil))) tNil))) (gName 6))
  (tSeq (tAsg (tLc (iRng1 (tCons (tC (.int 3)) tNil)) (gName 4) tYes (tOp rMod (tCall (sp_cell_at K) [] E0 (tCons (tVar 0) (tCons (tOp rPlus (tC (.int 3)) (tVar 4)) tNil))) (tC (.int 60))) [4]) (gName 7))
  (tRet (tLc (iList K (tVar 2)) (gName 8) tYes (tCall (sp_near K) [] E0 (tCons (tOp rMod (tOp rMul (tVar 8) (tC (.int 175))) (tC (.int 288))) (tCons (tVar 6) (tCons (tVar 7) tNil)))) [8]))))))
theorem r_diary {K vs H Q E} (h : sp_diary K vs H Q E) : t_diary K { nx := fun _ H' => Q .non H', rt := Q } (start n_diary vs) H := by
  obtain ⟨a, ns, m, rfl, ha, hl, q⟩ := h
  unfold t_diary
  walk_at "go"
  obtain ⟨ms, em, hm⟩ := cut_ints ns (some 6) (some m)
  refine sl_l ha fun p H1 hp s1 g1 => ?_
  rw [em] at g1
  walk_at "go"
  refine ⟨a, ns, 0, rfl, s1.seq ha, ?_⟩
  walk_at "go"
  refine ite2 (fun c => ?_) (fun c => ?_)
  · walk_at "go"
    refine lstQ fun p2 H2 hp2 s2 g2 => ?_
    have g1' := s2 _ _ g1
    walk_at "go"
    rw [List.length_map, show ((ms.length : Nat) : Int) / 3 = ((ms.length / 3 : Nat) : Int) by omega]
    refine forR1 (n := ms.length / 3) (fun i σ H3 => ∃ (as : List Addr) (ds : List Dd) (v4 v5 v6 v7 v8 : Option V), σ = [some (.ref a), some (.int m), some (.ref p), some (.ref p2), v4, v5, v6, v7, v8] ∧ Same H1 H3 ∧ LD H3 p2 as ds ∧ (∀ d ∈ ds, Ok60 d) ∧ as.length = i) (by omega)
      ⟨[], [], none, none, none, none, none, rfl, s2, ⟨g2, trivial⟩, by simp, rfl⟩ ?_ ?_
    · rintro i σ H3 hi ⟨as, ds, v4, v5, v6, v7, v8, rfl, s3, ⟨gp, hd⟩, hok, hlen⟩
      have g13 := s3 _ _ g1
      walk_at "go"
      rw [show (3 : Int) * (i : Int) + 1 = ((3 * i + 1 : Nat) : Int) by omega]
      refine ix_l' g13 (atI_nat (j := 3 * i + 1) (ints_at (by omega))) ?_
      walk_at "go"
      refine ⟨_, rfl, fun x hx => ?_⟩
      walk_at "go"
      refine ⟨ty_l gp, ?_⟩
      rw [show (3 : Int) * (i : Int) = ((3 * i : Nat) : Int) by omega]
      refine ix_l' g13 (atI_nat (j := 3 * i) (ints_at (by omega))) ?_
      walk_at "go"
      rw [show ((3 * i : Nat) : Int) + 2 = ((3 * i + 2 : Nat) : Int) by omega]
      refine ix_l' g13 (atI_nat (j := 3 * i + 2) (ints_at (by omega))) ?_
      walk_at "go"
      refine ⟨_, rfl, fun y hy => ?_⟩
      walk_at "go"
      refine tupQ fun p4 H4 hp4 s4 g4 => ?_
      walk_at "go"
      refine append_r (s3.trans s4) hp2 (s4 _ _ gp) (by rw [List.length_map]; omega) fun H5 s5 g5 ne5 => ?_
      have hd4 := (hd.mono s4).app (DL.one (a := p4) (d := ⟨_, x, y⟩) g4)
      refine ⟨as ++ [p4], ds ++ [⟨_, x, y⟩], _, _, _, _, _, rfl, s5, ⟨by rw [g5, List.map_append]; rfl, hd4.keep (s4 _ _ gp) ne5⟩, fun d hd => ?_, by simp [hlen]⟩
      rcases List.mem_append.mp hd with hd | hd
      · exact hok d hd
      · rw [List.mem_singleton.mp hd]
        exact ⟨hx, hy⟩
    · rintro σ H3 ⟨as, ds, v4, v5, v6, v7, v8, rfl, s3, hL, hok, hlen⟩
      walk_at "go"
      exact q p2 H3 as ds (s1.free hp2) (s1.trans s3) hL hok (by omega)
  · walk_at "go"
    refine ⟨a, ns, 1, rfl, s1.seq ha, ?_⟩
    walk_at "go"
    refine ⟨a, ns, 2, rfl, s1.seq ha, ?_⟩
    walk_at "go"
    refine ⟨_, _, rfl, fun p2 H2 n0 n1 n2 hp2 s2 g2 => ?_⟩
    walk_at "go"
    refine lcR1 (n := 3) (fun j => some (.int (ns.getD (3 + j) 0 % 60))) (by decide) ?_ ?_
    · intro j H3 hj s3 R hR R2 hR2
      walk_at "go"
      refine ⟨a, ns, 3 + j, by simp, s3.seq (s2.seq (s1.seq ha)), ?_⟩
      walk_at "go"
      exact hR _ _ rfl (Same.refl _)
    intro p3 H3 hp3 s3 g3
    obtain ⟨b0, e0⟩ := nn_nat (Int.emod_nonneg (ns.getD (3 + 0) 0) (show (60 : Int) ≠ 0 by decide))
    obtain ⟨b1, e1⟩ := nn_nat (Int.emod_nonneg (ns.getD (3 + 1) 0) (show (60 : Int) ≠ 0 by decide))
    obtain ⟨b2, e2⟩ := nn_nat (Int.emod_nonneg (ns.getD (3 + 2) 0) (show (60 : Int) ≠ 0 by decide))
    have g3' : H3 p3 = some (.lst [.int (b0 : Int), .int (b1 : Int), .int (b2 : Int)]) := by
      rw [g3]
      show some (HO.lst [.int (ns.getD (3 + 0) 0 % 60), .int (ns.getD (3 + 1) 0 % 60), .int (ns.getD (3 + 2) 0 % 60)]) = _
      rw [e0, e1, e2]
    have g13 := s3 _ _ (s2 _ _ g1)
    have g23 := s3 _ _ g2
    walk_at "go"
    refine lcLn (.of g13) (fun _ o => ∃ d : Dd, o = .tup [.int d.n, .int (d.l : Int), .int (d.c : Int)] ∧ Ok60 d) (by rw [List.length_map]; omega) ?_ ?_
    · intro i x H4 hx s4 R hR R2
      obtain ⟨z, rfl⟩ : ∃ z, x = V.int z := by
        rw [List.getElem?_map] at hx
        cases e : ms[i]? with
        | none => rw [e] at hx; cases hx
        | some z => rw [e] at hx; exact ⟨z, (Option.some.inj hx).symm⟩
      walk_at "go"
      refine ⟨_, p2, p3, n0, n1, n2, b0, b1, b2, rfl, s4 _ _ g23, s4 _ _ g3', by omega, by omega, by omega, fun p5 H5 d hp5 s5 g5 hd => ?_⟩
      exact hR p5 _ H5 hp5 g5 ⟨d, rfl, hd⟩ s5
    intro p4 H4 as hp4 s4 g4 hl4 hnd hna hob
    obtain ⟨ds, hds, hok⟩ := DL.ofAll (H := H4) (P := Ok60) (as := as) fun i b e => by
      obtain ⟨_, o, ho, d, rfl, hd⟩ := hob i b e
      exact ⟨d, ho, hd⟩
    have s13 := (s1.trans s2).trans s3
    exact q p4 H4 as ds (s13.free hp4) (s13.trans s4) ⟨g4, hds⟩ hok (by rw [hl4, List.length_map]; omega)
end Pb

namespace Pb
/-! ### data in the heap -/
theorem ty_sqL {K : PySem.W.Frag} {H : Hp} {a : Addr} {xs : List V} (h : SqL K H a xs) : TyX K H (.ref a) (.type "list") := by
  rcases h with (h | ⟨o, h⟩) | ⟨o, its, n, e, c, _⟩
  · exact .base (.lst h)
  · exact .base (.frz h)
  · exact .kList e c
theorem ty_sqT {K : PySem.W.Frag} {H : Hp} {a : Addr} {xs : List V} (h : SqT K H a xs) : TyX K H (.ref a) (.type "tuple") := by
  rcases h with (h | ⟨o, h⟩) | ⟨o, its, n, e, c, _⟩
  · exact .base (.tup h)
  · exact .fTuple h
  · exact .kTuple e c
theorem isiX {K : PySem.W.Frag} {H : Hp} {x : V} {T T' : String} {b : Bool} {Q : VK} (h : TyX K H x (.type T)) (hk : kitB T T' = some b) (q : Q (.bl b) H) : rIsi K [x, .ty T'] H Q :=
  ⟨x, .ty T', .type T, .type T', b, rfl, .ty _, h, kit_ty hk, q⟩
mutual
theorem Dp.up {K : PySem.W.Frag} {H H' : Hp} (s : Same H H') : ∀ {v : V} {d : PyData}, Dp K H v d → Dp K H' v d
  | _, _, .non => .non
  | _, _, .bl b => .bl b
  | _, _, .int i => .int i
  | _, _, .str x => .str x
  | _, _, .lst h hs => .lst (s.seq h) (DpAll.up s hs)
  | _, _, .tup h hs => .tup (sq_t s h) (DpAll.up s hs)
theorem DpAll.up {K : PySem.W.Frag} {H H' : Hp} (s : Same H H') : ∀ {vs : List V} {ds : List PyData}, DpAll K H vs ds → DpAll K H' vs ds
  | _, _, .nil => .nil
  | _, _, .cons h hs => .cons (Dp.up s h) (DpAll.up s hs)
end
theorem DpAll.len {K : PySem.W.Frag} {H : Hp} : ∀ {vs : List V} {ds : List PyData}, DpAll K H vs ds → vs.length = ds.length
  | _, _, .nil => rfl
  | _, _, .cons _ hs => congrArg (· + 1) (DpAll.len hs)
theorem DpAll.get {K : PySem.W.Frag} {H : Hp} : ∀ {vs : List V} {ds : List PyData} {i : Nat} {v : V}, DpAll K H vs ds → vs[i]? = some v → ∃ d, ds[i]? = some d ∧ Dp K H v d
  | _, _, _, _, .nil, e => by simp at e
  | _, _, 0, _, .cons h _, e => by
    cases e
    exact ⟨_, rfl, h⟩
  | _, _, i + 1, _, .cons _ hs, e => DpAll.get (i := i) hs (by simpa using e)
theorem DpAll.app {K : PySem.W.Frag} {H : Hp} : ∀ {vs ws : List V} {ds es : List PyData}, DpAll K H vs ds → DpAll K H ws es → DpAll K H (vs ++ ws) (ds ++ es)
  | _, _, _, _, .nil, h => h
  | _, _, _, _, .cons a hs, h => .cons a (DpAll.app hs h)
theorem DpAll.ints {K : PySem.W.Frag} {H : Hp} : ∀ ns : List Int, DpAll K H (ns.map V.int) (ns.map PyData.int)
  | [] => .nil
  | n :: r => .cons (.int n) (DpAll.ints r)
/-- whole numbers, lists and tuples of such, at most n deep -/
def okD : Nat → PyData → Prop
  | 0, _ => False
  | _ + 1, .int _ => True
  | n + 1, .list ds => ∀ d ∈ ds, okD n d
  | n + 1, .tuple ds => ∀ d ∈ ds, okD n d
  | _ + 1, _ => False
theorem okD.up {n : Nat} : ∀ {d : PyData}, okD n d → okD (n + 1) d := by
  induction n with
  | zero => exact fun h => h.elim
  | succ n ih =>
    intro d h
    cases d with
    | int _ => trivial
    | list ds => exact fun e he => ih (h e he)
    | tuple ds => exact fun e he => ih (h e he)
    | none => exact h
    | bool _ => exact h
    | str _ => exact h
    | dict _ => exact h
theorem okD.le {n m : Nat} (h : n ≤ m) {d : PyData} (k : okD n d) : okD m d := by
  induction h with
  | refl => exact k
  | step _ ih => exact ih.up
theorem layAll : ∀ {ds : List PyData}, (∀ d ∈ ds, d.canLay0 = true) → PyData.canLayAll0 ds = true
  | [], _ => rfl
  | d :: ds, h => by
    rw [PyData.canLayAll0, h d (by simp), layAll (ds := ds) fun e he => h e (by simp [he])]
    rfl
theorem depAll {n : Nat} : ∀ {ds : List PyData}, (∀ d ∈ ds, d.depth ≤ n) → PyData.depthAll ds ≤ n
  | [], _ => Nat.zero_le _
  | d :: ds, h => by
    rw [PyData.depthAll]
    exact Nat.max_le.mpr ⟨h d (by simp), depAll (ds := ds) fun e he => h e (by simp [he])⟩
theorem okD.lay {n : Nat} : ∀ {d : PyData}, okD n d → d.canLay0 = true ∧ d.depth ≤ n := by
  induction n with
  | zero => exact fun h => h.elim
  | succ n ih =>
    intro d h
    cases d with
    | int _ => exact ⟨rfl, by simp [PyData.depth]⟩
    | list ds =>
      have h' : ∀ d ∈ ds, okD n d := h
      refine ⟨by rw [PyData.canLay0]; exact layAll fun d hd => (ih (h' d hd)).1, ?_⟩
      rw [PyData.depth]
      exact Nat.succ_le_succ (depAll fun e he => (ih (h' e he)).2)
    | tuple ds =>
      have h' : ∀ d ∈ ds, okD n d := h
      refine ⟨by rw [PyData.canLay0]; exact layAll fun d hd => (ih (h' d hd)).1, ?_⟩
      rw [PyData.depth]
      exact Nat.succ_le_succ (depAll fun e he => (ih (h' e he)).2)
    | none => exact h.elim
    | bool _ => exact h.elim
    | str _ => exact h.elim
    | dict _ => exact h.elim
theorem okD.shaped {n : Nat} {d : PyData} (h : okD n d) (hn : n ≤ 64 := by decide) : SeqAt.shaped d = true := by
  show (d.canLay0 && decide (d.depth ≤ 64)) = true
  rw [Bool.and_eq_true]
  exact ⟨h.lay.1, decide_eq_true (Nat.le_trans h.lay.2 hn)⟩
theorem eqvAll_iff {n : Nat} (ih : ∀ {d e : PyData}, okD n d → okD n e → (PyData.eqv d e = true ↔ d = e)) : ∀ {ds es : List PyData}, (∀ d ∈ ds, okD n d) → (∀ d ∈ es, okD n d) → (PyData.eqvAll ds es = true ↔ ds = es)
  | [], [], _, _ => by simp [PyData.eqvAll]
  | [], _ :: _, _, _ => by simp [PyData.eqvAll]
  | _ :: _, [], _, _ => by simp [PyData.eqvAll]
  | d :: ds, e :: es, h, h' => by
    rw [PyData.eqvAll, Bool.and_eq_true, ih (h d (by simp)) (h' e (by simp)), eqvAll_iff ih (ds := ds) (es := es) (fun x hx => h x (by simp [hx])) fun x hx => h' x (by simp [hx])]
    simp
theorem okD.eqv {n : Nat} : ∀ {d e : PyData}, okD n d → okD n e → (PyData.eqv d e = true ↔ d = e) := by
  induction n with
  | zero => exact fun h => h.elim
  | succ n ih =>
    intro d e h h'
    cases d <;> cases e <;> first
      | exact h.elim
      | exact h'.elim
      | (rw [PyData.eqv, eqvAll_iff ih h h']; simp)
      | (rw [PyData.eqv]; simp)
theorem eqA_ok {K : PySem.W.Frag} {n : Nat} {x y : V} {d e : PyData} {H : Hp} {Q : VK} (hx : Dp K H x d) (hy : Dp K H y e) (h1 : okD n d) (h2 : okD n e) (h : ∀ b : Bool, (b = true ↔ d = e) → Q (.bl b) H) (hn : n ≤ 64 := by decide) : rEqA K x y H Q :=
  eqA_D hx hy (h1.shaped hn) (h2.shaped hn) (h _ (h1.eqv h2))
theorem neA_ok {K : PySem.W.Frag} {n : Nat} {x y : V} {d e : PyData} {H : Hp} {Q : VK} (hx : Dp K H x d) (hy : Dp K H y e) (h1 : okD n d) (h2 : okD n e) (h : ∀ b : Bool, (b = true ↔ d ≠ e) → Q (.bl b) H) (hn : n ≤ 64 := by decide) : rNeA K x y H Q :=
  neA_D hx hy (h1.shaped hn) (h2.shaped hn) (h _ (by rw [Bool.not_eq_true', ← Bool.not_eq_true, h1.eqv h2]))
theorem eqA_same {K : PySem.W.Frag} {n : Nat} {x y : V} {d : PyData} {H : Hp} {Q : VK} (hx : Dp K H x d) (hy : Dp K H y d) (h1 : okD n d) (h : Q (.bl true) H) (hn : n ≤ 64 := by decide) : rEqA K x y H Q :=
  eqA_ok hx hy h1 h1 (fun b hb => by rw [hb.mpr rfl]; exact h) hn
theorem neA_same {K : PySem.W.Frag} {n : Nat} {x y : V} {d : PyData} {H : Hp} {Q : VK} (hx : Dp K H x d) (hy : Dp K H y d) (h1 : okD n d) (h : Q (.bl false) H) (hn : n ≤ 64 := by decide) : rNeA K x y H Q :=
  neA_ok hx hy h1 h1 (fun b hb => by rw [show b = false by cases b; rfl; exact absurd rfl (hb.mp rfl)]; exact h) hn
/-- a deed as data -/
def dd (d : Dd) : PyData := .tuple [.int d.n, .int d.l, .int d.c]
theorem dd_dp {K : PySem.W.Frag} {H : Hp} {a : Addr} {d : Dd} (h : TD H a d) : Dp K H (.ref a) (dd d) := .tup (.of h) (.cons (.int _) (.cons (.int _) (.cons (.int _) .nil)))
theorem dds_dp {K : PySem.W.Frag} {H : Hp} : ∀ {as : List Addr} {ds : List Dd}, DL H as ds → DpAll K H (as.map V.ref) (ds.map dd)
  | [], [], _ => .nil
  | a :: as, d :: ds, h => .cons (dd_dp h.1) (dds_dp h.2)
  | [], _ :: _, h => h.elim
  | _ :: _, [], h => h.elim
theorem ld_dp {K : PySem.W.Frag} {H : Hp} {p : Addr} {as : List Addr} {ds : List Dd} (h : LD H p as ds) : Dp K H (.ref p) (.list (ds.map dd)) := .lst (.of h.1) (dds_dp h.2)
theorem dd_ok {d : Dd} : okD 2 (dd d) := fun e he => by
  simp only [List.mem_cons, List.not_mem_nil, or_false] at he
  rcases he with rfl | rfl | rfl <;> trivial
theorem dds_ok (ds : List Dd) : okD 3 (.list (ds.map dd)) := fun e he => by
  obtain ⟨d, _, rfl⟩ := List.mem_map.mp he
  exact dd_ok
theorem ints_ok (ns : List Int) : okD 2 (.list (ns.map PyData.int)) := fun e he => by
  obtain ⟨d, _, rfl⟩ := List.mem_map.mp he
  trivial

def sp_same (n : Nat) (K : PySem.W.Frag) : Sp := fun vs H Q _ => ∃ x y d, vs = [x, y] ∧ Dp K H x d ∧ Dp K H y d ∧ okD n d ∧ ∀ H', Same H H' → Q (.bl true) H'
theorem len_same {n K vs H Q E} (h : sp_same n K vs H Q E) : vs.length = 2 := by
  obtain ⟨x, y, d, rfl, _⟩ := h
  rfl
theorem none_same {K vs H Q E} (h : sp_same 0 K vs H Q E) : False := by
  obtain ⟨x, y, d, rfl, _, _, h, _⟩ := h
  exact h
abbrev n_same : List Str := ["_law_found", "_law_due", "_law_one", "_law_other"]
def t_same (n : Nat) (K : PySem.W.Frag) : TS :=
  (tSeq (tIfS (tB (tCB (rIsi K) (tCons (tVar 1) (tCons (tC (.ty "int")) tNil))))
  (tRet (tAndV (tCB (rIsi K) (tCons (tVar 0) (tCons (tC (.ty "int")) tNil))) (tAndV (tNotV (tCB (rIsi K) (tCons (tVar 0) (tCons (tC (.ty "bool")) tNil)))) (tOp (rEqA K) (tVar 0) (tVar 1)))))
  tNext)
  (tCut (tIfS (tB (tCB (rIsi K) (tCons (tVar 1) (tCons (tC (.ty "tuple")) tNil))))
  (tIfS (tNot (tB (tCB (rIsi K) (tCons (tVar 0) (tCons (tC (.ty "tuple")) tNil)))))
  (tRet (tC (.bl false)))
  tNext)
  (tIfS (tNot (tB (tCB (rIsi K) (tCons (tVar 0) (tCons (tC (.ty "list")) tNil)))))
  (tRet (tC (.bl false)))
  tNext))
  (tSeq (tIfS (tTest (tOp (rNeA K) (tCB (rLen K) (tCons (tVar 0) tNil)) (tCB (rLen K) (tCons (tVar 1) tNil))))
  (tRet (tC (.bl false)))
  tNext)
  (tSeq (tFor (RZ.iZipA K (tCons (tVar 0) (tCons (tVar 1) tNil))) (gTup K 2 (gCons (gName 2) (gCons (gName 3) gNil)))
  (tIfS (tNot (tB (tCall (sp_same n K) [] E0 (tCons (tVar 2) (tCons (tVar 3) tNil)))))
  (tRet (tC (.bl false)))
  tNext))
  (tRet (tC (.bl true)))))))
theorem r_same {n K vs H Q E} (h : sp_same (n + 1) K vs H Q E) : t_same n K { nx := fun _ H' => Q .non H', rt := Q } (start n_same vs) H := by
  obtain ⟨x, y, d, rfl, hx, hy, hd, q⟩ := h
  unfold t_same
  cases d with
  | none => exact hd.elim
  | bool _ => exact hd.elim
  | str _ => exact hd.elim
  | dict _ => exact hd.elim
  | int i =>
    cases hx
    cases hy
    walk_at "go"
    exact q H (Same.refl _)
  | list ds =>
    cases hx with | @lst a xs _ hs ha =>
    cases hy with | @lst b ys _ hs' ha' =>
    walk_at "go"
    refine isiX (ty_sqL hs') kb_list_int ?_
    walk_at "go"
    refine cut (fun σ H' => σ = [some (.ref a), some (.ref b), none, none] ∧ H' = H) ?_ ?_
    · walk_at "go"
      refine isiX (ty_sqL hs') kb_list_tuple ?_
      walk_at "go"
      refine isiX (ty_sqL hs) kb_list_list ?_
      walk_at "go"
      exact ⟨rfl, rfl⟩
    rintro σ H1 ⟨rfl, rfl⟩
    walk_at "go"
    refine len_l hs (len_l hs' ?_)
    walk_at "go"
    rw [DpAll.len ha, DpAll.len ha']
    walk_at "go"
    refine forZ (n := ds.length) (by rw [DpAll.len ha, DpAll.len ha', Nat.min_self]) hs hs' (fun i σ H3 => ∃ (v2 v3 : Option V), σ = [some (.ref a), some (.ref b), v2, v3] ∧ Same H1 H3) ⟨none, none, rfl, Same.refl _⟩ (fun i σ H3 ⟨_, _, _, s⟩ => ⟨s.seq hs, s.seq hs'⟩) ?_ ?_
    · rintro i x' y' T σ H3 H4 hx' hy' ⟨v2, v3, rfl, s3⟩ hT s4 gT
      have s34 := s3.trans s4
      obtain ⟨e, he, hxe⟩ := DpAll.get ha hx'
      obtain ⟨e', he', hye⟩ := DpAll.get ha' hy'
      rw [he] at he'
      cases he'
      walk_at "go"
      refine ⟨x', y', e, rfl, Dp.up s34 hxe, Dp.up s34 hye, hd e (List.mem_of_getElem? he), fun H5 s5 => ?_⟩
      walk_at "go"
      exact ⟨_, _, rfl, s34.trans s5⟩
    · rintro σ H3 ⟨v2, v3, rfl, s3⟩
      walk_at "go"
      exact q H3 s3
  | tuple ds =>
    cases hx with | @tup a xs _ hs ha =>
    cases hy with | @tup b ys _ hs' ha' =>
    walk_at "go"
    refine isiX (ty_sqT hs') kb_tuple_int ?_
    walk_at "go"
    refine cut (fun σ H' => σ = [some (.ref a), some (.ref b), none, none] ∧ H' = H) ?_ ?_
    · walk_at "go"
      refine isiX (ty_sqT hs') kb_tuple_tuple ?_
      walk_at "go"
      refine isiX (ty_sqT hs) kb_tuple_tuple ?_
      walk_at "go"
      exact ⟨rfl, rfl⟩
    rintro σ H1 ⟨rfl, rfl⟩
    walk_at "go"
    refine len_t hs (len_t hs' ?_)
    walk_at "go"
    rw [DpAll.len ha, DpAll.len ha']
    walk_at "go"
    refine forZT (n := ds.length) (by rw [DpAll.len ha, DpAll.len ha', Nat.min_self]) hs hs' (fun i σ H3 => ∃ (v2 v3 : Option V), σ = [some (.ref a), some (.ref b), v2, v3] ∧ Same H1 H3) ⟨none, none, rfl, Same.refl _⟩ (fun i σ H3 ⟨_, _, _, s⟩ => ⟨sq_t s hs, sq_t s hs'⟩) ?_ ?_
    · rintro i x' y' T σ H3 H4 hx' hy' ⟨v2, v3, rfl, s3⟩ hT s4 gT
      have s34 := s3.trans s4
      obtain ⟨e, he, hxe⟩ := DpAll.get ha hx'
      obtain ⟨e', he', hye⟩ := DpAll.get ha' hy'
      rw [he] at he'
      cases he'
      walk_at "go"
      refine ⟨x', y', e, rfl, Dp.up s34 hxe, Dp.up s34 hye, hd e (List.mem_of_getElem? he), fun H5 s5 => ?_⟩
      walk_at "go"
      exact ⟨_, _, rfl, s34.trans s5⟩
    · rintro σ H3 ⟨v2, v3, rfl, s3⟩
      walk_at "go"
      exact q H3 s3
end Pb

namespace Pb
/-! ### heights -/
instance : Inhabited Dd := ⟨⟨0, 0, 0⟩⟩
def hbStep (new : Dd) (h : Nat) (p : Dd × Nat) : Nat := if h ≤ p.2 ∧ clash p.1 new = true then p.2 + 1 else h
/-- the height of a deed behind others, whose heights are told beside them -/
def hb (new : Dd) (l : List (Dd × Nat)) : Nat := l.foldl (hbStep new) 0
/-- the first i heights -/
def htsN (ds : List Dd) : Nat → List Nat
  | 0 => []
  | i + 1 => htsN ds i ++ [hb (ds.getD i default) (ds.zip (htsN ds i))]
def hts (ds : List Dd) : List Nat := htsN ds ds.length
theorem htsN_len (ds : List Dd) : ∀ i, (htsN ds i).length = i
  | 0 => rfl
  | i + 1 => by
    show (htsN ds i ++ _).length = i + 1
    rw [List.length_append, htsN_len ds i]
    rfl
theorem hts_len (ds : List Dd) : (hts ds).length = ds.length := htsN_len ds _
theorem fold_take {α β : Type} (f : β → α → β) (b : β) {l : List α} {i : Nat} {x : α} (h : l[i]? = some x) : (l.take (i + 1)).foldl f b = f ((l.take i).foldl f b) x := by
  rw [List.take_add_one, h, List.foldl_append]
  rfl
/-- numbers from nought, as values -/
abbrev nv (ns : List Nat) : List V := ns.map fun n : Nat => V.int (n : Int)
theorem nv_at {ns : List Nat} {i : Nat} {v : V} (h : (nv ns)[i]? = some v) : ∃ n : Nat, ns[i]? = some n ∧ v = .int (n : Int) := by
  rw [List.getElem?_map] at h
  cases e : ns[i]? with
  | none => rw [e] at h; cases h
  | some n =>
    rw [e] at h
    exact ⟨n, rfl, (Option.some.inj h).symm⟩
theorem nv_get {ns : List Nat} {i n : Nat} (h : ns[i]? = some n) : (nv ns)[i]? = some (.int (n : Int)) := by
  rw [List.getElem?_map, h]
  rfl
theorem ref_get {as : List Addr} {i : Nat} {v : V} (h : (as.map V.ref)[i]? = some v) : ∃ a, as[i]? = some a ∧ v = .ref a := by
  rw [List.getElem?_map] at h
  cases e : as[i]? with
  | none => rw [e] at h; cases h
  | some n =>
    rw [e] at h
    exact ⟨n, rfl, (Option.some.inj h).symm⟩

theorem htsN_take (ds : List Dd) : ∀ {i j : Nat}, i ≤ j → (htsN ds j).take i = htsN ds i
  | i, 0, h => by
    have : i = 0 := by omega
    subst this
    rfl
  | i, j + 1, h => by
    by_cases e : i = j + 1
    · subst e
      exact List.take_of_length_le (by rw [htsN_len]; exact Nat.le_refl _)
    · show (htsN ds j ++ _).take i = _
      rw [List.take_append_of_le_length (by rw [htsN_len]; omega)]
      exact htsN_take ds (by omega)
theorem hts_at {ds : List Dd} {k : Nat} (h : k < ds.length) : (hts ds)[k]? = some (hb (ds.getD k default) (ds.zip (htsN ds k))) := by
  have e : (htsN ds (k + 1))[k]? = some (hb (ds.getD k default) (ds.zip (htsN ds k))) := by
    show (htsN ds k ++ [_])[k]? = _
    rw [List.getElem?_append_right (by rw [htsN_len]; exact Nat.le_refl _), htsN_len, Nat.sub_self]
    rfl
  rw [← htsN_take ds (show k + 1 ≤ ds.length by omega), List.getElem?_take, if_pos (by omega)] at e
  exact e
theorem htsN_at {ds : List Dd} {j k : Nat} (hj : j < k) (h : k ≤ ds.length) : (htsN ds k)[j]? = (hts ds)[j]? := by
  rw [hts, ← htsN_take ds h, List.getElem?_take, if_pos hj]
theorem htsN_pre (ds : List Dd) (m : Nat) : ∀ i, i ≤ m → i ≤ ds.length → htsN (ds.take m) i = htsN ds i
  | 0, _, _ => rfl
  | i + 1, h, h' => by
    have e := htsN_pre ds m i (by omega) (by omega)
    have g : (ds.take m).getD i default = ds.getD i default := by
      rw [List.getD_eq_getElem?_getD, List.getD_eq_getElem?_getD, List.getElem?_take, if_pos (by omega)]
    have z : (ds.take m).zip (htsN ds i) = ds.zip (htsN ds i) := by
      have key : ∀ (ns : List Nat) (ds : List Dd) (m : Nat), ns.length ≤ m → (ds.take m).zip ns = ds.zip ns := by
        intro ns
        induction ns with
        | nil => intro ds m _; simp
        | cons n r ih =>
          intro ds m hm
          cases ds with
          | nil => simp
          | cons d ds =>
            cases m with
            | zero => simp at hm
            | succ m =>
              rw [List.take_succ_cons, List.zip_cons_cons, List.zip_cons_cons, ih ds m (by simpa using hm)]
      exact key _ _ _ (by rw [htsN_len]; omega)
    show htsN (ds.take m) i ++ [_] = htsN ds i ++ [_]
    rw [e, g, z]
theorem hts_take (ds : List Dd) (m : Nat) : hts (ds.take m) = (hts ds).take m := by
  by_cases h : m ≤ ds.length
  · rw [hts, hts, List.length_take, Nat.min_eq_left h, htsN_pre ds m m (Nat.le_refl _) h, htsN_take ds h]
  · rw [List.take_of_length_le (by omega), List.take_of_length_le (by rw [hts_len]; omega)]
theorem nv_ok (ns : List Nat) : okD 2 (.list (ns.map fun n : Nat => PyData.int (n : Int))) := fun e he => by
  obtain ⟨d, _, rfl⟩ := List.mem_map.mp he
  trivial
theorem nv_dp {K : PySem.W.Frag} {H : Hp} {p : Addr} {ns : List Nat} (h : H p = some (.lst (nv ns))) : Dp K H (.ref p) (.list (ns.map fun n : Nat => PyData.int (n : Int))) := by
  refine .lst (.of h) ?_
  clear h
  induction ns with
  | nil => exact .nil
  | cons n r ih => exact .cons (.int _) ih

def sp_height_behind (K : PySem.W.Frag) : Sp := fun vs H Q _ => ∃ a p q d as ds ns, vs = [.ref a, .ref p, .ref q] ∧ TD H a d ∧ LD H p as ds ∧ H q = some (.lst (nv ns)) ∧ ∀ H', Same H H' → Q (.int (hb d (ds.zip ns) : Nat)) H'
theorem len_height_behind {K vs H Q E} (h : sp_height_behind K vs H Q E) : vs.length = 3 := by
  obtain ⟨a, p, q, d, as, ds, ns, rfl, _⟩ := h
  rfl
abbrev n_height_behind : List Str := ["new", "diary", "known", "height", "old", "level"]
def t_height_behind (K : PySem.W.Frag) : TS :=
  (tSeq (tAsg (tC (.int 0)) (gName 3))
  (tSeq (tFor (RZ.iZipA K (tCons (tVar 1) (tCons (tVar 2) tNil))) (gTup K 2 (gCons (gName 4) (gCons (gName 5) gNil)))
  (tIfS (tAnd (tTest (tOp rGe (tVar 5) (tVar 3))) (tB (tCall (sp_clash K) [] E0 (tCons (tVar 4) (tCons (tVar 0) tNil)))))
  (tAsg (tOp rPlus (tVar 5) (tC (.int 1))) (gName 3))
  tNext))
  (tRet (tVar 3))))
theorem r_height_behind {K vs H Q E} (h : sp_height_behind K vs H Q E) : t_height_behind K { nx := fun _ H' => Q .non H', rt := Q } (start n_height_behind vs) H := by
  obtain ⟨a, p, q, d, as, ds, ns, rfl, ha, hp, hq, k⟩ := h
  unfold t_height_behind
  walk_at "go"
  refine forZ (n := min as.length ns.length) (by simp) (.of hp.1) (.of hq) (fun i σ H3 => ∃ (v4 v5 : Option V), σ = [some (.ref a), some (.ref p), some (.ref q), some (.int ((((ds.zip ns).take i).foldl (hbStep d) 0 : Nat) : Int)), v4, v5] ∧ Same H H3)
    ⟨none, none, rfl, Same.refl _⟩ (fun i σ H3 ⟨_, _, _, s⟩ => ⟨s.seq (.of hp.1), s.seq (.of hq)⟩) ?_ ?_
  · rintro i x y T σ H3 H4 hx hy ⟨v4, v5, rfl, s3⟩ hT s4 gT
    have s34 := s3.trans s4
    obtain ⟨b, hb', rfl⟩ := ref_get hx
    obtain ⟨n, hn, rfl⟩ := nv_at hy
    obtain ⟨e, he, hbe⟩ := hp.2.get hb'
    have hz : (ds.zip ns)[i]? = some (e, n) := List.getElem?_zip_eq_some.mpr ⟨he, hn⟩
    have hf := fold_take (hbStep d) 0 hz
    generalize ((ds.zip ns).take i).foldl (hbStep d) 0 = h0 at hf
    walk_at "go"
    refine ite2 (fun c => ?_) (fun c => ?_)
    · walk_at "go"
      refine ⟨b, a, e, d, rfl, s34 _ _ hbe, s34 _ _ ha, ?_⟩
      walk_at "go"
      refine ite2 (fun c2 => ?_) (fun c2 => ?_)
      · refine ⟨some (.ref b), some (.int (n : Int)), ?_, s34⟩
        rw [hf, hbStep, if_pos ⟨by simpa using c, c2⟩]
        rfl
      · refine ⟨some (.ref b), some (.int (n : Int)), ?_, s34⟩
        rw [hf, hbStep, if_neg (fun h => c2 h.2)]
    · refine ⟨some (.ref b), some (.int (n : Int)), ?_, s34⟩
      rw [hf, hbStep, if_neg (fun h => c (by simpa using h.1))]
  · rintro σ H3 ⟨v4, v5, rfl, s3⟩
    walk_at "go"
    have e : (ds.zip ns).take (min as.length ns.length) = ds.zip ns := List.take_of_length_le (by rw [List.length_zip, hp.2.len]; exact Nat.le_refl _)
    rw [e]
    exact k H3 s3

def sp_heights (K : PySem.W.Frag) : Sp := fun vs H Q _ => ∃ p as ds, vs = [.ref p] ∧ LD H p as ds ∧ as.length ≤ 500 ∧ ∀ q H', H q = none → Same H H' → H' q = some (.lst (nv (hts ds))) → Q (.ref q) H'
theorem len_heights {K vs H Q E} (h : sp_heights K vs H Q E) : vs.length = 1 := by
  obtain ⟨p, as, ds, rfl, _⟩ := h
  rfl
abbrev n_heights : List Str := ["diary", "known", "new"]
def t_heights (K : PySem.W.Frag) : TS :=
  (tSeq (tAsg (tLst tNil) (gName 1))
  (tSeq (tFor (iList K (tVar 0)) (gName 2)
  (tDrop (tBM K "list" rAppend (tVar 1) (tCons (tCall (sp_height_behind K) [] E0 (tCons (tVar 2) (tCons (tVar 0) (tCons (tVar 1) tNil)))) tNil))))
  (tRet (tVar 1))))
theorem r_heights {K vs H Q E} (h : sp_heights K vs H Q E) : t_heights K { nx := fun _ H' => Q .non H', rt := Q } (start n_heights vs) H := by
  obtain ⟨p, as, ds, rfl, hp, hl, k⟩ := h
  unfold t_heights
  walk_at "go"
  refine lstQ fun q H1 hq s1 g1 => ?_
  walk_at "go"
  refine forL (.of (s1 _ _ hp.1)) (fun i σ H3 => ∃ (v2 : Option V), σ = [some (.ref p), some (.ref q), v2] ∧ Same H H3 ∧ H3 q = some (.lst (nv (htsN ds i)))) ⟨none, rfl, s1, g1⟩ (fun i σ H3 _ ⟨_, _, s, _⟩ => s.seq (.of hp.1)) ?_ ?_
  · rintro i x σ H3 hx ⟨v2, rfl, s3, g3⟩
    obtain ⟨a, ha, rfl⟩ := ref_get hx
    obtain ⟨d, hd, hTD⟩ := hp.2.get ha
    have hi := (List.getElem?_eq_some_iff.mp ha).1
    walk_at "go"
    refine ⟨ty_l g3, a, p, q, d, as, ds, htsN ds i, rfl, s3 _ _ hTD, hp.mono s3, g3, fun H4 s4 => ?_⟩
    walk_at "go"
    refine append_r (s3.trans s4) hq (s4 _ _ g3) (by rw [List.length_map, htsN_len]; omega) fun H5 s5 g5 _ => ?_
    refine ⟨_, rfl, s5, ?_⟩
    rw [g5]
    have : ds.getD i default = d := by simp [List.getD, hd]
    simp only [htsN, this, List.map_append, List.map_cons, List.map_nil]
  · rintro σ H3 ⟨v2, rfl, s3, g3⟩
    walk_at "go"
    rw [List.length_map, hp.2.len] at g3
    exact k q H3 hq s3 g3
end Pb

namespace Pb
open PySem PySem.Spec L2
/-! ### a diary done -/
theorem bit_at (b k : Nat) : (Builtin.bitAnd ((b : Int) / 2 ^ ((k : Int)).toNat) 1 = 1) ↔ b.testBit k = true := by
  have e : ((b : Int) / 2 ^ ((k : Int)).toNat) = ((b / 2 ^ k : Nat) : Int) := by
    rw [Int.toNat_natCast]
    simp
  rw [e, show (1 : Int) = ((1 : Nat) : Int) from rfl, band_nat, Nat.testBit, Nat.shiftRight_eq_div_pow, Nat.and_comm, Nat.one_and_eq_mod_two]
  have h2 : b / 2 ^ k % 2 < 2 := Nat.mod_lt _ (by decide)
  simp only [bne_iff_ne]
  omega
theorem bit_dec (b k : Nat) : decide (Builtin.bitAnd ((b : Int) / 2 ^ ((k : Int)).toNat) 1 = 1) = b.testBit k := by
  rw [Bool.eq_iff_iff, decide_eq_true_iff]
  exact bit_at b k
/-- the boxes below n that b tells -/
def bx (n b : Nat) : List Nat := (List.range n).filter fun k => b.testBit k
theorem mem_bx {n b k : Nat} : k ∈ bx n b ↔ k < n ∧ b.testBit k = true := by
  unfold bx
  rw [List.mem_filter, List.mem_range]
theorem bx_lt {n b k m : Nat} (h : k ∈ bx n b) (hb : b < 2 ^ m) : k < m := by
  rcases Nat.lt_or_ge k m with q | q
  · exact q
  · have := Nat.testBit_lt_two_pow (Nat.lt_of_lt_of_le hb (Nat.pow_le_pow_right (by decide) q))
    rw [(mem_bx.mp h).2] at this
    cases this
theorem bx_cut {n m b : Nat} (h : n ≤ m) (hb : b < 2 ^ n) : bx m b = bx n b := by
  unfold bx
  obtain ⟨d, rfl⟩ := Nat.exists_eq_add_of_le h
  rw [List.range_add, List.filter_append]
  have : ((List.range d).map (n + ·)).filter (fun k => b.testBit k) = [] := by
    rw [List.filter_eq_nil_iff]
    intro k hk
    obtain ⟨j, _, rfl⟩ := List.mem_map.mp hk
    rw [Nat.testBit_lt_two_pow (Nat.lt_of_lt_of_le hb (Nat.pow_le_pow_right (by decide) (Nat.le_add_right n j)))]
    decide
  rw [this, List.append_nil]
def saidM (d : Dd) (held : List Int) : Int := (bx 60 d.l).foldl (fun (t : Int) (k : Nat) => t + ((k : Int) + 1) * held.getD k 0) d.n
def setM (said : Int) (held : List Int) (ks : List Nat) : List Int := ks.foldl (fun h k => h.set k (said + k)) held
def stepM (st : List Int × List Int) (d : Dd) : List Int × List Int := (st.1 ++ [saidM d st.2], setM (saidM d st.2) st.2 (bx 60 d.c))
def doneM (ds : List Dd) (held : List Int) : List Int × List Int := ds.foldl stepM ([], held)
theorem setM_len (said : Int) : ∀ (ks : List Nat) (held : List Int), (setM said held ks).length = held.length
  | [], _ => rfl
  | k :: ks, held => by
    unfold setM
    rw [List.foldl_cons]
    exact (setM_len said ks _).trans (List.length_set ..)
theorem foldM_len : ∀ (ds : List Dd) (st : List Int × List Int), (ds.foldl stepM st).1.length = st.1.length + ds.length ∧ (ds.foldl stepM st).2.length = st.2.length
  | [], st => ⟨rfl, rfl⟩
  | d :: ds, st => by
    rw [List.foldl_cons]
    obtain ⟨a, b⟩ := foldM_len ds (stepM st d)
    refine ⟨?_, ?_⟩
    · rw [a]
      simp [stepM]
      omega
    · rw [b]
      exact setM_len _ _ _
theorem doneM_len (ds : List Dd) (held : List Int) : (doneM ds held).1.length = ds.length ∧ (doneM ds held).2.length = held.length := by
  obtain ⟨a, b⟩ := foldM_len ds ([], held)
  exact ⟨by rw [doneM, a]; simp, b⟩
/-- a deed of boxes below n -/
def Fits (n : Nat) (d : Dd) : Prop := d.l ||| d.c < 2 ^ n
instance (n : Nat) (d : Dd) : Decidable (Fits n d) := inferInstanceAs (Decidable (d.l ||| d.c < 2 ^ n))
theorem fits_l {n : Nat} {d : Dd} (h : Fits n d) : d.l < 2 ^ n := Nat.lt_of_le_of_lt Nat.left_le_or h
theorem fits_c {n : Nat} {d : Dd} (h : Fits n d) : d.c < 2 ^ n := Nat.lt_of_le_of_lt Nat.right_le_or h
/-- whole numbers, as values -/
abbrev iv (ns : List Int) : List V := ns.map V.int

def sp_boxes_of (K : PySem.W.Frag) : Sp := fun vs H Q _ => ∃ b : Nat, vs = [.int b] ∧ ∀ p H', H p = none → Same H H' → H' p = some (.lst (nv (bx 60 b))) → Q (.ref p) H'
theorem len_boxes_of {K vs H Q E} (h : sp_boxes_of K vs H Q E) : vs.length = 1 := by
  obtain ⟨b, rfl, _⟩ := h
  rfl
abbrev n_boxes_of : List Str := ["bits", "k"]
def t_boxes_of (K : PySem.W.Frag) : TS :=
  (tRet (tLc (iRng1 (tCons (tC (.int 60)) tNil)) (gName 1) (tTest (tOp (rEqA K) (tOp rAnd (tOp rShr (tVar 0) (tVar 1)) (tC (.int 1))) (tC (.int 1)))) (tVar 1) [1]))
theorem fm_nv (c : Nat → Bool) : ∀ l : List Nat, l.filterMap (fun k => if c k = true then some (V.int (k : Int)) else none) = nv (l.filter c)
  | [] => rfl
  | k :: l => by
    rw [List.filterMap_cons, List.filter_cons]
    cases h : c k
    · simp [fm_nv c l]
    · simp [fm_nv c l]
theorem r_boxes_of {K vs H Q E} (h : sp_boxes_of K vs H Q E) : t_boxes_of K { nx := fun _ H' => Q .non H', rt := Q } (start n_boxes_of vs) H := by
  obtain ⟨b, rfl, q⟩ := h
  unfold t_boxes_of
  walk_at "go"
  refine lcR1 (n := 60) (fun k => if b.testBit k = true then some (.int (k : Int)) else none) (by decide) ?_ ?_
  · intro k H3 hk s3 R hR R2 hR2
    walk_at "go"
    refine ⟨by omega, ?_⟩
    rw [bit_dec]
    cases c : b.testBit k with
    | true =>
      walk_at "go"
      exact hR _ _ (by rw [c]; rfl) (Same.refl _)
    | false =>
      walk_at "go"
      exact hR2 _ (by rw [c]; rfl) (Same.refl _)
  · intro p H' hp s g
    rw [fm_nv] at g
    exact q p H' hp s g

def sp_said_by (K : PySem.W.Frag) : Sp := fun vs H Q _ => ∃ a q d cs, vs = [.ref a, .ref q] ∧ TD H a d ∧ H q = some (.lst (iv cs)) ∧ d.l < 2 ^ cs.length ∧ ∀ H', Same H H' → Q (.int (saidM d cs)) H'
theorem len_said_by {K vs H Q E} (h : sp_said_by K vs H Q E) : vs.length = 2 := by
  obtain ⟨a, q, d, cs, rfl, _⟩ := h
  rfl
abbrev n_said_by : List Str := ["deed", "held", "total", "k"]
def t_said_by (K : PySem.W.Frag) : TS :=
  (tSeq (tAsg (tOp (rIx K) (tVar 0) (tC (.int 0))) (gName 2))
  (tSeq (tFor (iList K (tCall (sp_boxes_of K) [] E0 (tCons (tOp (rIx K) (tVar 0) (tC (.int 1))) tNil))) (gName 3)
  (tAsg (tOp rPlus (tVar 2) (tOp rMul (tOp rPlus (tVar 3) (tC (.int 1))) (tOp (rIx K) (tVar 1) (tVar 3)))) (gName 2)))
  (tRet (tVar 2))))
theorem iv_get {ns : List Int} {i : Nat} (h : i < ns.length) : (iv ns)[i]? = some (.int (ns.getD i 0)) := by
  rw [List.getElem?_map, List.getElem?_eq_getElem h]
  simp [List.getD, h]
theorem r_said_by {K vs H Q E} (h : sp_said_by K vs H Q E) : t_said_by K { nx := fun _ H' => Q .non H', rt := Q } (start n_said_by vs) H := by
  obtain ⟨a, q, d, cs, rfl, ha, hq, hl, k⟩ := h
  unfold t_said_by
  walk_at "go"
  refine ⟨d.l, rfl, fun p H1 hp s1 g1 => ?_⟩
  refine forL (.of g1) (fun i σ H3 => ∃ (v3 : Option V), σ = [some (.ref a), some (.ref q), some (.int (((bx 60 d.l).take i).foldl (fun (t : Int) (k : Nat) => t + ((k : Int) + 1) * cs.getD k 0) d.n)), v3] ∧ H3 = H1) ⟨none, rfl, rfl⟩ (fun i σ H3 _ ⟨_, _, e⟩ => by rw [e]; exact .of g1) ?_ ?_
  · rintro i x σ H3 hx ⟨v3, rfl, rfl⟩
    obtain ⟨n, hn, rfl⟩ := nv_at hx
    have hb := bx_lt (List.mem_of_getElem? hn) hl
    have hf := fold_take (fun (t : Int) (k : Nat) => t + ((k : Int) + 1) * cs.getD k 0) d.n hn
    have h60 := (mem_bx.mp (List.mem_of_getElem? hn)).1
    have gq := s1 _ _ hq
    walk_at "go"
    refine ix_l' gq (atI_nat (j := n) (iv_get hb)) ?_
    walk_at "go"
    exact ⟨of_eq_true (cmw ⟨by omega, by omega⟩), some (.int (n : Int)), by rw [hf], rfl⟩
  · rintro σ H3 ⟨v3, rfl, rfl⟩
    walk_at "go"
    rw [List.length_map, List.take_length]
    exact k H3 s1

def sp_done (K : PySem.W.Frag) (G : Str → Addr) : Sp := fun vs H Q E => ∃ p q as ds cs, vs = [.ref p, .ref q] ∧ LD H p as ds ∧ H q = some (.lst (iv cs)) ∧ cs.length ≤ 60 ∧ ds.length ≤ 100 ∧
  ((∃ d ∈ ds, ¬ Fits cs.length d) → ∀ H', Same H H' → E (.ref (G "NoBox")) none H') ∧
  ((∀ d ∈ ds, Fits cs.length d) → ∀ t u v H', Same H H' → H t = none → H u = none → H v = none → u ≠ v → H' t = some (.tup [.ref u, .ref v]) → H' u = some (.lst (iv (doneM ds cs).1)) → H' v = some (.lst (iv (doneM ds cs).2)) → Q (.ref t) H')
theorem len_done {K G vs H Q E} (h : sp_done K G vs H Q E) : vs.length = 2 := by
  obtain ⟨p, q, as, ds, cs, rfl, _⟩ := h
  rfl
abbrev n_done : List Str := ["diary", "contents", "held", "told", "deed", "said", "k"]
def t_done (K : PySem.W.Frag) (G : Str → Addr) (E : XK) : TS :=
  (tSeq (tAsg (tCB (rListOf K) (tCons (tVar 1) tNil)) (gName 2))
  (tSeq (tAsg (tLst tNil) (gName 3))
  (tSeq (tFor (iList K (tVar 0)) (gName 4)
  (tSeq (tIfS (tTest (tOp (rNeA K) (tOp rShr (tOp rOr (tOp (rIx K) (tVar 4) (tC (.int 1))) (tOp (rIx K) (tVar 4) (tC (.int 2)))) (tCB (rLen K) (tCons (tVar 2) tNil))) (tC (.int 0))))
  (fun _ _ H => E (.ref (G "NoBox")) none H)
  tNext)
  (tSeq (tAsg (tCall (sp_said_by K) [] E0 (tCons (tVar 4) (tCons (tVar 2) tNil))) (gName 5))
  (tSeq (tFor (iList K (tCall (sp_boxes_of K) [] E0 (tCons (tOp (rIx K) (tVar 4) (tC (.int 2))) tNil))) (gName 6)
  (tAsg (tOp rPlus (tVar 5) (tVar 6)) (gSub (tVar 2) (tVar 6) rSetL)))
  (tDrop (tBM K "list" rAppend (tVar 3) (tCons (tVar 5) tNil)))))))
  (tRet (tTup (tCons (tVar 3) (tCons (tVar 2) tNil)))))))
theorem iv_set {cs : List Int} {k : Nat} {x : Int} : (iv cs).set k (.int x) = iv (cs.set k x) := by
  rw [iv, iv, List.map_set]
theorem iv_snoc {cs : List Int} {x : Int} : iv cs ++ [.int x] = iv (cs ++ [x]) := by
  simp [iv]
theorem shr_dec (x n : Nat) : (!decide (((x : Nat) : Int) / 2 ^ ((n : Nat) : Int).toNat = 0)) = decide (¬ x < 2 ^ n) := by
  have e : ((x : Int) / 2 ^ ((n : Int)).toNat) = ((x / 2 ^ n : Nat) : Int) := by
    rw [Int.toNat_natCast]
    simp
  rw [e]
  have h : x / 2 ^ n = 0 ↔ x < 2 ^ n := Nat.div_eq_zero_iff_lt (Nat.two_pow_pos n)
  by_cases c : x < 2 ^ n
  · rw [decide_eq_true (by rw [h.mpr c]; rfl), decide_eq_false (fun q => q c)]
    rfl
  · rw [decide_eq_false (fun q => c (h.mp (by omega))), decide_eq_true c]
    rfl
theorem r_done {K G vs H Q E} (h : sp_done K G vs H Q E) : t_done K G E { nx := fun _ H' => Q .non H', rt := Q } (start n_done vs) H := by
  obtain ⟨p, q, as, ds, cs, rfl, hp, hq, hcl, hdl, kE, kQ⟩ := h
  unfold t_done
  walk_at "go"
  refine listOf (.of hq) fun v H1 hv s1 g1 => ?_
  walk_at "go"
  refine lstQ fun u H2 hu s2 g2 => ?_
  have nuv : u ≠ v := (ne_of_none g1 hu).symm
  have hu0 := s1.free hu
  walk_at "go"
  refine forL (.of ((s1.trans s2) _ _ hp.1)) (fun i σ H3 => ∃ (v4 v5 v6 : Option V), σ = [some (.ref p), some (.ref q), some (.ref v), some (.ref u), v4, v5, v6] ∧ Same H H3 ∧ H3 u = some (.lst (iv (doneM (ds.take i) cs).1)) ∧ H3 v = some (.lst (iv (doneM (ds.take i) cs).2)) ∧ ∀ d ∈ ds.take i, Fits cs.length d)
    ⟨none, none, none, rfl, s1.trans s2, g2, s2 _ _ g1, by simp⟩ (fun i σ H3 _ ⟨_, _, _, _, s, _⟩ => s.seq (.of hp.1)) ?_ ?_
  · rintro i x σ H3 hx ⟨v4, v5, v6, rfl, s3, gu, gv, hfit⟩
    obtain ⟨a, ha, rfl⟩ := ref_get hx
    obtain ⟨d, hd, td⟩ := hp.2.get ha
    have hi := (List.getElem?_eq_some_iff.mp hd).1
    obtain ⟨l1, l2⟩ := doneM_len (ds.take i) cs
    have hf : doneM (ds.take (i + 1)) cs = stepM (doneM (ds.take i) cs) d := fold_take stepM _ hd
    have htk : ds.take (i + 1) = ds.take i ++ [d] := by rw [List.take_add_one, hd]; rfl
    generalize doneM (ds.take i) cs = st at *
    have td3 := s3 _ _ td
    walk_at "go"
    rw [List.length_map, l2]
    refine ⟨by omega, ?_⟩
    rw [shr_dec, show decide (¬ d.l ||| d.c < 2 ^ cs.length) = decide (¬ Fits cs.length d) from rfl]
    by_cases c : Fits cs.length d
    · rw [decide_eq_false (fun q => q c)]
      walk_at "go"
      refine ⟨a, v, d, st.2, rfl, td3, gv, by rw [l2]; exact fits_l c, fun H4 s4 => ?_⟩
      have td4 := s4 _ _ td3
      walk_at "go"
      refine ⟨d.c, rfl, fun b H5 hb s5 g5 => ?_⟩
      have s05 := (s3.trans s4).trans s5
      have gv5 := s5 _ _ (s4 _ _ gv)
      have gu5 := s5 _ _ (s4 _ _ gu)
      have nvb : v ≠ b := ne_of_none (s4 _ _ gv) hb
      refine forL (.of g5) (fun j σ H6 => ∃ (v6 : Option V), σ = [some (.ref p), some (.ref q), some (.ref v), some (.ref u), some (.ref a), some (.int (saidM d st.2)), v6] ∧ Same H H6 ∧ H6 u = some (.lst (iv st.1)) ∧ H6 v = some (.lst (iv (setM (saidM d st.2) st.2 ((bx 60 d.c).take j)))) ∧ H6 b = some (.lst (nv (bx 60 d.c))))
        ⟨v6, rfl, s05, gu5, gv5, g5⟩ (fun j σ H6 _ ⟨_, _, _, _, _, g⟩ => .of g) ?_ ?_
      · rintro j x σ H6 hx ⟨v6, rfl, s6, gu6, gv6, g6⟩
        obtain ⟨n, hn, rfl⟩ := nv_at hx
        have hb' := bx_lt (List.mem_of_getElem? hn) (fits_c c)
        have hf2 : setM (saidM d st.2) st.2 ((bx 60 d.c).take (j + 1)) = (setM (saidM d st.2) st.2 ((bx 60 d.c).take j)).set n (saidM d st.2 + n) := fold_take _ _ hn
        walk_at "go"
        refine set_r s6 hv gv6 (by rw [List.length_map, setM_len, l2]; exact hb') fun H7 s7 g7 ne7 => ?_
        refine ⟨_, rfl, s7, (ne7 u nuv).trans gu6, ?_, (ne7 b nvb.symm).trans g6⟩
        rw [g7, iv_set, hf2]
      · rintro σ H6 ⟨v6, rfl, s6, gu6, gv6, g6⟩
        rw [List.length_map, List.take_length] at gv6
        walk_at "go"
        refine ⟨ty_l gu6, ?_⟩
        refine append_r s6 hu0 gu6 (by rw [List.length_map, l1, List.length_take]; omega) fun H7 s7 g7 ne7 => ?_
        refine ⟨_, _, _, rfl, s7, ?_, ?_, fun e he => ?_⟩
        · rw [g7, hf, iv_snoc]
          rfl
        · rw [ne7 v nuv.symm, gv6, hf]
          rfl
        · rw [htk] at he
          rcases List.mem_append.mp he with he | he
          · exact hfit e he
          · rw [List.mem_singleton.mp he]
            exact c
    · rw [decide_eq_true c]
      walk_at "go"
      exact kE ⟨d, List.mem_of_getElem? hd, c⟩ H3 s3
  · rintro σ H3 ⟨v4, v5, v6, rfl, s3, gu, gv, hfit⟩
    have e : ds.take (as.map V.ref).length = ds := List.take_of_length_le (by rw [List.length_map, hp.2.len]; exact Nat.le_refl _)
    rw [e] at gu gv hfit
    walk_at "go"
    refine tupQ fun t H4 ht s4 g4 => ?_
    exact kQ hfit t u v H4 (s3.trans s4) (s3.free ht) hu0 hv nuv g4 (s4 _ _ gu) (s4 _ _ gv)
end Pb

namespace Pb
open PySem PySem.Spec L2
/-! ### drawn deeds, contents -/
def sp_whole (K : PySem.W.Frag) : Sp := fun vs H Q _ => ∃ i : Int, vs = [.int i] ∧ Q (.bl true) H
theorem len_whole {K vs H Q E} (h : sp_whole K vs H Q E) : vs.length = 1 := by
  obtain ⟨i, rfl, _⟩ := h
  rfl
abbrev n_whole : List Str := ["_law_found"]
def t_whole (K : PySem.W.Frag) : TS :=
  (tRet (tAndV (tCB (rIsi K) (tCons (tVar 0) (tCons (tC (.ty "int")) tNil))) (tNotV (tCB (rIsi K) (tCons (tVar 0) (tCons (tC (.ty "bool")) tNil))))))
theorem r_whole {K vs H Q E} (h : sp_whole K vs H Q E) : t_whole K { nx := fun _ H' => Q .non H', rt := Q } (start n_whole vs) H := by
  obtain ⟨i, rfl, q⟩ := h
  unfold t_whole
  walk_at "go"
  exact q

def sp_power (K : PySem.W.Frag) : Sp := fun vs H Q _ => ∃ k : Nat, vs = [.int k] ∧ k < 1000 ∧ Q (.int ((2 ^ k : Nat) : Int)) H
theorem len_power {K vs H Q E} (h : sp_power K vs H Q E) : vs.length = 1 := by
  obtain ⟨i, rfl, _⟩ := h
  rfl
abbrev n_power : List Str := ["_law_k", "_law_found", "_law_step"]
def t_power (K : PySem.W.Frag) : TS :=
  (tSeq (tAsg (tC (.int 1)) (gName 1))
  (tSeq (tFor (iRng1 (tCons (tVar 0) tNil)) (gName 2)
  (tAsg (tOp rMul (tVar 1) (tC (.int 2))) (gName 1)))
  (tRet (tVar 1))))
theorem r_power {K vs H Q E} (h : sp_power K vs H Q E) : t_power K { nx := fun _ H' => Q .non H', rt := Q } (start n_power vs) H := by
  obtain ⟨k, rfl, hk, q⟩ := h
  unfold t_power
  walk_at "go"
  refine forR1 (n := k) (fun i σ H3 => ∃ (v2 : Option V), σ = [some (.int (k : Int)), some (.int ((2 ^ i : Nat) : Int)), v2] ∧ H3 = H) (by omega) ⟨none, rfl, rfl⟩ ?_ ?_
  · rintro i σ H3 hi ⟨v2, rfl, rfl⟩
    walk_at "go"
    refine ⟨some (.int (i : Int)), ?_, rfl⟩
    rw [Nat.pow_succ, Int.natCast_mul]
    rfl
  · rintro σ H3 ⟨v2, rfl, rfl⟩
    walk_at "go"
    exact q

def sp_wide (K : PySem.W.Frag) : Sp := fun vs H Q _ => ∃ c f : Int, vs = [.int c, .int f] ∧ ∀ x : Nat, Q (.int (x : Int)) H
theorem len_wide {K vs H Q E} (h : sp_wide K vs H Q E) : vs.length = 2 := by
  obtain ⟨c, f, rfl, _⟩ := h
  rfl
abbrev n_wide : List Str := ["_law_cell", "_law_factor"]
def t_wide (K : PySem.W.Frag) : TS :=
  (tRet (tOp rMod (tOp rMod (tOp rMul (tOp rMod (tVar 0) (tOp rSub (tOp rPow (tC (.int 2)) (tC (.int 61))) (tC (.int 1)))) (tVar 1)) (tOp rSub (tOp rPow (tC (.int 2)) (tC (.int 61))) (tC (.int 1)))) (tOp rPow (tC (.int 2)) (tC (.int 60)))))
theorem r_wide {K vs H Q E} (h : sp_wide K vs H Q E) : t_wide K { nx := fun _ H' => Q .non H', rt := Q } (start n_wide vs) H := by
  obtain ⟨c, f, rfl, q⟩ := h
  unfold t_wide
  walk_at "go"
  obtain ⟨x, hx⟩ := nn_nat (Int.emod_nonneg (c % 2305843009213693951 * f % 2305843009213693951) (show (1152921504606846976 : Int) ≠ 0 by decide))
  refine ⟨of_eq_true (cmw (by omega)), ?_⟩
  rw [hx]
  exact q x

def sp_ldeed (K : PySem.W.Frag) : Sp := fun vs H Q _ => ∃ (c : Int) (l : Nat), vs = [.int c, .int l] ∧ ∀ p H' d, H p = none → Same H H' → TD H' p d → Q (.ref p) H'
theorem len_ldeed {K vs H Q E} (h : sp_ldeed K vs H Q E) : vs.length = 2 := by
  obtain ⟨c, l, rfl, _⟩ := h
  rfl
abbrev n_ldeed : List Str := ["_law_cell", "_law_lift", "_law_rest", "_law_looks", "_law_changes"]
def t_ldeed (K : PySem.W.Frag) : TS :=
  (tSeq (tAsg (tOp rDiv (tVar 0) (tC (.int 4))) (gName 2))
  (tSeq (tIfS (tTest (tOp (rEqA K) (tOp rMod (tVar 0) (tC (.int 4))) (tC (.int 3))))
  (tRet (tTup (tCons (tOp rMod (tOp rDiv (tOp rDiv (tVar 2) (tOp rPow (tC (.int 2)) (tC (.int 60)))) (tOp rPow (tC (.int 2)) (tC (.int 60)))) (tOp rPow (tC (.int 10)) (tC (.int 60)))) (tCons (tOp rMod (tVar 2) (tOp rPow (tC (.int 2)) (tC (.int 60)))) (tCons (tOp rMod (tOp rDiv (tVar 2) (tOp rPow (tC (.int 2)) (tC (.int 60)))) (tOp rPow (tC (.int 2)) (tC (.int 60)))) tNil)))))
  tNext)
  (tSeq (tIfS (tTest (tOp (rEqA K) (tOp rMod (tVar 0) (tC (.int 4))) (tC (.int 2))))
  (tSeq (tAsg (tOp rAnd (tOp rAnd (tCall (sp_wide K) [] E0 (tCons (tVar 0) (tCons (tC (.int 48271)) tNil))) (tCall (sp_wide K) [] E0 (tCons (tVar 0) (tCons (tC (.int 69621)) tNil)))) (tCall (sp_wide K) [] E0 (tCons (tVar 0) (tCons (tC (.int 40692)) tNil)))) (gName 3))
  (tSeq (tAsg (tOp rAnd (tOp rAnd (tCall (sp_wide K) [] E0 (tCons (tVar 0) (tCons (tC (.int 16807)) tNil))) (tCall (sp_wide K) [] E0 (tCons (tVar 0) (tCons (tC (.int 39373)) tNil)))) (tCall (sp_wide K) [] E0 (tCons (tVar 0) (tCons (tC (.int 30269)) tNil)))) (gName 4))
  (tRet (tTup (tCons (tOp rMod (tOp rMul (tVar 0) (tC (.int 48271))) (tOp rPow (tC (.int 10)) (tC (.int 60)))) (tCons (tVar 3) (tCons (tOp rAnd (tVar 4) (tCall (sp_wide K) [] E0 (tCons (tVar 0) (tCons (tC (.int 24847)) tNil)))) tNil)))))))
  tNext)
  (tSeq (tAsg (tOp rMul (tOp (rIx K) (tLst (tCons (tC (.int 0)) (tCons (tC (.int 1)) (tCons (tC (.int 2)) (tCons (tC (.int 4)) (tCons (tC (.int 8)) (tCons (tC (.int 16)) (tCons (tC (.int 3)) (tCons (tC (.int 20)) tNil))))))))) (tOp rMod (tOp rDiv (tVar 2) (tC (.int 3))) (tC (.int 8)))) (tVar 1)) (gName 3))
  (tRet (tTup (tCons (tOp rMod (tVar 2) (tC (.int 3))) (tCons (tVar 3) (tCons (tOp rMul (tOp (rIx K) (tLst (tCons (tC (.int 0)) (tCons (tC (.int 0)) (tCons (tC (.int 1)) (tCons (tC (.int 2)) (tCons (tC (.int 4)) (tCons (tC (.int 8)) (tCons (tC (.int 16)) (tCons (tC (.int 9)) tNil))))))))) (tOp rMod (tOp rDiv (tVar 2) (tC (.int 24))) (tC (.int 8)))) (tVar 1)) tNil)))))))))
theorem nat8 {v : Int} (h : 0 ≤ v ∧ v < 8) : v = 0 ∨ v = 1 ∨ v = 2 ∨ v = 3 ∨ v = 4 ∨ v = 5 ∨ v = 6 ∨ v = 7 := by omega
theorem ix8 {K : PySem.W.Frag} {H : Hp} {p : Addr} {a0 a1 a2 a3 a4 a5 a6 a7 : Nat} {v : Int} {Q : VK} (g : H p = some (.lst [.int a0, .int a1, .int a2, .int a3, .int a4, .int a5, .int a6, .int a7])) (hs : a0 < 100 ∧ a1 < 100 ∧ a2 < 100 ∧ a3 < 100 ∧ a4 < 100 ∧ a5 < 100 ∧ a6 < 100 ∧ a7 < 100) (h : 0 ≤ v ∧ v < 8) (q : ∀ n : Nat, n < 100 → Q (.int (n : Int)) H) : rIx K (.ref p) (.int v) H Q := by
  obtain ⟨h0, h1, h2, h3, h4, h5, h6, h7⟩ := hs
  rcases nat8 h with rfl | rfl | rfl | rfl | rfl | rfl | rfl | rfl
  · exact ix_l' g rfl (q _ h0)
  · exact ix_l' g rfl (q _ h1)
  · exact ix_l' g rfl (q _ h2)
  · exact ix_l' g rfl (q _ h3)
  · exact ix_l' g rfl (q _ h4)
  · exact ix_l' g rfl (q _ h5)
  · exact ix_l' g rfl (q _ h6)
  · exact ix_l' g rfl (q _ h7)
theorem r_ldeed {K vs H Q E} (h : sp_ldeed K vs H Q E) : t_ldeed K { nx := fun _ H' => Q .non H', rt := Q } (start n_ldeed vs) H := by
  obtain ⟨c, l, rfl, q⟩ := h
  unfold t_ldeed
  walk_at "go"
  refine ite2 (fun c1 => ?_) (fun c1 => ?_)
  · walk_at "go"
    obtain ⟨x, hx⟩ := nn_nat (Int.emod_nonneg (c / 4) (show (1152921504606846976 : Int) ≠ 0 by decide))
    obtain ⟨y, hy⟩ := nn_nat (Int.emod_nonneg (c / 4 / 1152921504606846976) (show (1152921504606846976 : Int) ≠ 0 by decide))
    rw [hx, hy]
    refine tupQ fun p H1 hp s1 g1 => q p H1 ⟨_, x, y⟩ hp s1 g1
  · walk_at "go"
    refine ite2 (fun c2 => ?_) (fun c2 => ?_)
    · walk_at "go"
      refine ⟨_, _, rfl, fun x1 => ?_⟩
      walk_at "go"
      refine ⟨_, _, rfl, fun x2 => ?_⟩
      walk_at "go"
      refine ⟨_, _, rfl, fun x3 => ?_⟩
      walk_at "go"
      refine ⟨_, _, rfl, fun x4 => ?_⟩
      walk_at "go"
      refine ⟨_, _, rfl, fun x5 => ?_⟩
      walk_at "go"
      refine ⟨_, _, rfl, fun x6 => ?_⟩
      walk_at "go"
      refine ⟨_, _, rfl, fun x7 => ?_⟩
      walk_at "go"
      refine tupQ fun p H1 hp s1 g1 => q p H1 ⟨_, _, _⟩ hp s1 g1
    · walk_at "go"
      refine lstQ fun p1 H1 hp1 s1 g1 => ?_
      refine ix8 (a0 := 0) (a1 := 1) (a2 := 2) (a3 := 4) (a4 := 8) (a5 := 16) (a6 := 3) (a7 := 20) g1 (by decide) (by omega) fun n hn => ?_
      walk_at "go"
      refine ⟨of_eq_true (cmw (by omega)), ?_⟩
      refine lstQ fun p2 H2 hp2 s2 g2 => ?_
      refine ix8 (a0 := 0) (a1 := 0) (a2 := 1) (a3 := 2) (a4 := 4) (a5 := 8) (a6 := 16) (a7 := 9) g2 (by decide) (by omega) fun n2 hn2 => ?_
      walk_at "go"
      refine ⟨of_eq_true (cmw (by omega)), ?_⟩
      refine tupQ fun p H3 hp s3 g3 => q p H3 ⟨c / 4 % 3, n * l, n2 * l⟩ ((s1.trans s2).free hp) ((s1.trans s2).trans s3) ?_
      show H3 p = some (.tup [.int (c / 4 % 3), .int ((n * l : Nat) : Int), .int ((n2 * l : Nat) : Int)])
      rw [Int.natCast_mul, Int.natCast_mul]
      exact g3

def sp_contents (K : PySem.W.Frag) : Sp := fun vs H Q _ => ∃ (a : Addr) (ns : List Int) (m : Nat), vs = [.ref a, .int m] ∧ SqL K H a (ns.map V.int) ∧ m ≤ 100 ∧ ∀ p H' cs, H p = none → Same H H' → H' p = some (.lst (iv cs)) → cs.length = m → Q (.ref p) H'
theorem len_contents {K vs H Q E} (h : sp_contents K vs H Q E) : vs.length = 2 := by
  obtain ⟨a, ns, m, rfl, _⟩ := h
  rfl
abbrev n_contents : List Str := ["_law_script", "_law_many", "_law_found", "_law_k"]
def t_contents (K : PySem.W.Frag) : TS :=
  (tSeq (tAsg (tLst tNil) (gName 2))
  (tSeq (tFor (iRng1 (tCons (tVar 1) tNil)) (gName 3)
  (tDrop (tBM K "list" rAppend (tVar 2) (tCons (tOp rSub (tOp rMod (tOp rMul (tCall (sp_cell_at K) [] E0 (tCons (tVar 0) (tCons (tVar 3) tNil))) (tOp rPlus (tC (.int 48271)) (tOp rMul (tC (.int 2)) (tVar 3)))) (tOp rSub (tOp rMul (tC (.int 2)) (tOp rPow (tC (.int 10)) (tC (.int 60)))) (tC (.int 1)))) (tOp rSub (tOp rPow (tC (.int 10)) (tC (.int 60))) (tC (.int 1)))) tNil))))
  (tRet (tVar 2))))
theorem r_contents {K vs H Q E} (h : sp_contents K vs H Q E) : t_contents K { nx := fun _ H' => Q .non H', rt := Q } (start n_contents vs) H := by
  obtain ⟨a, ns, m, rfl, ha, hm, q⟩ := h
  unfold t_contents
  walk_at "go"
  refine lstQ fun p H1 hp s1 g1 => ?_
  walk_at "go"
  refine forR1 (n := m) (fun i σ H3 => ∃ (v3 : Option V) (cs : List Int), σ = [some (.ref a), some (.int (m : Int)), some (.ref p), v3] ∧ Same H H3 ∧ H3 p = some (.lst (iv cs)) ∧ cs.length = i) (by omega) ⟨none, [], rfl, s1, g1, rfl⟩ ?_ ?_
  · rintro i σ H3 hi ⟨v3, cs, rfl, s3, g3, hl⟩
    walk_at "go"
    refine ⟨ty_l g3, a, ns, i, rfl, s3.seq ha, ?_⟩
    walk_at "go"
    refine ⟨of_eq_true (cmv (by omega)), ?_⟩
    refine append_r s3 hp g3 (by rw [List.length_map]; omega) fun H4 s4 g4 ne4 => ?_
    exact ⟨_, cs ++ [_], rfl, s4, by rw [g4, iv_snoc], by simp [hl]⟩
  · rintro σ H3 ⟨v3, cs, rfl, s3, g3, hl⟩
    walk_at "go"
    exact q p H3 cs hp s3 g3 hl

theorem len_lclash8 {K vs H Q E} (h : sp_clash K vs H Q E) : vs.length = 2 := len_clash h
abbrev n_lclash8 : List Str := ["_law_one", "_law_other"]
def t_lclash8 (K : PySem.W.Frag) : TS :=
  (tRet (tOrV (tOp (rNeA K) (tOp rAnd (tOp (rIx K) (tVar 0) (tC (.int 2))) (tOp rOr (tOp (rIx K) (tVar 1) (tC (.int 1))) (tOp (rIx K) (tVar 1) (tC (.int 2))))) (tC (.int 0))) (tOp (rNeA K) (tOp rAnd (tOp (rIx K) (tVar 0) (tC (.int 1))) (tOp (rIx K) (tVar 1) (tC (.int 2)))) (tC (.int 0)))))
theorem r_lclash8 {K vs H Q E} (h : sp_clash K vs H Q E) : t_lclash8 K { nx := fun _ H' => Q .non H', rt := Q } (start n_lclash8 vs) H := by
  obtain ⟨a, b, d, e, rfl, ha, hb, q⟩ := h
  unfold t_lclash8
  walk_at "go"
  rw [nz_bne]
  unfold clash at q
  refine ite2 (fun h => ?_) (fun h => ?_)
  · rw [h, Bool.true_or] at q
    exact q
  · walk_at "go"
    rw [nz_bne]
    rw [Bool.not_eq_true] at h
    rw [h, Bool.false_or, Nat.and_comm] at q
    exact q
end Pb

namespace Pb
open PySem PySem.Spec L2
/-! ### errors of the program's own classes -/
def tWhen (p : Prop) (t : TS) : TS := fun D σ H => p ∧ t D σ H
theorem pss_when {X : Cx} {p : Prop} {bs : List Stmt} {t : TS} (h : p → PSs X bs t) : PSs X bs (tWhen p t) := ⟨fun pins s σ H D I z => (h z.1).run pins s σ H D I z.2⟩
abbrev errNames : List Str := ["NoDeed", "NoPass", "Nothing", "NoBox"]
/-- what the class c says of itself and of the others -/
structure XF (K : PySem.W.Frag) (G : Str → Addr) (c : Str) : Prop where
  ex : ExcC K (G c)
  es : PySem.W.exmOne K (.ref (G c)) (.ref (G c)) = some true
  eb : PySem.W.exmOne K (.ref (G c)) (.ref (G "PassbyError")) = some true
  kv : PySem.W.kitOne K (.ref (G c)) (.type "ValueError") = some true
  ks : PySem.W.kitOne K (.ref (G c)) (.ref (G c)) = some true
  ko : ∀ x ∈ errNames, x ≠ c → PySem.W.kitOne K (.ref (G c)) (.ref (G x)) = some false
theorem cls_isSome {K : PySem.W.Frag} {D : Addr} (h : PySem.W.hasDictIn K D = true) : (PySem.W.clsIn K D).isSome = true := by
  obtain ⟨cd, hc, _⟩ := PySem.W.any_some h
  rw [hc]
  rfl
theorem kit_cls_own {K : PySem.W.Frag} {t : Value} {D : Addr} {b : Bool} (hd : PySem.W.hasDictIn K D = true) (ht : PySem.W.typeIn K (.ref D) = some (.type "type")) (h : PySem.W.subIn K t (.ref D) = some b) : PySem.W.kitCls K t (.ref D) = some b := by
  have e : ((PySem.W.clsIn K D).isSome && PySem.W.typeIn K (.ref D) == some (.type "type")) = true := by
    rw [cls_isSome hd, ht]
    rfl
  show (if ((PySem.W.clsIn K D).isSome && PySem.W.typeIn K (.ref D) == some (.type "type")) = true then PySem.W.subIn K t (.ref D) else none) = some b
  rw [if_pos e]
  exact h
theorem kit_yes {K : PySem.W.Frag} {C D : Addr} (hd : PySem.W.hasDictIn K D = true) (ht : PySem.W.typeIn K (.ref D) = some (.type "type")) (h : PySem.W.subIn K (.ref C) (.ref D) = some true) : PySem.W.kitOne K (.ref C) (.ref D) = some true := by
  unfold PySem.W.kitOne
  split
  · rfl
  · exact kit_cls_own hd ht h
theorem kit_no {K : PySem.W.Frag} {C D : Addr} (hd : PySem.W.hasDictIn K D = true) (ht : PySem.W.typeIn K (.ref D) = some (.type "type")) (h : PySem.W.subIn K (.ref C) (.ref D) = some false) (hc : PySem.W.subIn K (.ref C) (.ref C) = some true) : PySem.W.kitOne K (.ref C) (.ref D) = some false := by
  unfold PySem.W.kitOne
  split
  · rename_i e
    have e2 : C = D := Value.ref.inj (beq_iff_eq.mp e)
    rw [e2] at hc h
    rw [h] at hc
    cases hc
  · exact kit_cls_own hd ht h
theorem kit_ve {K : PySem.W.Frag} {C : Addr} (h : PySem.W.subIn K (.ref C) (.type "ValueError") = some true) : PySem.W.kitOne K (.ref C) (.type "ValueError") = some true := by
  unfold PySem.W.kitOne
  split
  · rfl
  · have e : PySem.W.kitMeta "ValueError" = true := by decide +kernel
    show (if PySem.W.kitMeta "ValueError" = true then PySem.W.subIn K (.ref C) (.type "ValueError") else none) = some true
    rw [if_pos e]
    exact h
theorem at_inst {h : Heap} {a D : Addr} {oe : Obj} (g : h.get? a = some oe) (hz : Zc (.ref D) none oe) (hf : ∃ vs, oe.data = .fields vs) : PySem.W.InstAt h a oe D none := by
  obtain ⟨vs, hv⟩ := hf
  cases oe with
  | mk c d t sl =>
    obtain ⟨z1, z2⟩ := hz
    simp only at z1 z2 hv
    subst z1
    subst z2
    subst hv
    exact ⟨g, rfl, rfl, trivial⟩
/-- isinstance(e, (c, ..)), e the error in hand -/
def rIsET (K : PySem.W.Frag) (D a : Addr) : List V → Hp → VK → Prop := fun xs H Q => ∃ (tp : Addr) (cs : List V) (us : List Value) (b : Bool), xs = [.ref a, .ref tp] ∧ H tp = some (.tup cs) ∧ Paired ClsV cs us ∧ PySem.W.kitAny K (.ref D) us = some b ∧ Q (.bl b) H
theorem isE {K : PySem.W.Frag} {D a C : Addr} {b : Bool} {H : Hp} {Q : VK} (h : PySem.W.kitOne K (.ref D) (.ref C) = some b) (q : Q (.bl b) H) : rIsE K D a [.ref a, .ref C] H Q := ⟨_, _, b, rfl, fun _ r => r, h, q⟩
theorem isEv {K : PySem.W.Frag} {D a : Addr} {H : Hp} {Q : VK} (h : PySem.W.kitOne K (.ref D) (.type "ValueError") = some true) (q : Q (.bl true) H) : rIsE K D a [.ref a, .ty "ValueError"] H Q := ⟨_, _, true, rfl, fun _ r => r, h, q⟩
section
variable {X : Cx}
theorem call_isEP {a D : Addr} (C : ExcC X.K D) (hp : ∃ oe, (a, oe) ∈ X.pn ∧ Zc (.ref D) none oe ∧ ∃ vs, oe.data = .fields vs) : CallR X (.builtin "isinstance") (rIsE X.K D a) := by
  intro pins s σ H xs us Q I r h
  obtain ⟨oe, hm, hz, hf⟩ := hp
  obtain ⟨c, cv, b, rfl, hcv, e, q⟩ := h
  obtain ⟨u1, u2, rfl, r1, r2⟩ := vals2 r
  cases (show u1 = Value.ref a from r1)
  cases hcv _ r2
  have J := at_inst (I.pin (a, oe) (List.mem_append_left _ hm)).1 hz hf
  exact PySem.W.kia_one (PySem.W.handS_kitx_exc C.hg C.hk C.hs C.hd C.ha C.hn C.ht C.hm) I.kIn J e (fun z => nomatch z) fun tk => ⟨.bl b, H, I.tok tk, rfl, q⟩
theorem call_isETP {a D : Addr} (C : ExcC X.K D) (hp : ∃ oe, (a, oe) ∈ X.pn ∧ Zc (.ref D) none oe ∧ ∃ vs, oe.data = .fields vs) : CallR X (.builtin "isinstance") (rIsET X.K D a) := by
  intro pins s σ H xs us Q I r h
  obtain ⟨oe, hm, hz, hf⟩ := hp
  obtain ⟨tp, cs, ws, b, rfl, hT, k, e, q⟩ := h
  obtain ⟨u1, u2, rfl, r1, r2⟩ := vals2 r
  cases (show u1 = Value.ref a from r1)
  cases (show u2 = Value.ref tp from r2)
  have J := at_inst (I.pin (a, oe) (List.mem_append_left _ hm)).1 hz hf
  have hok : ObjOk X.prog X.w H s.heap tp (.tup cs) := I.hok tp _ hT
  obtain ⟨_, its, rv, o, g1, g2, n, g3⟩ := hok
  cases ClsV.all k rv
  cases o with
  | mk oc od dt sl =>
    simp only at g2 g3
    subst g2
    subst g3
    exact PySem.W.kia_tup (PySem.W.handS_kitx_exc C.hg C.hk C.hs C.hd C.ha C.hn C.ht C.hm) I.kIn J g1 e (fun z => nomatch z) fun tk => ⟨.bl b, H, I.tok tk, rfl, q⟩
theorem pe_calS {CX : CXT} {k : Nat} {ps : List Str} {sp : Sp} {E : St → XK} {x : Str} {p pos : Pos} {e : Expr} {es : List Expr} {t : TA} (C : Cal X.prog X.w X.K X.mg X.base CX x k ps [] sp) (hr : Room k X.A) (hg : Gl X x) (hx : ∀ σ, PassesAt CX X σ (E σ))
    (ha : PA X (e :: es) t) (hdb : (x == ("__debug__" : Str)) = false := by decide) (he : starEach (e :: es) X.env = (false, eval e X.env) :: starEach es X.env := by rfl) (hpl : (backTo pos (starEach es X.env)).any (·.1) = false := by rfl) :
    PE X (.Call (.Name x p) (e :: es) [] pos) (tCallS sp E t) := by
  obtain ⟨f, fd, F, hm, hk, hb⟩ := C.ex
  exact pe_callS F hr hg hm hk hb hx ha hdb he hpl
end
end Pb

namespace Pb
open PySem PySem.Spec L2
/-! ### a def of three parameters, the third of which may be left out (nought) or be named -/
structure Cal3 (P : Program) (w : World) (K : PySem.W.Frag) (mg : Str → Option Value) (base : Heap) (CX : CXT) (x : Str) (k : Nat) (ps : List Str) (nm : Str) (sp : Sp) : Prop where
  ex : ∃ (f : Addr) (fd : FuncData), FnOk P w K mg base CX k f fd ps sp ∧ mg x = some (.ref f) ∧ PySem.W.keepIn K (.ref f) = true ∧ Binds K fd ps [] ∧ (∃ ds, Vals [V.int 0] ds ∧ Binds K fd ps ds) ∧ KBn K fd ps 2 [nm] (fun us ws => us ++ ws) (fun vs zs => vs ++ zs)
section
variable {X : Cx} {CX : CXT} {k : Nat} {ps : List Str} {nm : Str} {sp : Sp} {E : XK} {EW : St → XK} {x : Str} {p pos : Pos} {e : Expr} {es : List Expr} {kws : List Keyword} {t tk : TA}
theorem pe_all3 (C : Cal3 X.prog X.w X.K X.mg X.base CX x k ps nm sp) (hr : Room k X.A) (hg : Gl X x) (hx : Passes CX X E)
    (ha : PA X (e :: es) t) (hdb : (x == ("__debug__" : Str)) = false := by decide) (he : starEach (e :: es) X.env = (false, eval e X.env) :: starEach es X.env := by rfl) (hpl : (backTo pos (starEach es X.env)).any (·.1) = false := by rfl) :
    PE X (.Call (.Name x p) (e :: es) [] pos) (tCall sp [] E t) := by
  obtain ⟨f, fd, F, hm, hk, hb, _, _⟩ := C.ex
  exact pe_call F hr hg hm hk hb .nil hx ha hdb he hpl
theorem pe_two3 (C : Cal3 X.prog X.w X.K X.mg X.base CX x k ps nm sp) (hr : Room k X.A) (hg : Gl X x) (hx : Passes CX X E)
    (ha : PA X (e :: es) t) (hdb : (x == ("__debug__" : Str)) = false := by decide) (he : starEach (e :: es) X.env = (false, eval e X.env) :: starEach es X.env := by rfl) (hpl : (backTo pos (starEach es X.env)).any (·.1) = false := by rfl) :
    PE X (.Call (.Name x p) (e :: es) [] pos) (tCall sp [.int 0] E t) := by
  obtain ⟨f, fd, F, hm, hk, _, ⟨ds, hd, hb⟩, _⟩ := C.ex
  exact pe_call F hr hg hm hk hb hd hx ha hdb he hpl
theorem pe_own3 (C : Cal3 X.prog X.w X.K X.mg X.base CX x k ps nm sp) (hr : Room k X.A) (hg : Gl X x) (hx : ∀ σ, PassesAt CX X σ (EW σ))
    (ha : PA X (e :: es) t) (hdb : (x == ("__debug__" : Str)) = false := by decide) (he : starEach (e :: es) X.env = (false, eval e X.env) :: starEach es X.env := by rfl) (hpl : (backTo pos (starEach es X.env)).any (·.1) = false := by rfl) :
    PE X (.Call (.Name x p) (e :: es) [] pos) (tCallS sp EW t) := by
  obtain ⟨f, fd, F, hm, hk, hb, _, _⟩ := C.ex
  exact pe_callS F hr hg hm hk hb hx ha hdb he hpl
theorem pe_named3 (C : Cal3 X.prog X.w X.K X.mg X.base CX x k ps nm sp) (hr : Room k X.A) (hg : Gl X x) (hx : Passes CX X E) (ha : PA X (e :: es) t) (hkw : PK X kws tk)
    (hall : (backToKw pos (keywordEach kws X.env)).all (·.1.isSome) = true := by rfl) (hks : (backToKw pos (keywordEach kws X.env)).filterMap (·.1) = [nm] := by rfl)
    (hdb : (x == ("__debug__" : Str)) = false := by decide) (he : starEach (e :: es) X.env = (false, eval e X.env) :: starEach es X.env := by rfl)
    (hpl : ((backTo pos (starEach (e :: es) X.env)).any (·.1) || (backToKw pos (keywordEach kws X.env)).any (·.1.isNone)) = false := by rfl) :
    PE X (.Call (.Name x p) (e :: es) kws pos) (tCallN 2 1 sp (fun vs zs => vs ++ zs) E t tk) := by
  obtain ⟨f, fd, F, hm, hk, _, _, hb⟩ := C.ex
  exact pe_callN F hr hg hm hk hb hx ha hkw hall hks hdb he hpl
end
section
variable {K : PySem.W.Frag} {x qual : Str} {params : Arguments} {body : List Stmt} {scope : Scope} {f : Addr} {fd : FuncData} {ps : List Str} {nm : Str}
/-- two values and the named third -/
theorem kbn_of (F : FunD K x qual params body scope [V.int 0] [] f fd)
    (h : ∀ (T : Addr) (kV doc pm : Value) (an : Option Addr) (cdv ct u0 u1 u2 d : Value),
      ∃ k, bindArgs (PySem.W.fnOf x qual params body scope (.ref T) kV doc pm an cdv ct) ⟨[u0, u1], [(nm, u2)]⟩ = seqItems? (.ref T) >>= k ∧ k (some [d].toArray) = pure (ps.zip [u0, u1, u2])) :
    KBn K fd ps 2 [nm] (fun us ws => us ++ ws) (fun vs zs => vs ++ zs) := by
  obtain ⟨oc, od, dV, kV, doc, pm, an, cdv, ct, osl, rfl, lk, hcd, hD, _⟩ := F.ex
  rcases hD with ⟨z, _⟩ | ⟨_, T, o, its, m, rfl, lT, oT, rT⟩
  · cases z
  refine ⟨fun s us ws KI l2 l1 => ?_, fun a b => a.append b⟩
  have hi : its.length = 1 := rT.length.symm
  match us, l2, ws, l1, its, hi, oT with
  | [u0, u1], _, [u2], _, [d], _, oT =>
    obtain ⟨c, e1, e2⟩ := h T kV doc pm an cdv ct u0 u1 u2 d
    refine BindsTo.of_looks fun M => ?_
    show PySem.W.Looks M s.heap (bindArgs _ ⟨[u0, u1], [(nm, u2)]⟩) _
    rw [e1]
    exact looks_items KI lT oT (.of_pure e2)
end

/-! ### a def that is asked about the error in hand -/
structure CalE (P : Program) (w : World) (K : PySem.W.Frag) (mg : Str → Option Value) (base : Heap) (cls : Value) (x : Str) (k : Nat) (ps : List Str) (sp : Addr → Sp) : Prop where
  ex : ∃ (f : Addr) (fd : FuncData), mg x = some (.ref f) ∧ PySem.W.keepIn K (.ref f) = true ∧ Binds K fd ps [] ∧ (∀ a vs H Q E, sp a vs H Q E → vs.length = ps.length) ∧
    ∀ (b : Addr × Obj), Zc cls none b.2 → (∃ vs, b.2.data = .fields vs) → ∀ (A : Around) (outer : List Env) (s : Shared) (H : Hp) (args : Args) (us : List Value) (vs : List V) (Q : VK), L2H.RoomH k A → L2H.PinOk outer H s b → Env0 P w K mg base A outer s H → BindsTo s fd args (ps.zip us) → Vals vs us → sp b.1 vs H Q E0 →
      codeAny (model P w) A (.call (.ref f) args) (CR CX0 outer P w H s Q E0) s
def tCallE (sp : Addr → Sp) (a : Addr) (t : TA) : TE := fun σ H Q => t σ H fun vs H1 => sp a vs H1 Q E0
theorem pe_calE {X : Cx} {k : Nat} {ps : List Str} {sp : Addr → Sp} {cls : Value} {x : Str} {p pos : Pos} {e : Expr} {es : List Expr} {t : TA} {a : Addr} {oe : Obj} (C : CalE X.prog X.w X.K X.mg X.base cls x k ps sp) (hr : L2H.RoomH k X.A) (hm : (a, oe) ∈ X.pn) (hz : Zc cls none oe) (hf : ∃ vs, oe.data = .fields vs) (hg : Gl X x)
    (ha : PA X (e :: es) t) (hdb : (x == ("__debug__" : Str)) = false := by decide) (he : starEach (e :: es) X.env = (false, eval e X.env) :: starEach es X.env := by rfl) (hpl : (backTo pos (starEach es X.env)).any (·.1) = false := by rfl) :
    PE X (.Call (.Name x p) (e :: es) [] pos) (tCallE sp a t) := by
  obtain ⟨f, fd, mx, kp, bd, len, run⟩ := C.ex
  refine ⟨fun pins s σ H Q I h => wpAny_Call_Name_kw (ld_glob I hg mx ?_ hdb)⟩
  refine PySem.W.callWith_K (h₀ := X.base) I.ok.mod.kin kp (thn (ha.run pos pins s σ H _ I h) fun us s1 ⟨vs, H1, J, rv, q⟩ => ⟨J.kIn, ?_⟩) he hpl
  obtain ⟨g1, g2, g3, g4, g5⟩ := J.pin (a, oe) (List.mem_append_left _ hm)
  have lens : us.length = ps.length := rv.length.symm.trans (len _ _ _ _ _ q)
  have bnd := bd s1 us J.kIn (by rw [List.append_nil]; exact lens)
  rw [List.append_nil] at bnd
  have nost : a ∉ frs X.stack := fun z => (List.mem_cons.mp (J.stkSub a z)).elim (fun y => g3 y) fun y => g4 y
  have pin : L2H.PinOk X.stack H1 s1 (a, oe) := ⟨g1, g2, nost, g5⟩
  refine wpAny_call (codeAny_mono (run (a, oe) hz hf X.A X.stack s1 H1 ⟨us, []⟩ us vs Q hr pin J.env0 bnd rv q) fun r s2 hq => ?_)
  match r, hq with
  | .ok (.ret u), hq => exact J.after hq
  | .ok .next, hq => exact hq.elim
  | .ok .brk, hq => exact hq.elim
  | .ok .cont, hq => exact hq.elim
  | .error z, hq => exact hq.elim
/-- the rule for such a def, by its body -/
theorem told_run {P : Program} {w : World} {K : PySem.W.Frag} {mg : Str → Option Value} {base : Heap} {x qual : Str} {st : Stmt} {f : Addr} {fd : FuncData} {N ps : List Str} {k : Nat} {sp : Addr → Sp} {b : Addr × Obj} (F : Fun K x qual st f fd) (S : FnScope N ps (defScope st))
    (len : ∀ a vs H Q E, sp a vs H Q E → vs.length = ps.length)
    (body : ∀ (cdv : Value) (A : Around) (outer : List Env) (s : Shared) (H : Hp) (vs : List V) (Q : VK), L2H.RoomH k (A.deeper (PyProof.Rows.envOfC qual (defScope st) s.heap.objs.size f cdv)) → sp b.1 vs H Q E0 →
      ∃ t, PSs (L2H.cxH CX0 P w K mg base N qual (defScope st) f cdv A outer s H E0 b) (defBody st) t ∧ t { nx := fun _ H' => Q .non H', rt := Q } (start N vs) H)
    (A : Around) (outer : List Env) (s : Shared) (H : Hp) (args : Args) (us : List Value) (vs : List V) (Q : VK) (hr : L2H.RoomH (k + 1) A) (pin : L2H.PinOk outer H s b) (e0 : Env0 P w K mg base A outer s H) (bnd : BindsTo s fd args (ps.zip us)) (rv : Vals vs us) (h : sp b.1 vs H Q E0) :
    codeAny (model P w) A (.call (.ref f) args) (CR CX0 outer P w H s Q E0) s := by
  obtain ⟨oc, od, kV, doc, pm, an, cdv, ct, osl, rfl, lk, code⟩ := F.ex
  have kin : K.In s.heap := e0.mod.kin.keeps fun c o g => (e0.bs c o g).1
  have kinds : ∀ y ∈ ps.zip us, (defScope st).names.lookup y.1 = some .local ∨ ((defScope st).names.lookup y.1 = some .cell ∧ ((cellsFrom (s.heap.objs.size + 1) (defScope st).names []).lookup y.1).isSome = true) := by
    intro y hy
    have hy1 := (List.of_mem_zip (show (y.1, y.2) ∈ ps.zip us from hy)).1
    exact (S.par y.1 hy1).imp id fun c => ⟨c, PySem.W.cellsFrom_some _ _ _ (.inl c)⟩
  refine codeAny_call_function hr.depth (kin _ _ lk) rfl S.co S.gen rfl (PySem.W.codeRec_of kin code) (bnd _ _ _ _ (wpAny_newFunctionEnv_cells S.kind kinds ?_))
  rintro env rfl s1 dn
  refine ⟨(e0.mod.nolimit.keeps fun c o g => (e0.bs c o g).1).keeps dn.toInCall.keep, codeAny_func ?_⟩
  obtain ⟨t, pt, ht⟩ := body cdv A outer s H vs Q (hr.deeper _) h
  refine wpAny_mono (pt.run [] s1 _ H _ (L2H.inv_startH S pin e0 (len _ _ _ _ _ h) rv dn) ht) ?_ fun _ _ z => z
  intro fl s2 hs
  match fl, hs with
  | .ret u, ⟨v, _, H2, J, r, q⟩ => exact ⟨v, H2, J.os, J.bare, J.base, J.hok, r, q⟩
  | .next, ⟨_, H2, J, q⟩ => exact ⟨.non, H2, J.os, J.bare, J.base, J.hok, rfl, q⟩
  | .brk, ⟨_, _, _, q⟩ => exact q.elim
  | .cont, ⟨_, _, _, q⟩ => exact q.elim
theorem huL {A : Around} {k : Nat} (r : L2H.RoomH k A) : A.units + 64 < cLine := by
  have := r.un
  omega
theorem huH {A : Around} {k : Nat} (r : L2H.RoomH k A) : A.units + 65 < cLine := by
  have := r.un
  omega
end Pb

namespace Pb
open PySem PySem.Spec L2
/-! ### k01: deeds made -/
theorem kb_non_int : kitB "NoneType" "int" = some false := by decide +kernel
theorem kb_str_int : kitB "str" "int" = some false := by decide +kernel
/-- a thing, and the whole number that it is -/
inductive TV (H : Hp) : V → Option Int → Prop
  | int (n : Int) : TV H (.int n) (some n)
  | bl (b : Bool) : TV H (.bl b) none
  | non : TV H .non none
  | str (s : Str) : TV H (.str s) none
  | tup {a : Addr} {xs : List V} (h : H a = some (.tup xs)) : TV H (.ref a) none
  | lst {a : Addr} {xs : List V} (h : H a = some (.lst xs)) : TV H (.ref a) none
theorem TV.mono {H H' : Hp} {x : V} {o : Option Int} (h : TV H x o) (s : Same H H') : TV H' x o := by
  cases h with
  | int n => exact .int n
  | bl b => exact .bl b
  | non => exact .non
  | str s => exact .str s
  | tup h => exact .tup (s _ _ h)
  | lst h => exact .lst (s _ _ h)
def inB (o : Option Int) (b : Int) : Bool := match o with
  | some n => decide (0 ≤ n) && decide (n < b)
  | none => false
def sp_lies_below (K : PySem.W.Frag) : Sp := fun vs H Q _ => ∃ x o b, vs = [x, .int b] ∧ TV H x o ∧ Q (.bl (inB o b)) H
theorem len_lies_below {K vs H Q E} (h : sp_lies_below K vs H Q E) : vs.length = 2 := by
  obtain ⟨x, o, b, rfl, _⟩ := h
  rfl
abbrev n_lies_below : List Str := ["thing", "bound"]
def t_lies_below (K : PySem.W.Frag) : TS :=
  (tSeq (tIfS (tOr (tNot (tB (tCB (rIsi K) (tCons (tVar 0) (tCons (tC (.ty "int")) tNil))))) (tB (tCB (rIsi K) (tCons (tVar 0) (tCons (tC (.ty "bool")) tNil)))))
  (tRet (tC (.bl false)))
  tNext)
  (tRet (tChain rLe rLt (tC (.int 0)) (tVar 0) (tVar 1))))
theorem r_lies_below {K vs H Q E} (h : sp_lies_below K vs H Q E) : t_lies_below K { nx := fun _ H' => Q .non H', rt := Q } (start n_lies_below vs) H := by
  obtain ⟨x, o, b, rfl, hx, q⟩ := h
  unfold t_lies_below
  walk_at "go"
  cases hx with
  | int n =>
    walk_at "go"
    by_cases c : (0 : Int) ≤ n
    · rw [if_pos (by simpa using c)]
      rw [inB, decide_eq_true c, Bool.true_and] at q
      exact q
    · rw [if_neg (by simpa using c)]
      rw [inB, decide_eq_false c, Bool.false_and] at q
      exact q
  | bl c =>
    refine isi (.bl c) kb_bool_int ?_
    walk_at "go"
    exact q
  | non =>
    refine isi .non kb_non_int ?_
    walk_at "go"
    exact q
  | str s =>
    refine isi (.str s) kb_str_int ?_
    walk_at "go"
    exact q
  | tup h =>
    refine isi_tupi h ?_
    walk_at "go"
    exact q
  | lst h =>
    refine isi_lsti h ?_
    walk_at "go"
    exact q

abbrev N60 : Int := 1000000000000000000000000000000000000000000000000000000000000
abbrev B60 : Int := 1152921504606846976
abbrev good (o p r : Option Int) : Bool := inB o N60 && (inB p B60 && inB r B60)
def sp_deed (K : PySem.W.Frag) (G : Str → Addr) : Sp := fun vs H Q E => ∃ x y z o p r, vs = [x, y, z] ∧ TV H x o ∧ TV H y p ∧ TV H z r ∧ (good o p r = true → ∀ a H', H a = none → Same H H' → H' a = some (.tup [x, y, z]) → Q (.ref a) H') ∧ (good o p r = false → E (.ref (G "NoDeed")) none H)
theorem len_deed {K G vs H Q E} (h : sp_deed K G vs H Q E) : vs.length = 3 := by
  obtain ⟨x, y, z, o, p, r, rfl, _⟩ := h
  rfl
abbrev n_deed : List Str := ["name", "looks", "changes"]
def t_deed (K : PySem.W.Frag) (G : Str → Addr) (E : XK) : TS :=
  (tSeq (tIfS (tNot (tB (tCall (sp_lies_below K) [] E0 (tCons (tVar 0) (tCons (tOp rPow (tC (.int 10)) (tC (.int 60))) tNil)))))
  (fun _ _ H => E (.ref (G "NoDeed")) none H)
  tNext)
  (tSeq (tIfS (tOr (tNot (tB (tCall (sp_lies_below K) [] E0 (tCons (tVar 1) (tCons (tOp rPow (tC (.int 2)) (tC (.int 60))) tNil))))) (tNot (tB (tCall (sp_lies_below K) [] E0 (tCons (tVar 2) (tCons (tOp rPow (tC (.int 2)) (tC (.int 60))) tNil))))))
  (fun _ _ H => E (.ref (G "NoDeed")) none H)
  tNext)
  (tRet (tTup (tCons (tVar 0) (tCons (tVar 1) (tCons (tVar 2) tNil)))))))
theorem r_deed {K G vs H Q E} (h : sp_deed K G vs H Q E) : t_deed K G E { nx := fun _ H' => Q .non H', rt := Q } (start n_deed vs) H := by
  obtain ⟨x, y, z, o, p, r, rfl, hx, hy, hz, kQ, kE⟩ := h
  unfold t_deed
  walk_at "go"
  refine ⟨x, o, _, rfl, hx, ?_⟩
  walk_at "go"
  cases c1 : inB o N60 with
  | false =>
    rw [if_pos (by rfl)]
    exact kE (by rw [good, c1]; rfl)
  | true =>
    rw [if_neg (by simp)]
    refine ⟨y, p, _, rfl, hy, ?_⟩
    walk_at "go"
    cases c2 : inB p B60 with
    | false =>
      rw [if_pos (by rfl)]
      exact kE (by rw [good, c1, c2]; rfl)
    | true =>
      rw [if_neg (by simp)]
      refine ⟨z, r, _, rfl, hz, ?_⟩
      walk_at "go"
      cases c3 : inB r B60 with
      | false =>
        rw [if_pos (by rfl)]
        exact kE (by rw [good, c1, c2, c3]; rfl)
      | true =>
        rw [if_neg (by simp)]
        exact tupQ fun a H' ha s g => kQ (by rw [good, c1, c2, c3]; rfl) a H' ha s g

def sp_odd (K : PySem.W.Frag) : Sp := fun vs H Q _ => ∃ c b : Int, vs = [.int c, .int b] ∧ 0 ≤ b ∧ ∀ x o H', Same H H' → (∀ a, x = .ref a → H a = none) → TV H' x o → inB o b = false → Q x H'
theorem len_odd {K vs H Q E} (h : sp_odd K vs H Q E) : vs.length = 2 := by
  obtain ⟨c, b, rfl, _⟩ := h
  rfl
theorem inB_out {n b : Int} (h : n < 0 ∨ b ≤ n) : inB (some n) b = false := by
  rw [inB]
  rcases h with h | h
  · rw [decide_eq_false (by omega), Bool.false_and]
  · rw [decide_eq_false (show ¬ n < b by omega), Bool.and_false]
abbrev n_odd : List Str := ["_law_cell", "_law_bound", "_law_far", "_law_some"]
def t_odd (K : PySem.W.Frag) : TS :=
  (tSeq (tAsg (tOp rMod (tOp rDiv (tVar 0) (tC (.int 10))) (tOp rPow (tC (.int 10)) (tC (.int 50)))) (gName 2))
  (tSeq (tAsg (tLst (tCons (tC (.bl true)) (tCons (tC (.bl false)) (tCons (tC .non) (tCons (tC (.str "1")) (tCons (tTup (tCons (tC (.int 1)) tNil)) (tCons (tLst (tCons (tC (.int 1)) tNil)) (tCons (tUn rNeg (tC (.int 1))) (tCons (tOp rSub (tUn rNeg (tC (.int 2))) (tVar 2)) (tCons (tVar 1) (tCons (tOp rPlus (tVar 1) (tVar 2)) tNil))))))))))) (gName 3))
  (tRet (tOp (rIx K) (tVar 3) (tOp rMod (tVar 0) (tC (.int 10)))))))
theorem cons_c {v : V} {t : TA} {σ : St} {H : Hp} {Q : List V → Hp → Prop} : tCons (tC v) t σ H Q = t σ H fun xs H2 => Q (v :: xs) H2 := rfl
theorem cons_g {a : TE} {t : TA} {σ : St} {H : Hp} {Q : List V → Hp → Prop} : tCons a t σ H Q = a σ H fun x H1 => t σ H1 fun xs H2 => Q (x :: xs) H2 := rfl
theorem nil_g {σ : St} {H : Hp} {Q : List V → Hp → Prop} : tNil σ H Q = Q [] H := rfl
theorem r_odd {K vs H Q E} (h : sp_odd K vs H Q E) : t_odd K { nx := fun _ H' => Q .non H', rt := Q } (start n_odd vs) H := by
  obtain ⟨c, b, rfl, hb, k⟩ := h
  obtain ⟨far, hf⟩ : ∃ far : Int, c / 10 % 100000000000000000000000000000000000000000000000000 = far ∧ 0 ≤ far := ⟨_, rfl, Int.emod_nonneg _ (by decide)⟩
  have one : ∀ nx : St → Hp → Prop, nx [some (.int c), some (.int b), some (.int far), none] H → tAsg (tOp rMod (tOp rDiv (tVar 0) (tC (.int 10))) (tOp rPow (tC (.int 10)) (tC (.int 50)))) (gName 2) { nx := nx, rt := Q } [some (.int c), some (.int b), none, none] H := by
    intro nx h
    walk_at "go"
    rw [hf.1]
    exact h
  unfold t_odd
  rw [tSeq]
  refine one _ ?_
  rw [tSeq, tAsg, Pb.lst_eq, cons_c, cons_c, cons_c, cons_c, cons_g, Pb.tup_eq, cons_c, nil_g]
  refine tupQ fun t H1 ht s1 gt => ?_
  rw [cons_g, Pb.lst_eq, cons_c, nil_g]
  refine lstQ fun l H2 hl s2 gl => ?_
  walk_at "go"
  refine lstQ fun m H3 hm s3 gm => ?_
  walk_at "go"
  have s13 := (s1.trans s2).trans s3
  obtain ⟨j, hj⟩ := nn_nat (Int.emod_nonneg c (show (10 : Int) ≠ 0 by decide))
  have hj10 : j < 10 := by omega
  rw [hj]
  have hx : ∃ x o, [V.bl true, V.bl false, V.non, V.str "1", V.ref t, V.ref l, V.int (-1), V.int (-2 - far), V.int b, V.int (b + far)][j]? = some x ∧ (∀ a, x = .ref a → H a = none) ∧ TV H3 x o ∧ inB o b = false := by
    rcases (show j = 0 ∨ j = 1 ∨ j = 2 ∨ j = 3 ∨ j = 4 ∨ j = 5 ∨ j = 6 ∨ j = 7 ∨ j = 8 ∨ j = 9 by omega) with rfl | rfl | rfl | rfl | rfl | rfl | rfl | rfl | rfl | rfl
    · exact ⟨_, _, rfl, (fun a q => by cases q), .bl _, rfl⟩
    · exact ⟨_, _, rfl, (fun a q => by cases q), .bl _, rfl⟩
    · exact ⟨_, _, rfl, (fun a q => by cases q), .non, rfl⟩
    · exact ⟨_, _, rfl, (fun a q => by cases q), .str _, rfl⟩
    · exact ⟨_, _, rfl, fun a q => by cases q; exact ht, .tup (s3 _ _ (s2 _ _ gt)), rfl⟩
    · exact ⟨_, _, rfl, fun a q => by cases q; exact s1.free hl, .lst (s3 _ _ gl), rfl⟩
    · exact ⟨_, _, rfl, (fun a q => by cases q), .int _, inB_out (by omega)⟩
    · exact ⟨_, _, rfl, (fun a q => by cases q), .int _, inB_out (by omega)⟩
    · exact ⟨_, _, rfl, (fun a q => by cases q), .int _, inB_out (by omega)⟩
    · exact ⟨_, _, rfl, (fun a q => by cases q), .int _, inB_out (by omega)⟩
  obtain ⟨x, o, e, fr, tv, out⟩ := hx
  refine ix_l' gm (atI_nat (j := j) e) ?_
  exact k x o H3 s13 fr tv out

def sp_same3 (K : PySem.W.Frag) : Sp := fun vs H Q _ => ∃ a l n0 n1 n2, vs = [.ref a, .ref l] ∧ H a = some (.tup [.int n0, .int n1, .int n2]) ∧ H l = some (.lst [.int n0, .int n1, .int n2]) ∧ Q (.bl true) H
theorem len_same3 {K vs H Q E} (h : sp_same3 K vs H Q E) : vs.length = 2 := by
  obtain ⟨a, l, n0, n1, n2, rfl, _⟩ := h
  rfl
abbrev n_same3 : List Str := ["_law_found", "_law_due", "_law_k"]
def t_same3 (K : PySem.W.Frag) : TS :=
  (tSeq (tIfS (tOr (tNot (tB (tCB (rIsi K) (tCons (tVar 0) (tCons (tC (.ty "tuple")) tNil))))) (tTest (tOp (rNeA K) (tCB (rLen K) (tCons (tVar 0) tNil)) (tC (.int 3)))))
  (tRet (tC (.bl false)))
  tNext)
  (tSeq (tFor (iRng1 (tCons (tC (.int 3)) tNil)) (gName 2)
  (tIfS (tOr (tNot (tB (tCall (sp_whole K) [] E0 (tCons (tOp (rIx K) (tVar 0) (tVar 2)) tNil)))) (tTest (tOp (rNeA K) (tOp (rIx K) (tVar 0) (tVar 2)) (tOp (rIx K) (tVar 1) (tVar 2)))))
  (tRet (tC (.bl false)))
  tNext))
  (tRet (tC (.bl true)))))
theorem r_same3 {K vs H Q E} (h : sp_same3 K vs H Q E) : t_same3 K { nx := fun _ H' => Q .non H', rt := Q } (start n_same3 vs) H := by
  obtain ⟨a, l, n0, n1, n2, rfl, ha, hl, q⟩ := h
  unfold t_same3
  walk_at "go"
  refine ⟨a, _, rfl, .inr (.of ha), ?_⟩
  walk_at "go"
  refine forR1 (n := 3) (fun i σ H3 => ∃ v2 : Option V, σ = [some (.ref a), some (.ref l), v2] ∧ H3 = H) (by decide) ⟨none, rfl, rfl⟩ ?_ ?_
  · rintro i σ H3 hi ⟨v2, rfl, rfl⟩
    obtain ⟨n, e⟩ : ∃ n : Int, [V.int n0, V.int n1, V.int n2][i]? = some (.int n) := by
      rcases (show i = 0 ∨ i = 1 ∨ i = 2 by omega) with rfl | rfl | rfl <;> exact ⟨_, rfl⟩
    walk_at "go"
    refine ix_t' ha (atI_nat (j := i) e) ?_
    refine ⟨n, rfl, ?_⟩
    walk_at "go"
    refine ix_t' ha (atI_nat (j := i) e) ?_
    refine ix_l' hl (atI_nat (j := i) e) ?_
    walk_at "go"
    exact ⟨_, rfl, rfl⟩
  · rintro σ H3 ⟨v2, rfl, rfl⟩
    walk_at "go"
    exact q

def sp_class_told (K : PySem.W.Frag) (a : Addr) : Sp := fun vs H Q _ => vs = [.ref a] ∧ ∀ H', Same H H' → Q (.bl true) H'
theorem len_class_told {K a vs H Q E} (h : sp_class_told K a vs H Q E) : vs.length = 1 := by
  obtain ⟨rfl, _⟩ := h
  rfl
abbrev n_class_told : List Str := ["_law_e", "_law_some"]
def t_class_told (a : Addr) (K : PySem.W.Frag) (G : Str → Addr) : TS :=
  (tSeq (tAsg (tLst (tCons (tCB (rIsE K (G "NoDeed") a) (tCons (tVar 0) (tCons (tC (.ref (G "NoDeed"))) tNil))) (tCons (tCB (rIsE K (G "NoDeed") a) (tCons (tVar 0) (tCons (tC (.ref (G "NoPass"))) tNil))) (tCons (tCB (rIsE K (G "NoDeed") a) (tCons (tVar 0) (tCons (tC (.ref (G "Nothing"))) tNil))) (tCons (tCB (rIsE K (G "NoDeed") a) (tCons (tVar 0) (tCons (tC (.ref (G "NoBox"))) tNil))) tNil))))) (gName 1))
  (tRet (tAndV (tOp (rEqA K) (tVar 1) (tLst (tCons (tC (.bl true)) (tCons (tC (.bl false)) (tCons (tC (.bl false)) (tCons (tC (.bl false)) tNil)))))) (tCB (rIsE K (G "NoDeed") a) (tCons (tVar 0) (tCons (tC (.ty "ValueError")) tNil))))))
theorem r_class_told {K G a vs H Q E} (X : XF K G "NoDeed") (h : sp_class_told K a vs H Q E) : t_class_told a K G { nx := fun _ H' => Q .non H', rt := Q } (start n_class_told vs) H := by
  obtain ⟨rfl, k⟩ := h
  unfold t_class_told
  walk_at "go"
  refine isE X.ks ?_
  refine isE (X.ko _ (by decide) (by decide)) ?_
  refine isE (X.ko _ (by decide) (by decide)) ?_
  refine isE (X.ko _ (by decide) (by decide)) ?_
  refine lstQ fun l H1 hl s1 gl => ?_
  walk_at "go"
  refine lstQ fun m H2 hm s2 gm => ?_
  refine eqA_D (d := .list [.bool true, .bool false, .bool false, .bool false]) (e := .list [.bool true, .bool false, .bool false, .bool false]) (.lst (.of (s2 _ _ gl)) (.cons (.bl _) (.cons (.bl _) (.cons (.bl _) (.cons (.bl _) .nil))))) (.lst (.of gm) (.cons (.bl _) (.cons (.bl _) (.cons (.bl _) (.cons (.bl _) .nil))))) (by decide +kernel) (by decide +kernel) ?_
  refine ⟨true, congrArg V.bl (by decide +kernel), ?_⟩
  rw [if_pos rfl]
  exact isEv X.kv (k H2 (s1.trans s2))

def sp_refused_k01 (K : PySem.W.Frag) : Sp := fun vs H Q _ => ∃ l x y z o p r, vs = [.ref l] ∧ H l = some (.lst [x, y, z]) ∧ TV H x o ∧ TV H y p ∧ TV H z r ∧ good o p r = false ∧ ∀ H', Same H H' → Q (.bl true) H'
theorem len_refused_k01 {K vs H Q E} (h : sp_refused_k01 K vs H Q E) : vs.length = 1 := by
  obtain ⟨l, x, y, z, o, p, r, rfl, _⟩ := h
  rfl
abbrev n_refused_k01 : List Str := ["_law_three_here", "_law_told", "_law_e"]
def t_refused_k01 (K : PySem.W.Frag) (G : Str → Addr) : TS :=
  (tSeq (tAsg (tC (.bl false)) (gName 1))
  (tSeq (fun D σ H => (fun W => (tDrop (tCallS (sp_deed K G) (WE W) (tCons (tOp (rIx K) (tVar 0) (tC (.int 0))) (tCons (tOp (rIx K) (tVar 0) (tC (.int 1))) (tCons (tOp (rIx K) (tVar 0) (tC (.int 2))) tNil)))))) (wAs K (.ref (G "PassbyError")) 2 (fun a cls d => tWhen (cls = .ref (G "NoDeed") ∧ d = none) (tAsg (tCallE (sp_class_told K) a (tCons (tVar 2) tNil)) (gName 1))) (fun _ _ _ _ => False) D) D σ H)
  (tRet (tVar 1))))
theorem r_refused_k01 {K G vs H Q E} (X : XF K G "NoDeed") (h : sp_refused_k01 K vs H Q E) : t_refused_k01 K G { nx := fun _ H' => Q .non H', rt := Q } (start n_refused_k01 vs) H := by
  obtain ⟨l, x, y, z, o, p, r, rfl, hl, hx, hy, hz, hg, k⟩ := h
  unfold t_refused_k01
  walk_at "go"
  refine ⟨x, y, z, o, p, r, rfl, hx, hy, hz, fun g => absurd (g.symm.trans hg) (by decide), fun _ => ?_⟩
  refine ⟨true, X.eb, fun _ a ha => ⟨⟨rfl, rfl⟩, ?_⟩, fun z => nomatch z⟩
  walk_at "go"
  unfold tCallE
  walk_at "go"
  refine ⟨rfl, fun H1 s1 => ?_⟩
  walk_at "go"
  exact k H1 s1

def sp_three (K : PySem.W.Frag) : Sp := fun vs H Q _ => ∃ l c0 c1 c2 c3, vs = [.ref l] ∧ H l = some (.lst [.int c0, .int c1, .int c2, .int c3]) ∧ ∀ p H' n0 n1 n2, H p = none → Same H H' → H' p = some (.lst [.int n0, .int n1, .int n2]) → good (some n0) (some n1) (some n2) = true → Q (.ref p) H'
theorem len_three {K vs H Q E} (h : sp_three K vs H Q E) : vs.length = 1 := by
  obtain ⟨l, c0, c1, c2, c3, rfl, _⟩ := h
  rfl
theorem inB_in {n b : Int} (h1 : 0 ≤ n) (h2 : n < b) : inB (some n) b = true := by
  rw [inB, decide_eq_true h1, decide_eq_true h2]
  rfl
theorem good_in {a b c : Int} (a1 : 0 ≤ a) (a2 : a < N60) (b1 : 0 ≤ b) (b2 : b < B60) (c1 : 0 ≤ c) (c2 : c < B60) : good (some a) (some b) (some c) = true := by
  rw [good, inB_in a1 a2, inB_in b1 b2, inB_in c1 c2]
  rfl
abbrev n_three : List Str := ["_law_cells"]
def t_three (K : PySem.W.Frag) : TS :=
  (tSeq (tIfS (tTest (tOp (rEqA K) (tOp rMod (tOp rDiv (tOp (rIx K) (tVar 0) (tC (.int 3))) (tC (.int 9))) (tC (.int 4))) (tC (.int 1))))
  (tRet (tLst (tCons (tOp rMod (tOp (rIx K) (tVar 0) (tC (.int 0))) (tC (.int 1000))) (tCons (tOp rMod (tOp (rIx K) (tVar 0) (tC (.int 1))) (tC (.int 8))) (tCons (tOp rMod (tOp (rIx K) (tVar 0) (tC (.int 2))) (tC (.int 8))) tNil)))))
  tNext)
  (tRet (tLst (tCons (tOp rMod (tOp (rIx K) (tVar 0) (tC (.int 0))) (tOp rPow (tC (.int 10)) (tC (.int 60)))) (tCons (tOp rMod (tOp (rIx K) (tVar 0) (tC (.int 1))) (tOp rPow (tC (.int 2)) (tC (.int 60)))) (tCons (tOp rMod (tOp (rIx K) (tVar 0) (tC (.int 2))) (tOp rPow (tC (.int 2)) (tC (.int 60)))) tNil))))))
theorem r_three {K vs H Q E} (h : sp_three K vs H Q E) : t_three K { nx := fun _ H' => Q .non H', rt := Q } (start n_three vs) H := by
  obtain ⟨l, c0, c1, c2, c3, rfl, hl, k⟩ := h
  unfold t_three
  walk_at "go"
  refine ite2 (fun c => ?_) (fun c => ?_)
  · walk_at "go"
    refine lstQ fun p H1 hp s1 g1 => ?_
    exact k p H1 _ _ _ hp s1 g1 (good_in (by omega) (by unfold N60; omega) (by omega) (by unfold B60; omega) (by omega) (by unfold B60; omega))
  · walk_at "go"
    refine lstQ fun p H1 hp s1 g1 => ?_
    exact k p H1 _ _ _ hp s1 g1 (good_in (by omega) (by unfold N60; omega) (by omega) (by unfold B60; omega) (by omega) (by unfold B60; omega))

def sp_one (K : PySem.W.Frag) : Sp := fun vs H Q _ => ∃ l c0 c1 c2 c3, vs = [.ref l] ∧ H l = some (.lst [.int c0, .int c1, .int c2, .int c3]) ∧ ∀ H', Same H H' → Q (.bl true) H'
theorem len_one {K vs H Q E} (h : sp_one K vs H Q E) : vs.length = 1 := by
  obtain ⟨l, c0, c1, c2, c3, rfl, _⟩ := h
  rfl
abbrev n_one : List Str := ["_law_cells", "_law_three_here", "_law_at"]
def t_one (K : PySem.W.Frag) (G : Str → Addr) : TS :=
  (tSeq (tAsg (tCall (sp_three K) [] E0 (tCons (tVar 0) tNil)) (gName 1))
  (tSeq (tIfS (tNot (tB (tCall (sp_same3 K) [] E0 (tCons (tCall (sp_deed K G) [] E0 (tCons (tOp (rIx K) (tVar 1) (tC (.int 0))) (tCons (tOp (rIx K) (tVar 1) (tC (.int 1))) (tCons (tOp (rIx K) (tVar 1) (tC (.int 2))) tNil)))) (tCons (tVar 1) tNil)))))
  (tRet (tC (.bl false)))
  tNext)
  (tSeq (tIfS (tNot (tB (tCall (sp_same3 K) [] E0 (tCons (tCall (sp_deed K G) [.int 0] E0 (tCons (tOp (rIx K) (tVar 1) (tC (.int 0))) (tCons (tOp (rIx K) (tVar 1) (tC (.int 1))) tNil))) (tCons (tLst (tCons (tOp (rIx K) (tVar 1) (tC (.int 0))) (tCons (tOp (rIx K) (tVar 1) (tC (.int 1))) (tCons (tC (.int 0)) tNil)))) tNil)))))
  (tRet (tC (.bl false)))
  tNext)
  (tSeq (tIfS (tNot (tB (tCall (sp_same3 K) [] E0 (tCons (tCallN 2 1 (sp_deed K G) (fun vs zs => vs ++ zs) E0 (tCons (tOp (rIx K) (tVar 1) (tC (.int 0))) (tCons (tOp (rIx K) (tVar 1) (tC (.int 1))) tNil)) (tCons (tOp (rIx K) (tVar 1) (tC (.int 2))) tNil)) (tCons (tVar 1) tNil)))))
  (tRet (tC (.bl false)))
  tNext)
  (tSeq (tIfS (tTest (tOp (rNeA K) (tOp rMod (tOp (rIx K) (tVar 0) (tC (.int 3))) (tC (.int 3))) (tC (.int 1))))
  (tRet (tC (.bl true)))
  tNext)
  (tSeq (tAsg (tOp rMod (tOp rDiv (tOp (rIx K) (tVar 0) (tC (.int 3))) (tC (.int 3))) (tC (.int 3))) (gName 2))
  (tSeq (tAsg (tCall (sp_odd K) [] E0 (tCons (tOp rDiv (tOp (rIx K) (tVar 0) (tC (.int 3))) (tC (.int 36))) (tCons (tOp (rIx K) (tLst (tCons (tOp rPow (tC (.int 10)) (tC (.int 60))) (tCons (tOp rPow (tC (.int 2)) (tC (.int 60))) (tCons (tOp rPow (tC (.int 2)) (tC (.int 60))) tNil)))) (tVar 2)) tNil))) (gSub (tVar 1) (tVar 2) rSetL))
  (tRet (tCall (sp_refused_k01 K) [] E0 (tCons (tVar 1) tNil))))))))))
theorem r_one {K G vs H Q E} (h : sp_one K vs H Q E) : t_one K G { nx := fun _ H' => Q .non H', rt := Q } (start n_one vs) H := by
  obtain ⟨l, c0, c1, c2, c3, rfl, hl, k⟩ := h
  unfold t_one
  walk_at "go"
  refine ⟨l, c0, c1, c2, c3, rfl, hl, fun p H1 n0 n1 n2 hp s1 g1 hg => ?_⟩
  have hg0 : good (some n0) (some n1) (some 0) = true := by
    rw [good, Bool.and_eq_true, Bool.and_eq_true] at hg ⊢
    exact ⟨hg.1, hg.2.1, rfl⟩
  walk_at "go"
  refine ⟨_, _, _, _, _, _, rfl, .int n0, .int n1, .int n2, fun _ a H2 ha s2 g2 => ?_, fun q => absurd (q.symm.trans hg) (by decide)⟩
  have gp2 := s2 _ _ g1
  walk_at "go"
  refine ⟨a, p, n0, n1, n2, rfl, g2, gp2, ?_⟩
  walk_at "go"
  refine ⟨_, _, _, _, _, _, rfl, .int n0, .int n1, .int 0, fun _ a3 H3 ha3 s3 g3 => ?_, fun q => absurd (q.symm.trans hg0) (by decide)⟩
  have gp3 := s3 _ _ gp2
  walk_at "go"
  refine lstQ fun l4 H4 hl4 s4 g4 => ?_
  refine ⟨a3, l4, n0, n1, 0, rfl, s4 _ _ g3, g4, ?_⟩
  have gp4 := s4 _ _ gp3
  unfold tCallN
  walk_at "go"
  refine ⟨_, _, _, _, _, _, rfl, .int n0, .int n1, .int n2, fun _ a5 H5 ha5 s5 g5 => ?_, fun q => absurd (q.symm.trans hg) (by decide)⟩
  have gp5 := s5 _ _ gp4
  walk_at "go"
  refine ⟨a5, p, n0, n1, n2, rfl, g5, gp5, ?_⟩
  have s05 := (((s1.trans s2).trans s3).trans s4).trans s5
  have gl5 := s05 _ _ hl
  walk_at "go"
  refine ite2 (fun c => ?_) (fun c => ?_)
  · exact k _ s05
  · walk_at "go"
    refine lstQ fun l6 H6 hl6 s6 g6 => ?_
    obtain ⟨j, hj⟩ := nn_nat (Int.emod_nonneg (c3 / 3) (show (3 : Int) ≠ 0 by decide))
    have hj3 : j < 3 := by omega
    rw [hj]
    obtain ⟨bd, hbd, hb0, hbad⟩ : ∃ bd : Int, [V.int N60, V.int B60, V.int B60][j]? = some (.int bd) ∧ 0 ≤ bd ∧ ∀ x o H', TV H' x o → inB o bd = false → ∃ y0 y1 y2 o0 o1 o2, [V.int n0, V.int n1, V.int n2].set j x = [y0, y1, y2] ∧ TV H' y0 o0 ∧ TV H' y1 o1 ∧ TV H' y2 o2 ∧ good o0 o1 o2 = false := by
      rcases (show j = 0 ∨ j = 1 ∨ j = 2 by omega) with rfl | rfl | rfl
      · exact ⟨N60, rfl, by decide, fun x o H' tv ib => ⟨_, _, _, _, _, _, rfl, tv, .int _, .int _, by rw [good, ib]; rfl⟩⟩
      · exact ⟨B60, rfl, by decide, fun x o H' tv ib => ⟨_, _, _, _, _, _, rfl, .int _, tv, .int _, by rw [good, ib, Bool.false_and, Bool.and_false]⟩⟩
      · exact ⟨B60, rfl, by decide, fun x o H' tv ib => ⟨_, _, _, _, _, _, rfl, .int _, .int _, tv, by rw [good, ib, Bool.and_false, Bool.and_false]⟩⟩
    refine ix_l' g6 (atI_nat (j := j) hbd) ?_
    walk_at "go"
    refine ⟨_, _, rfl, hb0, fun x o H7 s7 fr tv7 ib => ?_⟩
    have s07 := (s05.trans s6).trans s7
    have gp7 := s7 _ _ (s6 _ _ gp5)
    walk_at "go"
    refine set_r s07 hp gp7 (by simpa using hj3) fun H8 s8 g8 ne8 => ?_
    have gp6 := s6 _ _ gp5
    have tv : TV H8 x o := by
      have np : ∀ a, x = .ref a → a ≠ p := fun a q => (ne_of_none gp6 (fr a q)).symm
      cases tv7 with
      | int n => exact .int n
      | bl b => exact .bl b
      | non => exact .non
      | str s => exact .str s
      | tup h => exact .tup ((ne8 _ (np _ rfl)).trans h)
      | lst h => exact .lst ((ne8 _ (np _ rfl)).trans h)
    obtain ⟨y0, y1, y2, o0, o1, o2, e, t0, t1, t2, hbd2⟩ := hbad x o H8 tv ib
    rw [e] at g8
    walk_at "go"
    exact ⟨p, y0, y1, y2, o0, o1, o2, rfl, g8, t0, t1, t2, hbd2, fun H9 s9 => k H9 (s8.trans s9)⟩

theorem len_law_k01 {K : PySem.W.Frag} {vs : List V} {H : Hp} {Q : VK} {E : XK} (h : sp_law K vs H Q E) : vs.length = 1 := len_law h
abbrev n_law_k01 : List Str := ["_law_script", "_law_k", "_law_j"]
def t_law_k01 (K : PySem.W.Frag) : TS :=
  (tSeq (tFor (iRng3 (tCons (tC (.int 0)) (tCons (tOp rPlus (tCB (rLen K) (tCons (tSl (rSlA K) (tVar 0) tNoPart (tPart (tC (.int 84)))) tNil)) (tC (.int 1))) (tCons (tC (.int 4)) tNil)))) (gName 1)
  (tIfS (tNot (tB (tCall (sp_one K) [] E0 (tCons (tLc (iRng1 (tCons (tC (.int 4)) tNil)) (gName 2) tYes (tCall (sp_cell_at K) [] E0 (tCons (tSl (rSlA K) (tVar 0) tNoPart (tPart (tC (.int 84)))) (tCons (tOp rPlus (tVar 1) (tVar 2)) tNil))) [2]) tNil))))
  (tRet (tC (.bl false)))
  tNext))
  (tRet (tC (.bl true))))
theorem r_law_k01 {K vs H Q E} (h : sp_law K vs H Q E) : t_law_k01 K { nx := fun _ H' => Q .non H', rt := Q } (start n_law_k01 vs) H := by
  obtain ⟨a, ns, rfl, ha, hl, q⟩ := h
  unfold t_law_k01
  walk_at "go"
  obtain ⟨ms, em, hms⟩ := cut_ints ns none (some 84)
  refine sl_l ha fun p H1 hp s1 g1 => ?_
  rw [em] at g1
  walk_at "go"
  rw [List.length_map, show ((ms.length : Nat) : Int) + 1 = ((ms.length + 1 : Nat) : Int) by omega]
  refine forR3 (n := (ms.length + 1 + 3) / 4) (c := 4) (rg4 (ms.length + 1) (by omega)) (fun i σ H2 => ∃ v1 v2 : Option V, σ = [some (.ref a), v1, v2] ∧ Same H H2) ⟨none, none, rfl, s1⟩ ?_ ?_
  · rintro i σ H2 hi ⟨v1, v2, rfl, s2⟩
    walk_at "go"
    refine lcR1 (n := 4) (fun j => some (.int (ms.getD (i * 4 + j) 0))) (by decide) ?_ ?_
    · intro j H3 hj s3 R hR R2 hR2
      walk_at "go"
      refine sl_l (s3.seq (s2.seq ha)) fun p4 H4 hp4 s4 g4 => ?_
      rw [em] at g4
      walk_at "go"
      refine ⟨p4, ms, i * 4 + j, by simp, .of g4, hR _ _ rfl s4⟩
    · intro p3 H3 hp3 s3 g3
      walk_at "go"
      refine ⟨p3, _, _, _, _, rfl, g3, fun H4 s4 => ?_⟩
      walk_at "go"
      exact ⟨_, _, rfl, (s2.trans s3).trans s4⟩
  · rintro σ H2 ⟨v1, v2, rfl, s2⟩
    walk_at "go"
    exact q _
end Pb

namespace Rk01
open PySem PySem.Spec L2 Pb
def top (i : Nat) : Stmt := PySem.Challenge.pw_passby_k01_deeds_made.main.body.getD i (.Pass ⟨0, 0, 0, 0⟩)
abbrev s_lies_below : Stmt := (top 7)
theorem sc_lies_below : FnScope n_lies_below ["thing", "bound"] (defScope s_lies_below) := ⟨rfl, rfl, rfl, by decide +kernel, rfl, by decide +kernel, by decide +kernel⟩
abbrev s_deed : Stmt := (top 8)
theorem sc_deed : FnScope n_deed ["name", "looks", "changes"] (defScope s_deed) := ⟨rfl, rfl, rfl, by decide +kernel, rfl, by decide +kernel, by decide +kernel⟩
abbrev s_cell_at : Stmt := (top 10)
theorem sc_cell_at : FnScope n_cell_at ["_law_script", "_law_k"] (defScope s_cell_at) := ⟨rfl, rfl, rfl, by decide +kernel, rfl, by decide +kernel, by decide +kernel⟩
abbrev s_whole : Stmt := (top 11)
theorem sc_whole : FnScope n_whole ["_law_found"] (defScope s_whole) := ⟨rfl, rfl, rfl, by decide +kernel, rfl, by decide +kernel, by decide +kernel⟩
abbrev s_odd : Stmt := (top 12)
theorem sc_odd : FnScope n_odd ["_law_cell", "_law_bound"] (defScope s_odd) := ⟨rfl, rfl, rfl, by decide +kernel, rfl, by decide +kernel, by decide +kernel⟩
abbrev s_same3 : Stmt := (top 13)
theorem sc_same3 : FnScope n_same3 ["_law_found", "_law_due"] (defScope s_same3) := ⟨rfl, rfl, rfl, by decide +kernel, rfl, by decide +kernel, by decide +kernel⟩
abbrev s_class_told : Stmt := (top 14)
theorem sc_class_told : FnScope n_class_told ["_law_e"] (defScope s_class_told) := ⟨rfl, rfl, rfl, by decide +kernel, rfl, by decide +kernel, by decide +kernel⟩
abbrev s_refused_k01 : Stmt := (top 15)
theorem sc_refused_k01 : FnScope n_refused_k01 ["_law_three_here"] (defScope s_refused_k01) := ⟨rfl, rfl, rfl, by decide +kernel, rfl, by decide +kernel, by decide +kernel⟩
abbrev s_three : Stmt := (top 16)
theorem sc_three : FnScope n_three ["_law_cells"] (defScope s_three) := ⟨rfl, rfl, rfl, by decide +kernel, rfl, by decide +kernel, by decide +kernel⟩
abbrev s_one : Stmt := (top 17)
theorem sc_one : FnScope n_one ["_law_cells"] (defScope s_one) := ⟨rfl, rfl, rfl, by decide +kernel, rfl, by decide +kernel, by decide +kernel⟩
abbrev s_law_k01 : Stmt := (top 18)
theorem sc_law_k01 : FnScope n_law_k01 ["_law_script"] (defScope s_law_k01) := ⟨rfl, rfl, rfl, by decide +kernel, rfl, by decide +kernel, by decide +kernel⟩
structure Txt (K : PySem.W.Frag) (mg : Str → Option Value) (G : Str → Addr) : Prop where
  triv : True
  b_ValueError : mg "ValueError" = none
  b_bool : mg "bool" = none
  b_int : mg "int" = none
  b_isinstance : mg "isinstance" = none
  b_len : mg "len" = none
  b_range : mg "range" = none
  b_tuple : mg "tuple" = none
  g_NoBox : mg "NoBox" = some (.ref (G "NoBox"))
  x_NoBox : PySem.W.excIn K (G "NoBox") [.type "ValueError", .type "Exception", .type "BaseException", .type "object"] "ValueError.__new__" = true
  k_NoBox : PySem.W.keepIn K (.ref (G "NoBox")) = true
  s_NoBox : PySem.W.subIn K (.ref (G "NoBox")) (.type "BaseException") = some true
  t_NoBox : PySem.W.typeIn K (.ref (G "NoBox")) = some (.type "type")
  g_NoDeed : mg "NoDeed" = some (.ref (G "NoDeed"))
  x_NoDeed : PySem.W.excIn K (G "NoDeed") [.type "ValueError", .type "Exception", .type "BaseException", .type "object"] "ValueError.__new__" = true
  k_NoDeed : PySem.W.keepIn K (.ref (G "NoDeed")) = true
  s_NoDeed : PySem.W.subIn K (.ref (G "NoDeed")) (.type "BaseException") = some true
  t_NoDeed : PySem.W.typeIn K (.ref (G "NoDeed")) = some (.type "type")
  g_NoPass : mg "NoPass" = some (.ref (G "NoPass"))
  x_NoPass : PySem.W.excIn K (G "NoPass") [.type "ValueError", .type "Exception", .type "BaseException", .type "object"] "ValueError.__new__" = true
  k_NoPass : PySem.W.keepIn K (.ref (G "NoPass")) = true
  s_NoPass : PySem.W.subIn K (.ref (G "NoPass")) (.type "BaseException") = some true
  t_NoPass : PySem.W.typeIn K (.ref (G "NoPass")) = some (.type "type")
  g_Nothing : mg "Nothing" = some (.ref (G "Nothing"))
  x_Nothing : PySem.W.excIn K (G "Nothing") [.type "ValueError", .type "Exception", .type "BaseException", .type "object"] "ValueError.__new__" = true
  k_Nothing : PySem.W.keepIn K (.ref (G "Nothing")) = true
  s_Nothing : PySem.W.subIn K (.ref (G "Nothing")) (.type "BaseException") = some true
  t_Nothing : PySem.W.typeIn K (.ref (G "Nothing")) = some (.type "type")
  g_PassbyError : mg "PassbyError" = some (.ref (G "PassbyError"))
  x_PassbyError : PySem.W.excIn K (G "PassbyError") [.type "ValueError", .type "Exception", .type "BaseException", .type "object"] "ValueError.__new__" = true
  k_PassbyError : PySem.W.keepIn K (.ref (G "PassbyError")) = true
  s_PassbyError : PySem.W.subIn K (.ref (G "PassbyError")) (.type "BaseException") = some true
  t_PassbyError : PySem.W.typeIn K (.ref (G "PassbyError")) = some (.type "type")
  xf_NoDeed : XF K G "NoDeed"
section
variable {P : Program} {w : World} {K : PySem.W.Frag} {mg : Str → Option Value} {base : Heap} {G : Str → Addr}
theorem ok_lies_below {f : Addr} {fd : FuncData} (F : Fun K "lies_below" "lies_below" s_lies_below f fd) (T : Txt K mg G)  : FnOk P w K mg base CX0 1 f fd ["thing", "bound"] (sp_lies_below K) := by
  refine F.ok sc_lies_below (fun vs H Q E h => len_lies_below h) (fun cdv A outer s H vs Q E hr h => ⟨t_lies_below K, ?_, r_lies_below h⟩)
  exact (pss_cons (ps_if (PW.pt (pw_or (pt_not (pt_val (pe_callB call_isi (by rfl) T.b_isinstance bt_isinstance (pa_cons (pv 0) (pa_cons (pe_bltn (v := .ty "int") (by rfl) T.b_int bt_int (by rfl)) pa_nil))))) (pw_or1 (pt_val (pe_callB call_isi (by rfl) T.b_isinstance bt_isinstance (pa_cons (pv 0) (pa_cons (pe_bltn (v := .ty "bool") (by rfl) T.b_bool bt_bool (by rfl)) pa_nil)))))))
  (pss_one (ps_ret pe_bl))
  pss_nil)
  (pss_one (ps_ret (pe_chain op_le op_lt pe_int (pv 0) (pv 1)))))
theorem ok_deed {f : Addr} {fd : FuncData} (F : FunD K "deed" "deed" (defArgs s_deed) (defBody s_deed) (defScope s_deed) [V.int 0] [] f fd) (T : Txt K mg G) (C_lies_below : Cal P w K mg base CX0 "lies_below" 1 ["thing", "bound"] [] (sp_lies_below K)) : FnOk P w K mg base (L2.CX P w) 2 f fd ["name", "looks", "changes"] (sp_deed K G) := by
  refine F.ok sc_deed (fun vs H Q E h => len_deed h) (fun cdv A outer s H vs Q E hr h => ⟨t_deed K G E, ?_, r_deed h⟩)
  exact (pss_cons (ps_if (pt_not (pt_val (pe_cal C_lies_below (hr.mono (by decide)) .nil (by rfl) pass0 (pa_cons (pv 0) (pa_cons (pe_op op_pow pe_int pe_int) pa_nil)))))
  (pss_one (ps_raise rfl (takes_of rfl rfl rfl rfl) (pmk_own PySem.F.excBase_ValueError T.x_NoDeed T.g_NoDeed T.k_NoDeed (raises_own T.s_NoDeed T.t_NoDeed) (by rfl))))
  pss_nil)
  (pss_cons (ps_if (PW.pt (pw_or (pt_not (pt_val (pe_cal C_lies_below (hr.mono (by decide)) .nil (by rfl) pass0 (pa_cons (pv 1) (pa_cons (pe_op op_pow pe_int pe_int) pa_nil))))) (pw_or1 (pt_not (pt_val (pe_cal C_lies_below (hr.mono (by decide)) .nil (by rfl) pass0 (pa_cons (pv 2) (pa_cons (pe_op op_pow pe_int pe_int) pa_nil))))))))
  (pss_one (ps_raise rfl (takes_of rfl rfl rfl rfl) (pmk_own PySem.F.excBase_ValueError T.x_NoDeed T.g_NoDeed T.k_NoDeed (raises_own T.s_NoDeed T.t_NoDeed) (by rfl))))
  pss_nil)
  (pss_one (ps_ret (pe_tup (pa_cons (pv 0) (pa_cons (pv 1) (pa_cons (pv 2) pa_nil))))))))
theorem ok_cell_at {f : Addr} {fd : FuncData} (F : Fun K "_law_cell_at" "_law_cell_at" s_cell_at f fd) (T : Txt K mg G)  : FnOk P w K mg base CX0 1 f fd ["_law_script", "_law_k"] (sp_cell_at K) := by
  refine F.ok sc_cell_at (fun vs H Q E h => len_cell_at h) (fun cdv A outer s H vs Q E hr h => ⟨t_cell_at K, ?_, r_cell_at h⟩)
  exact (pss_cons (ps_if (pt_cmpR op_lt (pv 1) (pe_callB call_len_seq (by rfl) T.b_len bt_len (pa_cons (pv 0) pa_nil)) (nomark _))
  (pss_one (ps_ret (pe_ix ix_seq (pv 0) (pv 1) (fun _ _ => rfl))))
  pss_nil)
  (pss_one (ps_ret pe_int)))
theorem ok_whole {f : Addr} {fd : FuncData} (F : Fun K "_law_whole" "_law_whole" s_whole f fd) (T : Txt K mg G)  : FnOk P w K mg base CX0 1 f fd ["_law_found"] (sp_whole K) := by
  refine F.ok sc_whole (fun vs H Q E h => len_whole h) (fun cdv A outer s H vs Q E hr h => ⟨t_whole K, ?_, r_whole h⟩)
  exact (pss_one (ps_ret (pe_and (pe_callB call_isi (by rfl) T.b_isinstance bt_isinstance (pa_cons (pv 0) (pa_cons (pe_bltn (v := .ty "int") (by rfl) T.b_int bt_int (by rfl)) pa_nil))) (pe_one (pe_not (pe_callB call_isi (by rfl) T.b_isinstance bt_isinstance (pa_cons (pv 0) (pa_cons (pe_bltn (v := .ty "bool") (by rfl) T.b_bool bt_bool (by rfl)) pa_nil))))))))
theorem ok_odd {f : Addr} {fd : FuncData} (F : Fun K "_law_odd" "_law_odd" s_odd f fd) (T : Txt K mg G)  : FnOk P w K mg base CX0 1 f fd ["_law_cell", "_law_bound"] (sp_odd K) := by
  refine F.ok sc_odd (fun vs H Q E h => len_odd h) (fun cdv A outer s H vs Q E hr h => ⟨t_odd K, ?_, r_odd h⟩)
  exact (pss_cons (ps_set (i := 2) sc_odd.nd rfl (Or.inl rfl) (pe_op op_mod (pe_op op_fdivW (pv 0) pe_int) (pe_op op_pow pe_int pe_int)))
  (pss_cons (ps_set (i := 3) sc_odd.nd rfl (Or.inl rfl) (pe_lst (pa_cons pe_bl (pa_cons pe_bl (pa_cons pe_non (pa_cons pe_str (pa_cons (pe_tup (pa_cons pe_int pa_nil)) (pa_cons (pe_lst (pa_cons pe_int pa_nil)) (pa_cons (pe_un un_neg pe_int) (pa_cons (pe_op op_sub (pe_un un_neg pe_int) (pv 2)) (pa_cons (pv 1) (pa_cons (pe_op op_plus (pv 1) (pv 2)) pa_nil))))))))))))
  (pss_one (ps_ret (pe_ix ix_seq (pv 3) (pe_op op_mod (pv 0) pe_int) (fun _ _ => rfl))))))
theorem ok_same3 {f : Addr} {fd : FuncData} (F : Fun K "_law_same" "_law_same" s_same3 f fd) (T : Txt K mg G) (C_whole : Cal P w K mg base CX0 "_law_whole" 1 ["_law_found"] [] (sp_whole K)) : FnOk P w K mg base CX0 2 f fd ["_law_found", "_law_due"] (sp_same3 K) := by
  refine F.ok sc_same3 (fun vs H Q E h => len_same3 h) (fun cdv A outer s H vs Q E hr h => ⟨t_same3 K, ?_, r_same3 h⟩)
  exact (pss_cons (ps_if (PW.pt (pw_or (pt_not (pt_val (pe_callB call_isi (by rfl) T.b_isinstance bt_isinstance (pa_cons (pv 0) (pa_cons (pe_bltn (v := .ty "tuple") (by rfl) T.b_tuple bt_tuple (by rfl)) pa_nil))))) (pw_or1 (pt_cmpR (op_neA hr.units) (pe_callB call_len_seq (by rfl) T.b_len bt_len (pa_cons (pv 0) pa_nil)) pe_int (nomark _)))))
  (pss_one (ps_ret pe_bl))
  pss_nil)
  (pss_cons (ps_for PassesOwn.never rfl (pi_range1 (by rfl) T.b_range (pa_cons pe_int pa_nil)) (pg_name (i := 2) sc_same3.nd rfl (Or.inl rfl))
  (pss_one (ps_if (PW.pt (pw_or (pt_not (pt_val (pe_cal C_whole (hr.mono (by decide)) .nil (by rfl) pass0 (pa_cons (pe_ix ix_seq (pv 0) (pv 2) (fun _ _ => rfl)) pa_nil)))) (pw_or1 (pt_cmpR (op_neA hr.units) (pe_ix ix_seq (pv 0) (pv 2) (fun _ _ => rfl)) (pe_ix ix_seq (pv 1) (pv 2) (fun _ _ => rfl)) (nomark _)))))
  (pss_one (ps_ret pe_bl))
  pss_nil)))
  (pss_one (ps_ret pe_bl))))
theorem ok_class_told {f : Addr} {fd : FuncData} (F : Fun K "_law_class_told" "_law_class_told" s_class_told f fd) (T : Txt K mg G) (hm : mg "_law_class_told" = some (.ref f)) (hb : Binds K fd ["_law_e"] [])  : CalE P w K mg base (.ref (G "NoDeed")) "_law_class_told" 1 ["_law_e"] (sp_class_told K) := by
  refine ⟨f, fd, hm, F.kp, hb, fun a vs H Q E h => len_class_told h, fun b hz hf => told_run F sc_class_told (fun a vs H Q E h => len_class_told h) fun cdv A outer s H vs Q hr h => ⟨t_class_told b.1 K G, ?_, r_class_told T.xf_NoDeed h⟩⟩
  obtain ⟨a, oe⟩ := b
  exact (pss_cons (ps_set (i := 1) sc_class_told.nd rfl (Or.inl rfl) (pe_lst (pa_cons (pe_callB (call_isEP T.xf_NoDeed.ex ⟨oe, List.mem_cons_self, by exact hz, hf⟩) (by rfl) T.b_isinstance bt_isinstance (pa_cons (pv 0) (pa_cons (pe_glob (by rfl) T.g_NoDeed (by rfl)) pa_nil))) (pa_cons (pe_callB (call_isEP T.xf_NoDeed.ex ⟨oe, List.mem_cons_self, by exact hz, hf⟩) (by rfl) T.b_isinstance bt_isinstance (pa_cons (pv 0) (pa_cons (pe_glob (by rfl) T.g_NoPass (by rfl)) pa_nil))) (pa_cons (pe_callB (call_isEP T.xf_NoDeed.ex ⟨oe, List.mem_cons_self, by exact hz, hf⟩) (by rfl) T.b_isinstance bt_isinstance (pa_cons (pv 0) (pa_cons (pe_glob (by rfl) T.g_Nothing (by rfl)) pa_nil))) (pa_cons (pe_callB (call_isEP T.xf_NoDeed.ex ⟨oe, List.mem_cons_self, by exact hz, hf⟩) (by rfl) T.b_isinstance bt_isinstance (pa_cons (pv 0) (pa_cons (pe_glob (by rfl) T.g_NoBox (by rfl)) pa_nil))) pa_nil))))))
  (pss_one (ps_ret (pe_and (pe_cmpR (op_eqA (huL hr)) (pv 1) (pe_lst (pa_cons pe_bl (pa_cons pe_bl (pa_cons pe_bl (pa_cons pe_bl pa_nil))))) (nomark _)) (pe_one (pe_callB (call_isEP T.xf_NoDeed.ex ⟨oe, List.mem_cons_self, by exact hz, hf⟩) (by rfl) T.b_isinstance bt_isinstance (pa_cons (pv 0) (pa_cons (pe_bltn (v := .ty "ValueError") (by rfl) T.b_ValueError bt_ValueError (by rfl)) pa_nil))))))))
theorem ok_refused_k01 {f : Addr} {fd : FuncData} (F : Fun K "_law_refused" "_law_refused" s_refused_k01 f fd) (T : Txt K mg G) (C_deed : Cal3 P w K mg base (L2.CX P w) "deed" 2 ["name", "looks", "changes"] "changes" (sp_deed K G)) (C_class_told : CalE P w K mg base (.ref (G "NoDeed")) "_law_class_told" 1 ["_law_e"] (sp_class_told K)) : FnOk P w K mg base CX0 3 f fd ["_law_three_here"] (sp_refused_k01 K) := by
  refine F.ok sc_refused_k01 (fun vs H Q E h => len_refused_k01 h) (fun cdv A outer s H vs Q E hr h => ⟨t_refused_k01 K G, ?_, r_refused_k01 T.xf_NoDeed h⟩)
  exact (pss_cons (ps_set (i := 1) sc_refused_k01.nd rfl (Or.inl rfl) pe_bl)
  (pss_cons (by exact (ps_try_as (i := 2) (tb := fun W => (tDrop (tCallS (sp_deed K G) (WE W) (tCons (tOp (rIx K) (tVar 0) (tC (.int 0))) (tCons (tOp (rIx K) (tVar 0) (tC (.int 1))) (tCons (tOp (rIx K) (tVar 0) (tC (.int 2))) tNil)))))) (ts := (fun a cls d => tWhen (cls = .ref (G "NoDeed") ∧ d = none) (tAsg (tCallE (sp_class_told K) a (tCons (tVar 2) tNil)) (gName 1)))) rfl rfl sc_refused_k01.nd rfl rfl ⟨rfl, by decide, .inl T.g_PassbyError⟩ takes0 (fun W pn xe tk _ => (pss_one (ps_expr (by exact (pe_own3 C_deed (hr.mono (by decide)) (by rfl) (fun σ => passAt tk σ) (by exact (pa_cons (pe_ix ix_seq (pv 0) pe_int (fun _ _ => rfl)) (pa_cons (pe_ix ix_seq (pv 0) pe_int (fun _ _ => rfl)) (pa_cons (pe_ix ix_seq (pv 0) pe_int (fun _ _ => rfl)) pa_nil))))))))) (fun a oe cls d pn hz hf => pss_when fun hcl => (pss_one (ps_set (i := 1) sc_refused_k01.nd rfl (Or.inl rfl) (pe_calE C_class_told ⟨(show Room 1 _ from hr.mono (by decide)).dp, (show Room 1 _ from hr.mono (by decide)).un⟩ List.mem_cons_self (by rw [← hcl.1, ← hcl.2]; exact hz) hf (by rfl) (pa_cons (pv 2) pa_nil)))))))
  (pss_one (ps_ret (pv 1)))))
theorem ok_three {f : Addr} {fd : FuncData} (F : Fun K "_law_three" "_law_three" s_three f fd) (T : Txt K mg G)  : FnOk P w K mg base CX0 1 f fd ["_law_cells"] (sp_three K) := by
  refine F.ok sc_three (fun vs H Q E h => len_three h) (fun cdv A outer s H vs Q E hr h => ⟨t_three K, ?_, r_three h⟩)
  exact (pss_cons (ps_if (pt_cmpR (op_eqA hr.units) (pe_op op_mod (pe_op op_fdivW (pe_ix ix_seq (pv 0) pe_int (fun _ _ => rfl)) pe_int) pe_int) pe_int (nomark _))
  (pss_one (ps_ret (pe_lst (pa_cons (pe_op op_mod (pe_ix ix_seq (pv 0) pe_int (fun _ _ => rfl)) pe_int) (pa_cons (pe_op op_mod (pe_ix ix_seq (pv 0) pe_int (fun _ _ => rfl)) pe_int) (pa_cons (pe_op op_mod (pe_ix ix_seq (pv 0) pe_int (fun _ _ => rfl)) pe_int) pa_nil))))))
  pss_nil)
  (pss_one (ps_ret (pe_lst (pa_cons (pe_op op_mod (pe_ix ix_seq (pv 0) pe_int (fun _ _ => rfl)) (pe_op op_pow pe_int pe_int)) (pa_cons (pe_op op_mod (pe_ix ix_seq (pv 0) pe_int (fun _ _ => rfl)) (pe_op op_pow pe_int pe_int)) (pa_cons (pe_op op_mod (pe_ix ix_seq (pv 0) pe_int (fun _ _ => rfl)) (pe_op op_pow pe_int pe_int)) pa_nil)))))))
theorem ok_one {f : Addr} {fd : FuncData} (F : Fun K "_law_one" "_law_one" s_one f fd) (T : Txt K mg G) (C_three : Cal P w K mg base CX0 "_law_three" 1 ["_law_cells"] [] (sp_three K)) (C_same3 : Cal P w K mg base CX0 "_law_same" 2 ["_law_found", "_law_due"] [] (sp_same3 K)) (C_deed : Cal3 P w K mg base (L2.CX P w) "deed" 2 ["name", "looks", "changes"] "changes" (sp_deed K G)) (C_odd : Cal P w K mg base CX0 "_law_odd" 1 ["_law_cell", "_law_bound"] [] (sp_odd K)) (C_refused_k01 : Cal P w K mg base CX0 "_law_refused" 3 ["_law_three_here"] [] (sp_refused_k01 K)) : FnOk P w K mg base CX0 4 f fd ["_law_cells"] (sp_one K) := by
  refine F.ok sc_one (fun vs H Q E h => len_one h) (fun cdv A outer s H vs Q E hr h => ⟨t_one K G, ?_, r_one h⟩)
  exact (pss_cons (ps_set (i := 1) sc_one.nd rfl (Or.inl rfl) (pe_cal C_three (hr.mono (by decide)) .nil (by rfl) pass0 (pa_cons (pv 0) pa_nil)))
  (pss_cons (ps_if (pt_not (pt_val (pe_cal C_same3 (hr.mono (by decide)) .nil (by rfl) pass0 (pa_cons (pe_all3 C_deed (hr.mono (by decide)) (by rfl) passL (pa_cons (pe_ix ix_seq (pv 1) pe_int (fun _ _ => rfl)) (pa_cons (pe_ix ix_seq (pv 1) pe_int (fun _ _ => rfl)) (pa_cons (pe_ix ix_seq (pv 1) pe_int (fun _ _ => rfl)) pa_nil)))) (pa_cons (pv 1) pa_nil)))))
  (pss_one (ps_ret pe_bl))
  pss_nil)
  (pss_cons (ps_if (pt_not (pt_val (pe_cal C_same3 (hr.mono (by decide)) .nil (by rfl) pass0 (pa_cons (pe_two3 C_deed (hr.mono (by decide)) (by rfl) passL (pa_cons (pe_ix ix_seq (pv 1) pe_int (fun _ _ => rfl)) (pa_cons (pe_ix ix_seq (pv 1) pe_int (fun _ _ => rfl)) pa_nil))) (pa_cons (pe_lst (pa_cons (pe_ix ix_seq (pv 1) pe_int (fun _ _ => rfl)) (pa_cons (pe_ix ix_seq (pv 1) pe_int (fun _ _ => rfl)) (pa_cons pe_int pa_nil)))) pa_nil)))))
  (pss_one (ps_ret pe_bl))
  pss_nil)
  (pss_cons (ps_if (pt_not (pt_val (pe_cal C_same3 (hr.mono (by decide)) .nil (by rfl) pass0 (pa_cons (pe_named3 C_deed (hr.mono (by decide)) (by rfl) passL (pa_cons (pe_ix ix_seq (pv 1) pe_int (fun _ _ => rfl)) (pa_cons (pe_ix ix_seq (pv 1) pe_int (fun _ _ => rfl)) pa_nil)) (pk_cons (pe_ix ix_seq (pv 1) pe_int (fun _ _ => rfl)) pk_nil)) (pa_cons (pv 1) pa_nil)))))
  (pss_one (ps_ret pe_bl))
  pss_nil)
  (pss_cons (ps_if (pt_cmpR (op_neA hr.units) (pe_op op_mod (pe_ix ix_seq (pv 0) pe_int (fun _ _ => rfl)) pe_int) pe_int (nomark _))
  (pss_one (ps_ret pe_bl))
  pss_nil)
  (pss_cons (ps_set (i := 2) sc_one.nd rfl (Or.inl rfl) (pe_op op_mod (pe_op op_fdivW (pe_ix ix_seq (pv 0) pe_int (fun _ _ => rfl)) pe_int) pe_int))
  (pss_cons (ps_asg (pe_cal C_odd (hr.mono (by decide)) .nil (by rfl) pass0 (pa_cons (pe_op op_fdivW (pe_ix ix_seq (pv 0) pe_int (fun _ _ => rfl)) pe_int) (pa_cons (pe_ix ix_seq (pe_lst (pa_cons (pe_op op_pow pe_int pe_int) (pa_cons (pe_op op_pow pe_int pe_int) (pa_cons (pe_op op_pow pe_int pe_int) pa_nil)))) (pv 2) (fun _ _ => rfl)) pa_nil))) (pg_sub (pv 1) (pv 2) set_list))
  (pss_one (ps_ret (pe_cal C_refused_k01 (hr.mono (by decide)) .nil (by rfl) pass0 (pa_cons (pv 1) pa_nil)))))))))))
theorem ok_law_k01 {f : Addr} {fd : FuncData} (F : Fun K "law" "law" s_law_k01 f fd) (T : Txt K mg G) (C_one : Cal P w K mg base CX0 "_law_one" 4 ["_law_cells"] [] (sp_one K)) (C_cell_at : Cal P w K mg base CX0 "_law_cell_at" 1 ["_law_script", "_law_k"] [] (sp_cell_at K)) : FnOk P w K mg base CX0 5 f fd ["_law_script"] (sp_law K) := by
  refine F.ok sc_law_k01 (fun vs H Q E h => len_law_k01 h) (fun cdv A outer s H vs Q E hr h => ⟨t_law_k01 K, ?_, r_law_k01 h⟩)
  exact (pss_cons (ps_for PassesOwn.never rfl (pi_range3 (by rfl) T.b_range (pa_cons pe_int (pa_cons (pe_op op_plus (pe_callB call_len_seq (by rfl) T.b_len bt_len (pa_cons (pe_slice sl_any (pv 0) po_none (po_some pe_int)) pa_nil)) pe_int) (pa_cons pe_int pa_nil)))) (pg_name (i := 1) sc_law_k01.nd rfl (Or.inr rfl))
  (pss_one (ps_if (pt_not (pt_val (pe_cal C_one (hr.mono (by decide)) .nil (by rfl) pass0 (pa_cons (pe_lc (own := [("_law_j", 2)]) (by rfl) sc_law_k01.nd (pi_range1 (by rfl) T.b_range (pa_cons pe_int pa_nil)) (blkOk_by (N := n_law_k01) (sc := defScope s_law_k01) (by decide +kernel)) (fun _ _ _ _ _ => (pg_name (i := 2) sc_law_k01.nd rfl (Or.inl rfl))) (fun _ _ _ _ _ => pts_nil) (fun _ _ _ _ _ => (pe_cal C_cell_at (hr.mono (by decide)) .nil (by rfl) pass0 (pa_cons (pe_slice sl_any (pv 0) po_none (po_some pe_int)) (pa_cons (pe_op op_plus (pv 1) (pv 2)) pa_nil))))) pa_nil))))
  (pss_one (ps_ret pe_bl))
  pss_nil)))
  (pss_one (ps_ret pe_bl)))
end
theorem all_mk {l : PySem.W.OpenLaw} {w : World} {K : PySem.W.Frag} {h : Heap} {mg : Str → Option Value} {fa : Addr} (X : K.In h) (Gx : h.Ns mainGlobals mg) (hfa : mg "law" = some (.ref fa))
    {f_lies_below f_deed f_cell_at f_whole f_odd f_same3 f_class_told f_refused_k01 f_three f_one f_law_k01 : Addr}
    {C_NoBox C_NoDeed C_NoPass C_Nothing C_PassbyError : Addr}
    {od0 an0 : Option Addr} {sl0 : Array (Option Value)} {oc0 kV0 dc0 pm0 cd0 ct0 : Value}
    {od1 an1 : Option Addr} {sl1 : Array (Option Value)} {oc1 kV1 dc1 pm1 cd1 ct1 : Value}
    {od2 an2 : Option Addr} {sl2 : Array (Option Value)} {oc2 kV2 dc2 pm2 cd2 ct2 : Value}
    {od3 an3 : Option Addr} {sl3 : Array (Option Value)} {oc3 kV3 dc3 pm3 cd3 ct3 : Value}
    {od4 an4 : Option Addr} {sl4 : Array (Option Value)} {oc4 kV4 dc4 pm4 cd4 ct4 : Value}
    {od5 an5 : Option Addr} {sl5 : Array (Option Value)} {oc5 kV5 dc5 pm5 cd5 ct5 : Value}
    {od6 an6 : Option Addr} {sl6 : Array (Option Value)} {oc6 kV6 dc6 pm6 cd6 ct6 : Value}
    {od7 an7 : Option Addr} {sl7 : Array (Option Value)} {oc7 kV7 dc7 pm7 cd7 ct7 : Value}
    {od8 an8 : Option Addr} {sl8 : Array (Option Value)} {oc8 kV8 dc8 pm8 cd8 ct8 : Value}
    {od9 an9 : Option Addr} {sl9 : Array (Option Value)} {oc9 kV9 dc9 pm9 cd9 ct9 : Value}
    {od10 an10 : Option Addr} {sl10 : Array (Option Value)} {oc10 kV10 dc10 pm10 cd10 ct10 : Value}
    (qNoBox_g : PySem.W.nsIn K mainGlobals "NoBox" = some (some (.ref C_NoBox)))
    (qNoBox_x : PySem.W.excIn K C_NoBox [.type "ValueError", .type "Exception", .type "BaseException", .type "object"] "ValueError.__new__" = true)
    (qNoBox_k : PySem.W.keepIn K (.ref C_NoBox) = true)
    (qNoBox_s : PySem.W.subIn K (.ref C_NoBox) (.type "BaseException") = some true)
    (qNoBox_t : PySem.W.typeIn K (.ref C_NoBox) = some (.type "type"))
    (qNoDeed_g : PySem.W.nsIn K mainGlobals "NoDeed" = some (some (.ref C_NoDeed)))
    (qNoDeed_x : PySem.W.excIn K C_NoDeed [.type "ValueError", .type "Exception", .type "BaseException", .type "object"] "ValueError.__new__" = true)
    (qNoDeed_k : PySem.W.keepIn K (.ref C_NoDeed) = true)
    (qNoDeed_s : PySem.W.subIn K (.ref C_NoDeed) (.type "BaseException") = some true)
    (qNoDeed_t : PySem.W.typeIn K (.ref C_NoDeed) = some (.type "type"))
    (qNoPass_g : PySem.W.nsIn K mainGlobals "NoPass" = some (some (.ref C_NoPass)))
    (qNoPass_x : PySem.W.excIn K C_NoPass [.type "ValueError", .type "Exception", .type "BaseException", .type "object"] "ValueError.__new__" = true)
    (qNoPass_k : PySem.W.keepIn K (.ref C_NoPass) = true)
    (qNoPass_s : PySem.W.subIn K (.ref C_NoPass) (.type "BaseException") = some true)
    (qNoPass_t : PySem.W.typeIn K (.ref C_NoPass) = some (.type "type"))
    (qNothing_g : PySem.W.nsIn K mainGlobals "Nothing" = some (some (.ref C_Nothing)))
    (qNothing_x : PySem.W.excIn K C_Nothing [.type "ValueError", .type "Exception", .type "BaseException", .type "object"] "ValueError.__new__" = true)
    (qNothing_k : PySem.W.keepIn K (.ref C_Nothing) = true)
    (qNothing_s : PySem.W.subIn K (.ref C_Nothing) (.type "BaseException") = some true)
    (qNothing_t : PySem.W.typeIn K (.ref C_Nothing) = some (.type "type"))
    (qPassbyError_g : PySem.W.nsIn K mainGlobals "PassbyError" = some (some (.ref C_PassbyError)))
    (qPassbyError_x : PySem.W.excIn K C_PassbyError [.type "ValueError", .type "Exception", .type "BaseException", .type "object"] "ValueError.__new__" = true)
    (qPassbyError_k : PySem.W.keepIn K (.ref C_PassbyError) = true)
    (qPassbyError_s : PySem.W.subIn K (.ref C_PassbyError) (.type "BaseException") = some true)
    (qPassbyError_t : PySem.W.typeIn K (.ref C_PassbyError) = some (.type "type"))
    (rPassbyError_d : PySem.W.hasDictIn K C_PassbyError = true)
    (rNoDeed_d : PySem.W.hasDictIn K C_NoDeed = true)
    (rNoPass_d : PySem.W.hasDictIn K C_NoPass = true)
    (rNothing_d : PySem.W.hasDictIn K C_Nothing = true)
    (rNoBox_d : PySem.W.hasDictIn K C_NoBox = true)
    (r_sp : PySem.W.specialIn K (.builtin "object.__class__") "__get__" = some (some (.builtin "getset_descriptor.__get__")))
    (r_tk : PySem.W.takesIn K (.builtin "object.__class__") = some true)
    (rNoDeed_a : PySem.W.findIn K (.ref C_NoDeed) "__getattribute__" = some (some (.builtin "BaseException.__getattribute__")))
    (rNoDeed_b : PySem.W.findIn K (.ref C_NoDeed) "__getattr__" = some none)
    (rNoDeed_c : PySem.W.findIn K (.ref C_NoDeed) "__class__" = some (some (.builtin "object.__class__")))
    (rNoDeed_m : PySem.W.mroIn K C_NoDeed (.type "object") = some true)
    (rNoDeed_v : PySem.W.subIn K (.ref C_NoDeed) (.type "ValueError") = some true)
    (rNoDeed_u_PassbyError : PySem.W.subIn K (.ref C_NoDeed) (.ref C_PassbyError) = some true)
    (rNoDeed_u_NoDeed : PySem.W.subIn K (.ref C_NoDeed) (.ref C_NoDeed) = some true)
    (rNoDeed_u_NoPass : PySem.W.subIn K (.ref C_NoDeed) (.ref C_NoPass) = some false)
    (rNoDeed_u_Nothing : PySem.W.subIn K (.ref C_NoDeed) (.ref C_Nothing) = some false)
    (rNoDeed_u_NoBox : PySem.W.subIn K (.ref C_NoDeed) (.ref C_NoBox) = some false)
    (a0 : PySem.W.nsIn K mainGlobals "lies_below" = some (some (.ref f_lies_below)))
    (l0 : K.lookup f_lies_below = some ⟨oc0, od0, .func (PySem.W.fnOf "lies_below" "lies_below" (defArgs s_lies_below) (defBody s_lies_below) (defScope s_lies_below) .none kV0 dc0 pm0 an0 cd0 ct0), sl0⟩)
    (c0 : PySem.W.codeIn K cd0 "lies_below" = true)
    (k0 : PySem.W.keepIn K (.ref f_lies_below) = true)
    (a1 : PySem.W.nsIn K mainGlobals "deed" = some (some (.ref f_deed)))
    {T1 : Addr} {oT1 : Value} {odT1 : Option Addr} {nT1 : Nat} {tT1 : Tok} {slT1 : Array (Option Value)}
    (l1 : K.lookup f_deed = some ⟨oc1, od1, .func (PySem.W.fnOf "deed" "deed" (defArgs s_deed) (defBody s_deed) (defScope s_deed) (.ref T1) kV1 dc1 pm1 an1 cd1 ct1), sl1⟩)
    (c1 : PySem.W.codeIn K cd1 "deed" = true)
    (k1 : PySem.W.keepIn K (.ref f_deed) = true)
    (d1 : K.lookup T1 = some ⟨oT1, odT1, .seq #[.int 0 tT1] nT1, slT1⟩)
    (a2 : PySem.W.nsIn K mainGlobals "_law_cell_at" = some (some (.ref f_cell_at)))
    (l2 : K.lookup f_cell_at = some ⟨oc2, od2, .func (PySem.W.fnOf "_law_cell_at" "_law_cell_at" (defArgs s_cell_at) (defBody s_cell_at) (defScope s_cell_at) .none kV2 dc2 pm2 an2 cd2 ct2), sl2⟩)
    (c2 : PySem.W.codeIn K cd2 "_law_cell_at" = true)
    (k2 : PySem.W.keepIn K (.ref f_cell_at) = true)
    (a3 : PySem.W.nsIn K mainGlobals "_law_whole" = some (some (.ref f_whole)))
    (l3 : K.lookup f_whole = some ⟨oc3, od3, .func (PySem.W.fnOf "_law_whole" "_law_whole" (defArgs s_whole) (defBody s_whole) (defScope s_whole) .none kV3 dc3 pm3 an3 cd3 ct3), sl3⟩)
    (c3 : PySem.W.codeIn K cd3 "_law_whole" = true)
    (k3 : PySem.W.keepIn K (.ref f_whole) = true)
    (a4 : PySem.W.nsIn K mainGlobals "_law_odd" = some (some (.ref f_odd)))
    (l4 : K.lookup f_odd = some ⟨oc4, od4, .func (PySem.W.fnOf "_law_odd" "_law_odd" (defArgs s_odd) (defBody s_odd) (defScope s_odd) .none kV4 dc4 pm4 an4 cd4 ct4), sl4⟩)
    (c4 : PySem.W.codeIn K cd4 "_law_odd" = true)
    (k4 : PySem.W.keepIn K (.ref f_odd) = true)
    (a5 : PySem.W.nsIn K mainGlobals "_law_same" = some (some (.ref f_same3)))
    (l5 : K.lookup f_same3 = some ⟨oc5, od5, .func (PySem.W.fnOf "_law_same" "_law_same" (defArgs s_same3) (defBody s_same3) (defScope s_same3) .none kV5 dc5 pm5 an5 cd5 ct5), sl5⟩)
    (c5 : PySem.W.codeIn K cd5 "_law_same" = true)
    (k5 : PySem.W.keepIn K (.ref f_same3) = true)
    (a6 : PySem.W.nsIn K mainGlobals "_law_class_told" = some (some (.ref f_class_told)))
    (l6 : K.lookup f_class_told = some ⟨oc6, od6, .func (PySem.W.fnOf "_law_class_told" "_law_class_told" (defArgs s_class_told) (defBody s_class_told) (defScope s_class_told) .none kV6 dc6 pm6 an6 cd6 ct6), sl6⟩)
    (c6 : PySem.W.codeIn K cd6 "_law_class_told" = true)
    (k6 : PySem.W.keepIn K (.ref f_class_told) = true)
    (a7 : PySem.W.nsIn K mainGlobals "_law_refused" = some (some (.ref f_refused_k01)))
    (l7 : K.lookup f_refused_k01 = some ⟨oc7, od7, .func (PySem.W.fnOf "_law_refused" "_law_refused" (defArgs s_refused_k01) (defBody s_refused_k01) (defScope s_refused_k01) .none kV7 dc7 pm7 an7 cd7 ct7), sl7⟩)
    (c7 : PySem.W.codeIn K cd7 "_law_refused" = true)
    (k7 : PySem.W.keepIn K (.ref f_refused_k01) = true)
    (a8 : PySem.W.nsIn K mainGlobals "_law_three" = some (some (.ref f_three)))
    (l8 : K.lookup f_three = some ⟨oc8, od8, .func (PySem.W.fnOf "_law_three" "_law_three" (defArgs s_three) (defBody s_three) (defScope s_three) .none kV8 dc8 pm8 an8 cd8 ct8), sl8⟩)
    (c8 : PySem.W.codeIn K cd8 "_law_three" = true)
    (k8 : PySem.W.keepIn K (.ref f_three) = true)
    (a9 : PySem.W.nsIn K mainGlobals "_law_one" = some (some (.ref f_one)))
    (l9 : K.lookup f_one = some ⟨oc9, od9, .func (PySem.W.fnOf "_law_one" "_law_one" (defArgs s_one) (defBody s_one) (defScope s_one) .none kV9 dc9 pm9 an9 cd9 ct9), sl9⟩)
    (c9 : PySem.W.codeIn K cd9 "_law_one" = true)
    (k9 : PySem.W.keepIn K (.ref f_one) = true)
    (a10 : PySem.W.nsIn K mainGlobals "law" = some (some (.ref f_law_k01)))
    (l10 : K.lookup f_law_k01 = some ⟨oc10, od10, .func (PySem.W.fnOf "law" "law" (defArgs s_law_k01) (defBody s_law_k01) (defScope s_law_k01) .none kV10 dc10 pm10 an10 cd10 ct10), sl10⟩)
    (c10 : PySem.W.codeIn K cd10 "law" = true)
    (k10 : PySem.W.keepIn K (.ref f_law_k01) = true)
    (z_ValueError : PySem.W.nsIn K mainGlobals "ValueError" = some none)
    (z_bool : PySem.W.nsIn K mainGlobals "bool" = some none)
    (z_int : PySem.W.nsIn K mainGlobals "int" = some none)
    (z_isinstance : PySem.W.nsIn K mainGlobals "isinstance" = some none)
    (z_len : PySem.W.nsIn K mainGlobals "len" = some none)
    (z_range : PySem.W.nsIn K mainGlobals "range" = some none)
    (z_tuple : PySem.W.nsIn K mainGlobals "tuple" = some none)
    : ∃ fd : FuncData, (∀ (s : Shared) (v : Value), BindsTo s fd ⟨[v], []⟩ [("_law_script", v)]) ∧ ∀ base : Heap, K.In base → base.Ns mainGlobals mg → FnOk l.prog w K mg base CX0 5 fa fd ["_law_script"] (sp_law K) := by
  have e := hfa.symm.trans (PySem.W.mg_of X Gx a10)
  cases e
  obtain ⟨G, hG⟩ : ∃ G : Str → Addr, G = fun x => match mg x with | some (.ref a) => a | _ => 0 := ⟨_, rfl⟩
  have m_NoBox := PySem.W.mg_of X Gx qNoBox_g
  have G_NoBox : G "NoBox" = C_NoBox := by rw [hG]; show (match mg "NoBox" with | some (.ref a) => a | _ => 0) = C_NoBox; rw [m_NoBox]
  subst G_NoBox
  have m_NoDeed := PySem.W.mg_of X Gx qNoDeed_g
  have G_NoDeed : G "NoDeed" = C_NoDeed := by rw [hG]; show (match mg "NoDeed" with | some (.ref a) => a | _ => 0) = C_NoDeed; rw [m_NoDeed]
  subst G_NoDeed
  have m_NoPass := PySem.W.mg_of X Gx qNoPass_g
  have G_NoPass : G "NoPass" = C_NoPass := by rw [hG]; show (match mg "NoPass" with | some (.ref a) => a | _ => 0) = C_NoPass; rw [m_NoPass]
  subst G_NoPass
  have m_Nothing := PySem.W.mg_of X Gx qNothing_g
  have G_Nothing : G "Nothing" = C_Nothing := by rw [hG]; show (match mg "Nothing" with | some (.ref a) => a | _ => 0) = C_Nothing; rw [m_Nothing]
  subst G_Nothing
  have m_PassbyError := PySem.W.mg_of X Gx qPassbyError_g
  have G_PassbyError : G "PassbyError" = C_PassbyError := by rw [hG]; show (match mg "PassbyError" with | some (.ref a) => a | _ => 0) = C_PassbyError; rw [m_PassbyError]
  subst G_PassbyError
  have T : Txt K mg G := { triv := trivial, b_ValueError := PySem.W.mg_none_of X Gx z_ValueError, b_bool := PySem.W.mg_none_of X Gx z_bool, b_int := PySem.W.mg_none_of X Gx z_int, b_isinstance := PySem.W.mg_none_of X Gx z_isinstance, b_len := PySem.W.mg_none_of X Gx z_len, b_range := PySem.W.mg_none_of X Gx z_range, b_tuple := PySem.W.mg_none_of X Gx z_tuple, g_NoBox := m_NoBox, x_NoBox := qNoBox_x, k_NoBox := qNoBox_k, s_NoBox := qNoBox_s, t_NoBox := qNoBox_t, g_NoDeed := m_NoDeed, x_NoDeed := qNoDeed_x, k_NoDeed := qNoDeed_k, s_NoDeed := qNoDeed_s, t_NoDeed := qNoDeed_t, g_NoPass := m_NoPass, x_NoPass := qNoPass_x, k_NoPass := qNoPass_k, s_NoPass := qNoPass_s, t_NoPass := qNoPass_t, g_Nothing := m_Nothing, x_Nothing := qNothing_x, k_Nothing := qNothing_k, s_Nothing := qNothing_s, t_Nothing := qNothing_t, g_PassbyError := m_PassbyError, x_PassbyError := qPassbyError_x, k_PassbyError := qPassbyError_k, s_PassbyError := qPassbyError_s, t_PassbyError := qPassbyError_t, xf_NoDeed := ⟨⟨rNoDeed_a, rNoDeed_b, qNoDeed_s, rNoDeed_d, rNoDeed_c, r_sp, r_tk, rNoDeed_m⟩, PySem.W.exm_ref qNoDeed_s rNoDeed_d qNoDeed_t rNoDeed_u_NoDeed, PySem.W.exm_ref qPassbyError_s rPassbyError_d qPassbyError_t rNoDeed_u_PassbyError, kit_ve rNoDeed_v, kit_yes rNoDeed_d qNoDeed_t rNoDeed_u_NoDeed, by intro x hx hn; simp only [errNames, List.mem_cons, List.not_mem_nil, or_false] at hx; rcases hx with rfl | rfl | rfl | rfl; exact absurd rfl hn; exact kit_no rNoPass_d qNoPass_t rNoDeed_u_NoPass rNoDeed_u_NoDeed; exact kit_no rNothing_d qNothing_t rNoDeed_u_Nothing rNoDeed_u_NoDeed; exact kit_no rNoBox_d qNoBox_t rNoDeed_u_NoBox rNoDeed_u_NoDeed⟩ }
  have F_lies_below := fun_mk (st := s_lies_below) l0 c0 k0
  have F_deed : FunD K "deed" "deed" (defArgs s_deed) (defBody s_deed) (defScope s_deed) [V.int 0] [] f_deed (PySem.W.fnOf "deed" "deed" (defArgs s_deed) (defBody s_deed) (defScope s_deed) (.ref T1) kV1 dc1 pm1 an1 cd1 ct1) := ⟨⟨_, _, _, _, _, _, _, _, _, _, rfl, l1, c1, .inr ⟨by simp, _, _, [Value.int 0 tT1], _, rfl, d1, rfl, .cons ⟨_, rfl⟩ .nil⟩, .inl rfl⟩, k1⟩
  have F_cell_at := fun_mk (st := s_cell_at) l2 c2 k2
  have F_whole := fun_mk (st := s_whole) l3 c3 k3
  have F_odd := fun_mk (st := s_odd) l4 c4 k4
  have F_same3 := fun_mk (st := s_same3) l5 c5 k5
  have F_class_told := fun_mk (st := s_class_told) l6 c6 k6
  have F_refused_k01 := fun_mk (st := s_refused_k01) l7 c7 k7
  have F_three := fun_mk (st := s_three) l8 c8 k8
  have F_one := fun_mk (st := s_one) l9 c9 k9
  have F_law_k01 := fun_mk (st := s_law_k01) l10 c10 k10
  have b_lies_below := F_lies_below.binds (ps := ["thing", "bound"]) fun _ _ _ _ _ _ us hl => match us, hl with | [_, _], _ => rfl
  have b_deed : Binds K (PySem.W.fnOf "deed" "deed" (defArgs s_deed) (defBody s_deed) (defScope s_deed) (.ref T1) kV1 dc1 pm1 an1 cd1 ct1) ["name", "looks", "changes"] [] := by
    obtain ⟨ds, rd, hb⟩ := F_deed.binds1 (ps := ["name", "looks", "changes"]) 3 1 (by simp) rfl (fun T kV doc pm an cdv ct us its h1 h2 => match us, h1, its, h2 with | [_, _, _], _, [_], _ => ⟨_, rfl, rfl⟩)
    cases rd
    exact hb
  have b2_deed := F_deed.binds1 (ps := ["name", "looks", "changes"]) 2 0 (by simp) rfl (fun T kV doc pm an cdv ct us its h1 h2 => match us, h1, its, h2 with | [_, _], _, [_], _ => ⟨_, rfl, rfl⟩)
  have b3_deed := kbn_of (ps := ["name", "looks", "changes"]) (nm := "changes") F_deed (fun T kV doc pm an cdv ct u0 u1 u2 d => ⟨_, rfl, rfl⟩)
  have b_cell_at := F_cell_at.binds (ps := ["_law_script", "_law_k"]) fun _ _ _ _ _ _ us hl => match us, hl with | [_, _], _ => rfl
  have b_whole := F_whole.binds (ps := ["_law_found"]) fun _ _ _ _ _ _ us hl => match us, hl with | [_], _ => rfl
  have b_odd := F_odd.binds (ps := ["_law_cell", "_law_bound"]) fun _ _ _ _ _ _ us hl => match us, hl with | [_, _], _ => rfl
  have b_same3 := F_same3.binds (ps := ["_law_found", "_law_due"]) fun _ _ _ _ _ _ us hl => match us, hl with | [_, _], _ => rfl
  have b_class_told := F_class_told.binds (ps := ["_law_e"]) fun _ _ _ _ _ _ us hl => match us, hl with | [_], _ => rfl
  have b_refused_k01 := F_refused_k01.binds (ps := ["_law_three_here"]) fun _ _ _ _ _ _ us hl => match us, hl with | [_], _ => rfl
  have b_three := F_three.binds (ps := ["_law_cells"]) fun _ _ _ _ _ _ us hl => match us, hl with | [_], _ => rfl
  have b_one := F_one.binds (ps := ["_law_cells"]) fun _ _ _ _ _ _ us hl => match us, hl with | [_], _ => rfl
  refine ⟨PySem.W.fnOf "law" "law" (defArgs s_law_k01) (defBody s_law_k01) (defScope s_law_k01) .none kV10 dc10 pm10 an10 cd10 ct10, fun s v => .of_eq rfl, fun base _ _ => ?_⟩
  have C_lies_below : Cal l.prog w K mg base CX0 "lies_below" 1 ["thing", "bound"] [] (sp_lies_below K) := ⟨_, _, ok_lies_below F_lies_below T , PySem.W.mg_of X Gx a0, k0, b_lies_below⟩
  have C_deed : Cal3 l.prog w K mg base (L2.CX l.prog w) "deed" 2 ["name", "looks", "changes"] "changes" (sp_deed K G) := ⟨_, _, ok_deed F_deed T C_lies_below, PySem.W.mg_of X Gx a1, k1, b_deed, b2_deed, b3_deed⟩
  have C_cell_at : Cal l.prog w K mg base CX0 "_law_cell_at" 1 ["_law_script", "_law_k"] [] (sp_cell_at K) := ⟨_, _, ok_cell_at F_cell_at T , PySem.W.mg_of X Gx a2, k2, b_cell_at⟩
  have C_whole : Cal l.prog w K mg base CX0 "_law_whole" 1 ["_law_found"] [] (sp_whole K) := ⟨_, _, ok_whole F_whole T , PySem.W.mg_of X Gx a3, k3, b_whole⟩
  have C_odd : Cal l.prog w K mg base CX0 "_law_odd" 1 ["_law_cell", "_law_bound"] [] (sp_odd K) := ⟨_, _, ok_odd F_odd T , PySem.W.mg_of X Gx a4, k4, b_odd⟩
  have C_same3 : Cal l.prog w K mg base CX0 "_law_same" 2 ["_law_found", "_law_due"] [] (sp_same3 K) := ⟨_, _, ok_same3 F_same3 T C_whole, PySem.W.mg_of X Gx a5, k5, b_same3⟩
  have C_class_told : CalE l.prog w K mg base (.ref (G "NoDeed")) "_law_class_told" 1 ["_law_e"] (sp_class_told K) := ok_class_told F_class_told T (PySem.W.mg_of X Gx a6) b_class_told 
  have C_refused_k01 : Cal l.prog w K mg base CX0 "_law_refused" 3 ["_law_three_here"] [] (sp_refused_k01 K) := ⟨_, _, ok_refused_k01 F_refused_k01 T C_deed C_class_told, PySem.W.mg_of X Gx a7, k7, b_refused_k01⟩
  have C_three : Cal l.prog w K mg base CX0 "_law_three" 1 ["_law_cells"] [] (sp_three K) := ⟨_, _, ok_three F_three T , PySem.W.mg_of X Gx a8, k8, b_three⟩
  have C_one : Cal l.prog w K mg base CX0 "_law_one" 4 ["_law_cells"] [] (sp_one K) := ⟨_, _, ok_one F_one T C_three C_same3 C_deed C_odd C_refused_k01, PySem.W.mg_of X Gx a9, k9, b_one⟩
  exact ok_law_k01 F_law_k01 T C_one C_cell_at
theorem walk {l : PySem.W.OpenLaw} {q : Program} {loose : List Str} {XP : (Str → Option Value) → Heap → Prop} {YP : World → Heap → Prop} {d : DefRec} {K : Params → PySem.W.Frag} (hn : l.most = some 63) (hdf : d.params.defaults = [])
    (hY : ∀ (w : World) (h : Heap), YP w h → (K w.params).In h)
    (F : ∀ (w : World) (mg : Str → Option Value) (fa : Addr) (h : Heap), (K w.params).In h → h.Ns mainGlobals mg → mg d.name = some (.ref fa) →
      ∃ fd : FuncData, (∀ (s : Shared) (u : Value), BindsTo s fd ⟨[u], []⟩ [("_law_script", u)]) ∧ ∀ base : Heap, (K w.params).In base → base.Ns mainGlobals mg → FnOk l.prog w (K w.params) mg base CX0 5 fa fd ["_law_script"] (sp_law (K w.params))) :
    PySem.W.WalkO q loose XP YP l.row.toRowW d [] (fun f vs => PySem.call f vs) :=
  L2.walk_of (n := 63) (k := 5) (x := "_law_script") (CX := fun _ => CX0) (sp := fun w => sp_law (K w.params)) hn (by decide) hdf ⟨rfl, by decide, by decide⟩ hY F (fun _ _ a ns hl _ hS => ⟨a, ns, rfl, hS, hl, fun _ => rfl⟩) fun _ _ _ _ _ z => z
end Rk01
open PySem PySem.W PyProof.Rows
set_option maxRecDepth 100000 in
set_option maxHeartbeats 0 in
theorem PySem.Challenge.cw_passby_k01_deeds_made_holds : PySem.Challenge.rw_passby_k01_deeds_made.Holds := by
  w_on; o_law; k_head; (case hw => w_witness2)
  k_fill
  refine Rk01.walk (l := PySem.Challenge.rw_passby_k01_deeds_made) rfl rfl (fun w h Y => PySem.W.kIn_of Y) ?F
  case F =>
    intro w mg fa h KX Gx hmg
    refine' Rk01.all_mk KX Gx hmg ?qNoBox_g ?qNoBox_x ?qNoBox_k ?qNoBox_s ?qNoBox_t ?qNoDeed_g ?qNoDeed_x ?qNoDeed_k ?qNoDeed_s ?qNoDeed_t ?qNoPass_g ?qNoPass_x ?qNoPass_k ?qNoPass_s ?qNoPass_t ?qNothing_g ?qNothing_x ?qNothing_k ?qNothing_s ?qNothing_t ?qPassbyError_g ?qPassbyError_x ?qPassbyError_k ?qPassbyError_s ?qPassbyError_t ?rPassbyError_d ?rNoDeed_d ?rNoPass_d ?rNothing_d ?rNoBox_d ?r_sp ?r_tk ?rNoDeed_a ?rNoDeed_b ?rNoDeed_c ?rNoDeed_m ?rNoDeed_v ?rNoDeed_u_PassbyError ?rNoDeed_u_NoDeed ?rNoDeed_u_NoPass ?rNoDeed_u_Nothing ?rNoDeed_u_NoBox ?a0 ?l0 ?c0 ?k0 ?a1 ?l1 ?c1 ?k1 ?d1 ?a2 ?l2 ?c2 ?k2 ?a3 ?l3 ?c3 ?k3 ?a4 ?l4 ?c4 ?k4 ?a5 ?l5 ?c5 ?k5 ?a6 ?l6 ?c6 ?k6 ?a7 ?l7 ?c7 ?k7 ?a8 ?l8 ?c8 ?k8 ?a9 ?l9 ?c9 ?k9 ?a10 ?l10 ?c10 ?k10 ?z_ValueError ?z_bool ?z_int ?z_isinstance ?z_len ?z_range ?z_tuple
    (case qNoBox_g => k_is); (case qNoBox_x => k_exc); (case qNoBox_k => k_is); (case qNoBox_s => k_is); (case qNoBox_t => k_is); (case qNoDeed_g => k_is)
    (case qNoDeed_x => k_exc); (case qNoDeed_k => k_is); (case qNoDeed_s => k_is); (case qNoDeed_t => k_is); (case qNoPass_g => k_is); (case qNoPass_x => k_exc)
    (case qNoPass_k => k_is); (case qNoPass_s => k_is); (case qNoPass_t => k_is); (case qNothing_g => k_is); (case qNothing_x => k_exc); (case qNothing_k => k_is)
    (case qNothing_s => k_is); (case qNothing_t => k_is); (case qPassbyError_g => k_is); (case qPassbyError_x => k_exc); (case qPassbyError_k => k_is); (case qPassbyError_s => k_is)
    (case qPassbyError_t => k_is); (case rPassbyError_d => k_is); (case rNoDeed_d => k_is); (case rNoPass_d => k_is); (case rNothing_d => k_is); (case rNoBox_d => k_is)
    (case r_sp => k_is); (case r_tk => k_is); (case rNoDeed_a => k_is); (case rNoDeed_b => k_is); (case rNoDeed_c => k_is); (case rNoDeed_m => k_is)
    (case rNoDeed_v => k_is); (case rNoDeed_u_PassbyError => k_is); (case rNoDeed_u_NoDeed => k_is); (case rNoDeed_u_NoPass => k_is); (case rNoDeed_u_Nothing => k_is); (case rNoDeed_u_NoBox => k_is)
    (case a0 => k_is); (case l0 => k_is); (case c0 => k_is); (case k0 => k_is); (case a1 => k_is); (case l1 => k_is)
    (case c1 => k_is); (case k1 => k_is); (case d1 => k_is); (case a2 => k_is); (case l2 => k_is); (case c2 => k_is)
    (case k2 => k_is); (case a3 => k_is); (case l3 => k_is); (case c3 => k_is); (case k3 => k_is); (case a4 => k_is)
    (case l4 => k_is); (case c4 => k_is); (case k4 => k_is); (case a5 => k_is); (case l5 => k_is); (case c5 => k_is)
    (case k5 => k_is); (case a6 => k_is); (case l6 => k_is); (case c6 => k_is); (case k6 => k_is); (case a7 => k_is)
    (case l7 => k_is); (case c7 => k_is); (case k7 => k_is); (case a8 => k_is); (case l8 => k_is); (case c8 => k_is)
    (case k8 => k_is); (case a9 => k_is); (case l9 => k_is); (case c9 => k_is); (case k9 => k_is); (case a10 => k_is)
    (case l10 => k_is); (case c10 => k_is); (case k10 => k_is); (case z_ValueError => k_is); (case z_bool => k_is); (case z_int => k_is)
    (case z_isinstance => k_is); (case z_len => k_is); (case z_range => k_is); (case z_tuple => k_is)
#print axioms PySem.Challenge.cw_passby_k01_deeds_made_holds
