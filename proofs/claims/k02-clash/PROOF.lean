import PyProof.Rows.All
import Wide.All
import OpenK.AllK
import Wide.FinOn
import HandS.ForMost
import HandS.ForExc
import HandS.Deep
import HandS.IsInst
import HandS.Wide
import HandS.Zip
import HandS.More
import HandS.SortKw
import PySem.Challenge.RW_passby_k02_clash
set_option Elab.async false
set_option linter.all false
set_option maxRecDepth 100000
set_option maxHeartbeats 4000000
/-! PbBase: short names of readings, calls of defs as facts, heaps that grow. -/
namespace Pb
open PySem PySem.Spec L2

/-! ### readings by short names -/
abbrev rSub : R2 := rI0 fun i j => .int (i - j)
abbrev rMul : R2 := rI CMul fun i j => .int (i * j)
abbrev rDiv : R2 := rI CDivW fun i j => .int (i / j)
abbrev rMod : R2 := rI (fun _ j => 0 < j) fun i j => .int (i % j)
abbrev rAnd : R2 := rI0 fun i j => .int (Builtin.bitAnd i j)
abbrev rOr : R2 := rI0 fun i j => .int (Builtin.bitOr i j)
abbrev rShr : R2 := rI (fun _ j => 0 ≤ j) fun i j => .int (i / 2 ^ j.toNat)
abbrev rShl : R2 := rI CPow fun i j => .int (i * 2 ^ j.toNat)
abbrev rPow : R2 := rI CPow fun i j => .int (i ^ j.toNat)
abbrev rNeg : V → Hp → VK → Prop := rU fun i => .int (-i)
abbrev rLt : R2 := rI0 fun i j => .bl (decide (i < j))
abbrev rLe : R2 := rI0 fun i j => .bl (decide (i ≤ j))
abbrev rGt : R2 := rI0 fun i j => .bl (decide (j < i))
abbrev rGe : R2 := rI0 fun i j => .bl (decide (j ≤ i))
abbrev rIsN : R2 := fun x y H Q => y = .non ∧ Q (.bl (decide (x = .non))) H
abbrev rNotN : R2 := fun x y H Q => y = .non ∧ Q (.bl (!decide (x = .non))) H
def rLen (K : PySem.W.Frag) : List V → Hp → VK → Prop := fun xs H Q => ∃ p ys, xs = [.ref p] ∧ (SqL K H p ys ∨ SqT K H p ys) ∧ Q (.int ys.length) H
def rListOf (K : PySem.W.Frag) : List V → Hp → VK → Prop := fun xs H Q => ∃ p ys, xs = [.ref p] ∧ (SqL K H p ys ∨ SqT K H p ys) ∧ ∀ l, H l = none → Q (.ref l) (upd H l (.lst ys))
def rMax2 : List V → Hp → VK → Prop := fun xs H Q => ∃ i j, xs = [.int i, .int j] ∧ Q (.int (if j > i then j else i)) H
def rInsert : V → List V → Hp → VK → Prop := fun x vs H Q => ∃ (l : Addr) (xs : List V) (i : Int) (y : V), x = .ref l ∧ vs = [.int i, y] ∧ H l = some (.lst xs) ∧ xs.length < sizeLine ∧ 0 ≤ i ∧ i < 2 ^ 63 ∧ Q .non (upd H l (.lst (xs.take i.toNat ++ [y] ++ xs.drop i.toNat)))
/-- a + b: of ints, of lists -/
def rPlus : R2 := fun x y H Q => rI0 (fun i j => .int (i + j)) x y H Q ∨ rCat x y H Q
def rEqA (K : PySem.W.Frag) : R2 := fun x y H Q => rEq x y H Q ∨ rEqD K x y H Q
def rNeA (K : PySem.W.Frag) : R2 := fun x y H Q => rNe x y H Q ∨ rNeD K x y H Q
def rSlA (K : PySem.W.Frag) : V → Option Int → Option Int → Hp → VK → Prop := fun x lo hi H Q => rSlL K x lo hi H Q ∨ rSlT K x lo hi H Q
section
variable {X : Cx}
theorem op_plus : OpR X (binaryOp .Add) rPlus := op_add.or op_cat
theorem op_eqA (hu : X.A.units + 64 < cLine) : OpR X (compareOp .Eq) (rEqA X.K) := op_eq.or (op_eqD hu)
theorem op_neA (hu : X.A.units + 64 < cLine) : OpR X (compareOp .NotEq) (rNeA X.K) := op_ne.or (op_neD hu)
theorem sl_any : SlR X (rSlA X.K) := sl_list.or sl_tup
end
theorem hu65 {A : Around} {k : Nat} (hr : Room k A) : A.units + 65 < cLine := by
  have := hr.un
  omega

/-! ### the built-ins' names -/
theorem bt_len : bootBuiltins "len" = some (.builtin "len") := by decide +kernel
theorem bt_isinstance : bootBuiltins "isinstance" = some (.builtin "isinstance") := by decide +kernel
theorem bt_max : bootBuiltins "max" = some (.builtin "max") := by decide +kernel
theorem bt_min : bootBuiltins "min" = some (.builtin "min") := by decide +kernel
theorem bt_sorted : bootBuiltins "sorted" = some (.builtin "sorted") := by decide +kernel
theorem bt_list : bootBuiltins "list" = some (.type "list") := by decide +kernel
theorem bt_tuple : bootBuiltins "tuple" = some (.type "tuple") := by decide +kernel
theorem bt_int : bootBuiltins "int" = some (.type "int") := by decide +kernel
theorem bt_bool : bootBuiltins "bool" = some (.type "bool") := by decide +kernel
theorem bt_str : bootBuiltins "str" = some (.type "str") := by decide +kernel
theorem bt_dict : bootBuiltins "dict" = some (.type "dict") := by decide +kernel
theorem bt_sum : bootBuiltins "sum" = some (.builtin "sum") := by decide +kernel
theorem bt_ValueError : bootBuiltins "ValueError" = some (.type "ValueError") := by decide +kernel

/-! ### a def of the module, as a fact: what it is called by, its level, what it promises -/
structure Cal (P : Program) (w : World) (K : PySem.W.Frag) (mg : Str → Option Value) (base : Heap) (CX : CXT) (x : Str) (k : Nat) (ps : List Str) (ds : List Value) (sp : Sp) : Prop where
  ex : ∃ (f : Addr) (fd : FuncData), FnOk P w K mg base CX k f fd ps sp ∧ mg x = some (.ref f) ∧ PySem.W.keepIn K (.ref f) = true ∧ Binds K fd ps ds
structure Mth (P : Program) (w : World) (K : PySem.W.Frag) (mg : Str → Option Value) (base : Heap) (CX : CXT) (C : Addr) (m : Str) (k : Nat) (ps : List Str) (sp : Sp) : Prop where
  ex : ∃ (f : Addr) (fd : FuncData), FnOk P w K mg base CX k f fd ps sp ∧ Meth K C m f ∧ Binds K fd ps []
structure Mak (P : Program) (w : World) (K : PySem.W.Frag) (mg : Str → Option Value) (base : Heap) (CX : CXT) (C : Addr) (k : Nat) (ps : List Str) (sp : Sp) : Prop where
  ex : ∃ (f : Addr) (fd : FuncData), FnOk P w K mg base CX k f fd ps sp ∧ Mk K C f ∧ Binds K fd ps []
section
variable {X : Cx} {CX : CXT} {k : Nat} {C : Addr} {ps : List Str} {sp : Sp} {dvs : List V} {ds : List Value} {E : XK} {x m : Str} {p pos apos : Pos} {e o : Expr} {es : List Expr} {ta : TE} {t : TA}
theorem pe_cal (C : Cal X.prog X.w X.K X.mg X.base CX x k ps ds sp) (hr : Room k X.A) (hd : Vals dvs ds) (hg : Gl X x) (hx : Passes CX X E)
    (ha : PA X (e :: es) t) (hdb : (x == ("__debug__" : Str)) = false := by decide) (he : starEach (e :: es) X.env = (false, eval e X.env) :: starEach es X.env := by rfl) (hpl : (backTo pos (starEach es X.env)).any (·.1) = false := by rfl) :
    PE X (.Call (.Name x p) (e :: es) [] pos) (tCall sp dvs E t) := by
  obtain ⟨f, fd, F, hm, hk, hb⟩ := C.ex
  exact pe_call F hr hg hm hk hb hd hx ha hdb he hpl
theorem pe_mth {pl : Sem Bool} (ho : PE X o ta) (c : Cls X.K C) (M : Mth X.prog X.w X.K X.mg X.base CX C m k ps sp) (hr : Room k X.A) (hx : Passes CX X E) (ha : PA X (e :: es) t)
    (hst : starEach (e :: es) X.env = (false, eval e X.env) :: starEach es X.env := by rfl) (hpl : (backTo pos (starEach es X.env)).any (·.1) = false := by rfl)
    (ht : eval (.Call (.Attribute o m apos) (e :: es) [] pos) X.env = (do
      let ov ← eval o X.env
      standAt apos.atName
      let (f, first) ← holding [ov] (getMethod ov m pl)
      callWith pos f first (backTo pos (starEach (e :: es) X.env)) (backToKw pos (keywordEach [] X.env))) := by rfl) :
    PE X (.Call (.Attribute o m apos) (e :: es) [] pos) (tMeth C m sp [] E ta t) := by
  obtain ⟨f, fd, F, hm, hb⟩ := M.ex
  exact pe_meth ho c hm F hr hb .nil hx ha hst hpl ht
theorem pe_mth0 {pl : Sem Bool} (ho : PE X o ta) (c : Cls X.K C) (M : Mth X.prog X.w X.K X.mg X.base CX C m k ps sp) (hr : Room k X.A) (hx : Passes CX X E)
    (ht : eval (.Call (.Attribute o m apos) [] [] pos) X.env = (do
      let ov ← eval o X.env
      standAt apos.atName
      let (f, first) ← holding [ov] (getMethod ov m pl)
      callWith pos f first (backTo pos (starEach [] X.env)) (backToKw pos (keywordEach [] X.env))) := by rfl) :
    PE X (.Call (.Attribute o m apos) [] [] pos) (tMeth C m sp [] E ta tNil) := by
  obtain ⟨f, fd, F, hm, hb⟩ := M.ex
  exact pe_meth0 ho c hm F hr hb .nil hx ht
theorem pe_mk0 (M : Mak X.prog X.w X.K X.mg X.base CX C k ps sp) (hr : Room (k + 1) X.A) (hg : Gl X x) (hm : X.mg x = some (.ref C)) (hx : Passes CX X E) (hdb : (x == ("__debug__" : Str)) = false := by decide) :
    PE X (.Call (.Name x p) [] [] pos) (tMake C sp [] E tNil) := by
  obtain ⟨f, fd, F, M, hb⟩ := M.ex
  exact pe_make0 M F hr hg hm hb .nil hx hdb
theorem pe_const {v : V} (hg : Gl X x) (hm : ∃ u, X.mg x = some u ∧ RelV v u) (hd : (x == ("__debug__" : Str)) = false := by decide) : PE X (.Name x pos) (tC v) := by
  obtain ⟨u, h1, h2⟩ := hm
  exact pe_glob hg h1 h2 hd
end

/-! ### heaps that grow -/
theorem same_upd {H H' : Hp} {p : Addr} {o : HO} (s : Same H H') (h : H p = none) : Same H (upd H' p o) := fun b x e => by
  rw [upd_ne (ne_of_none e h)]
  exact s b x e
theorem same_new {H : Hp} {p : Addr} {o : HO} (h : H p = none) : Same H (upd H p o) := same_upd (Same.refl H) h
/-- a new object: the heap behind it by a letter -/
theorem al {H : Hp} {o : HO} {Q : VK} (h : ∀ (p : Addr) (H1 : Hp), H p = none → Same H H1 → H1 p = some o → Q (.ref p) H1) : ∀ p, H p = none → Q (.ref p) (upd H p o) :=
  fun p hp => h p _ hp (same_new hp) upd_same
/-- an object that H0 doesn't know is changed -/
theorem mu {H0 H : Hp} {p : Addr} {o : HO} {Q : Hp → Prop} (s : Same H0 H) (hp : H0 p = none) (h : ∀ H1 : Hp, Same H0 H1 → H1 p = some o → (∀ b, b ≠ p → H1 b = H b) → Q H1) : Q (upd H p o) :=
  h _ (same_upd s hp) upd_same fun _ n => upd_ne n
theorem sq_t {K : PySem.W.Frag} {H H' : Hp} {a : Addr} {xs : List V} (s : Same H H') (h : SqT K H a xs) : SqT K H' a xs := by
  rcases h with (h | ⟨o, h⟩) | h
  · exact .inl (.inl (s _ _ h))
  · exact .inl (.inr ⟨o, s _ _ h⟩)
  · exact .inr h

/-! ### bits of numbers from nought -/
theorem bnot2 (x : Int) : Builtin.bitNot (Builtin.bitNot x) = x := by
  unfold Builtin.bitNot
  omega
theorem band_nat (a b : Nat) : Builtin.bitAnd (a : Int) (b : Int) = ((a &&& b : Nat) : Int) := rfl
theorem bor_nat (a b : Nat) : Builtin.bitOr (a : Int) (b : Int) = ((a ||| b : Nat) : Int) := by
  have h1 : ¬ (0 : Int) ≤ Builtin.bitNot (a : Int) := by
    unfold Builtin.bitNot
    omega
  have h2 : ¬ (0 : Int) ≤ Builtin.bitNot (b : Int) := by
    unfold Builtin.bitNot
    omega
  unfold Builtin.bitOr Builtin.bitAnd
  rw [decide_eq_false h1, decide_eq_false h2]
  show Builtin.bitNot (Builtin.bitNot (((Builtin.bitNot (Builtin.bitNot (a : Int))).toNat ||| (Builtin.bitNot (Builtin.bitNot (b : Int))).toNat : Nat) : Int)) = _
  rw [bnot2, bnot2, bnot2, Int.toNat_natCast, Int.toNat_natCast]

/-! ### written numbers -/
/-- written powers, divisors, factors -/
theorem cp_of {i j : Int} (h : 0 ≤ j ∧ j ≤ 1000000 ∧ i.natAbs < 2 ^ 64) : CPow i j = True := eq_true h
theorem cp_2_60 : CPow 2 60 = True := cp_of (by decide)
theorem cp_2_61 : CPow 2 61 = True := cp_of (by decide)
theorem cp_10_60 : CPow 10 60 = True := cp_of (by decide)
theorem cp_10_59 : CPow 10 59 = True := cp_of (by decide)
theorem cp_10_50 : CPow 10 50 = True := cp_of (by decide)
theorem cp_10_30 : CPow 10 30 = True := cp_of (by decide)
theorem cp_10_7 : CPow 10 7 = True := cp_of (by decide)
theorem cdw {i j : Int} (h : 0 < j ∧ j.natAbs.log2 < 9000) : CDivW i j = True := eq_true h
theorem cmw {i j : Int} (h : -(2 ^ 64) < i ∧ i < 2 ^ 64) : CMul i j = True := eq_true (.inl h)
theorem cmv {i j : Int} (h : -(2 ^ 64) < j ∧ j < 2 ^ 64) : CMul i j = True := eq_true (.inr h)

theorem cd_2 {i : Int} : CDivW i 2 = True := cdw (by decide +kernel)
theorem cd_3 {i : Int} : CDivW i 3 = True := cdw (by decide +kernel)
theorem cd_4 {i : Int} : CDivW i 4 = True := cdw (by decide +kernel)
theorem cd_6 {i : Int} : CDivW i 6 = True := cdw (by decide +kernel)
theorem cd_7 {i : Int} : CDivW i 7 = True := cdw (by decide +kernel)
theorem cd_8 {i : Int} : CDivW i 8 = True := cdw (by decide +kernel)
theorem cd_9 {i : Int} : CDivW i 9 = True := cdw (by decide +kernel)
theorem cd_10 {i : Int} : CDivW i 10 = True := cdw (by decide +kernel)
theorem cd_24 {i : Int} : CDivW i 24 = True := cdw (by decide +kernel)
theorem cd_36 {i : Int} : CDivW i 36 = True := cdw (by decide +kernel)
theorem cd_48 {i : Int} : CDivW i 48 = True := cdw (by decide +kernel)
theorem cd_56 {i : Int} : CDivW i 56 = True := cdw (by decide +kernel)
theorem cd_60 {i : Int} : CDivW i 60 = True := cdw (by decide +kernel)
theorem cd_61 {i : Int} : CDivW i 61 = True := cdw (by decide +kernel)
theorem cd_180 {i : Int} : CDivW i 180 = True := cdw (by decide +kernel)
theorem cd_183 {i : Int} : CDivW i 183 = True := cdw (by decide +kernel)
theorem cd_540 {i : Int} : CDivW i 540 = True := cdw (by decide +kernel)
theorem cd_3600 {i : Int} : CDivW i 3600 = True := cdw (by decide +kernel)
theorem cd_1152921504606846976 {i : Int} : CDivW i 1152921504606846976 = True := cdw (by decide +kernel)
theorem cm_2 {i : Int} : CMul 2 i = True := cmw (by decide +kernel)
theorem cn_2 {i : Int} : CMul i 2 = True := cmv (by decide +kernel)
theorem cm_3 {i : Int} : CMul 3 i = True := cmw (by decide +kernel)
theorem cn_3 {i : Int} : CMul i 3 = True := cmv (by decide +kernel)
theorem cm_175 {i : Int} : CMul 175 i = True := cmw (by decide +kernel)
theorem cn_175 {i : Int} : CMul i 175 = True := cmv (by decide +kernel)
theorem cm_48271 {i : Int} : CMul 48271 i = True := cmw (by decide +kernel)
theorem cn_48271 {i : Int} : CMul i 48271 = True := cmv (by decide +kernel)
theorem cm_2147483647 {i : Int} : CMul 2147483647 i = True := cmw (by decide +kernel)
theorem cn_2147483647 {i : Int} : CMul i 2147483647 = True := cmv (by decide +kernel)

/-! ### single readings -/
theorem rd_plus {i j : Int} {H : Hp} {Q : VK} (h : Q (.int (i + j)) H) : rPlus (.int i) (.int j) H Q := .inl ⟨_, _, rfl, rfl, h⟩
theorem plus_int {i j : Int} {H : Hp} {Q : VK} : rPlus (.int i) (.int j) H Q = Q (.int (i + j)) H := by
  refine propext ⟨fun h => ?_, rd_plus⟩
  rcases h with ⟨_, _, e, e', h⟩ | ⟨_, _, _, _, e, _⟩
  · cases e
    cases e'
    exact h
  · cases e
theorem ri0_int {g : Int → Int → V} {i j : Int} {H : Hp} {Q : VK} : rI0 g (.int i) (.int j) H Q = Q (g i j) H := propext ⟨fun ⟨_, _, e, e', h⟩ => by cases e; cases e'; exact h, fun h => ⟨_, _, rfl, rfl, h⟩⟩
theorem ri_int {C : Int → Int → Prop} {g : Int → Int → V} {i j : Int} {H : Hp} {Q : VK} : rI C g (.int i) (.int j) H Q = (C i j ∧ Q (g i j) H) := propext ⟨fun ⟨_, _, e, e', h⟩ => by cases e; cases e'; exact h, fun h => ⟨_, _, rfl, rfl, h⟩⟩
theorem ru_int {g : Int → V} {i : Int} {H : Hp} {Q : VK} : rU g (.int i) H Q = Q (g i) H := propext ⟨fun ⟨_, e, h⟩ => by cases e; exact h, fun h => ⟨_, rfl, h⟩⟩
theorem eqv_int (i j : Int) : PyData.eqv (.int i) (.int j) = decide (i = j) := by
  rw [← Bool.beq_eq_decide_eq]
  rfl
theorem eqA_int {K : PySem.W.Frag} {i j : Int} {H : Hp} {Q : VK} : rEqA K (.int i) (.int j) H Q = Q (.bl (decide (i = j))) H := propext ⟨fun h => by
    rcases h with ⟨_, h⟩ | ⟨d, e, h1, h2, _, _, h⟩
    · rw [show decide (V.int i = V.int j) = decide (i = j) from decide_eq_decide.mpr ⟨fun e => by cases e; rfl, fun e => by rw [e]⟩] at h
      exact h
    · cases h1; cases h2
      rw [eqv_int] at h
      exact h, fun h => .inl ⟨rfl, by rw [show decide (V.int i = V.int j) = decide (i = j) from decide_eq_decide.mpr ⟨fun e => by cases e; rfl, fun e => by rw [e]⟩]; exact h⟩⟩
theorem neA_int {K : PySem.W.Frag} {i j : Int} {H : Hp} {Q : VK} : rNeA K (.int i) (.int j) H Q = Q (.bl (!decide (i = j))) H := propext ⟨fun h => by
    rcases h with ⟨_, h⟩ | ⟨d, e, h1, h2, _, _, h⟩
    · rw [show decide (V.int i = V.int j) = decide (i = j) from decide_eq_decide.mpr ⟨fun e => by cases e; rfl, fun e => by rw [e]⟩] at h
      exact h
    · cases h1; cases h2
      rw [eqv_int] at h
      exact h, fun h => .inl ⟨rfl, by rw [show decide (V.int i = V.int j) = decide (i = j) from decide_eq_decide.mpr ⟨fun e => by cases e; rfl, fun e => by rw [e]⟩]; exact h⟩⟩
theorem bl_dec (i j : Bool) : decide (V.bl i = V.bl j) = decide (i = j) := decide_eq_decide.mpr ⟨fun e => by cases e; rfl, fun e => by rw [e]⟩
theorem eqv_bl (i j : Bool) : PyData.eqv (.bool i) (.bool j) = decide (i = j) := by cases i <;> cases j <;> rfl
theorem eqA_bl {K : PySem.W.Frag} {i j : Bool} {H : Hp} {Q : VK} : rEqA K (.bl i) (.bl j) H Q = Q (.bl (decide (i = j))) H := propext ⟨fun h => by
    rcases h with ⟨_, h⟩ | ⟨d, e, h1, h2, _, _, h⟩
    · rw [bl_dec] at h
      exact h
    · cases h1; cases h2
      rw [eqv_bl] at h
      exact h, fun h => .inl ⟨rfl, by rw [bl_dec]; exact h⟩⟩
theorem neA_bl {K : PySem.W.Frag} {i j : Bool} {H : Hp} {Q : VK} : rNeA K (.bl i) (.bl j) H Q = Q (.bl (!decide (i = j))) H := propext ⟨fun h => by
    rcases h with ⟨_, h⟩ | ⟨d, e, h1, h2, _, _, h⟩
    · rw [bl_dec] at h
      exact h
    · cases h1; cases h2
      rw [eqv_bl] at h
      exact h, fun h => .inl ⟨rfl, by rw [bl_dec]; exact h⟩⟩
/-- isinstance(x, a built-in class) -/
theorem isi {K : PySem.W.Frag} {H : Hp} {x : V} {T T' : String} {b : Bool} {Q : VK} (h : TyOf K H x (.type T)) (hk : kitB T T' = some b) (q : Q (.bl b) H) : rIsi K [x, .ty T'] H Q := ⟨x, .ty T', .type T, .type T', b, rfl, .ty _, .base h, kit_ty hk, q⟩
theorem kb_bool_bool : kitB "bool" "bool" = some true := by decide +kernel
theorem kb_int_int : kitB "int" "int" = some true := by decide +kernel
theorem kb_int_bool : kitB "int" "bool" = some false := by decide +kernel
theorem kb_bool_int : kitB "bool" "int" = some true := by decide +kernel
theorem kb_tuple_tuple : kitB "tuple" "tuple" = some true := by decide +kernel
theorem kb_list_list : kitB "list" "list" = some true := by decide +kernel
theorem kb_list_tuple : kitB "list" "tuple" = some false := by decide +kernel
theorem kb_tuple_int : kitB "tuple" "int" = some false := by decide +kernel
theorem kb_list_int : kitB "list" "int" = some false := by decide +kernel
theorem kb_str_str : kitB "str" "str" = some true := by decide +kernel
theorem isi_bl {K : PySem.W.Frag} {H : Hp} {c : Bool} {Q : VK} (q : Q (.bl true) H) : rIsi K [.bl c, .ty "bool"] H Q := isi (.bl c) kb_bool_bool q
theorem isi_int {K : PySem.W.Frag} {H : Hp} {i : Int} {Q : VK} (q : Q (.bl true) H) : rIsi K [.int i, .ty "int"] H Q := isi (.int i) kb_int_int q
theorem isi_intb {K : PySem.W.Frag} {H : Hp} {i : Int} {Q : VK} (q : Q (.bl false) H) : rIsi K [.int i, .ty "bool"] H Q := isi (.int i) kb_int_bool q
theorem isi_tup {K : PySem.W.Frag} {H : Hp} {a : Addr} {xs : List V} {Q : VK} (h : H a = some (.tup xs)) (q : Q (.bl true) H) : rIsi K [.ref a, .ty "tuple"] H Q := isi (.tup h) kb_tuple_tuple q
theorem isi_tupi {K : PySem.W.Frag} {H : Hp} {a : Addr} {xs : List V} {Q : VK} (h : H a = some (.tup xs)) (q : Q (.bl false) H) : rIsi K [.ref a, .ty "int"] H Q := isi (.tup h) kb_tuple_int q
theorem isi_lst {K : PySem.W.Frag} {H : Hp} {a : Addr} {xs : List V} {Q : VK} (h : H a = some (.lst xs)) (q : Q (.bl true) H) : rIsi K [.ref a, .ty "list"] H Q := isi (.lst h) kb_list_list q
theorem isi_lstt {K : PySem.W.Frag} {H : Hp} {a : Addr} {xs : List V} {Q : VK} (h : H a = some (.lst xs)) (q : Q (.bl false) H) : rIsi K [.ref a, .ty "tuple"] H Q := isi (.lst h) kb_list_tuple q
theorem isi_lsti {K : PySem.W.Frag} {H : Hp} {a : Addr} {xs : List V} {Q : VK} (h : H a = some (.lst xs)) (q : Q (.bl false) H) : rIsi K [.ref a, .ty "int"] H Q := isi (.lst h) kb_list_int q
theorem eqA_D {K : PySem.W.Frag} {x y : V} {d e : PyData} {H : Hp} {Q : VK} (hx : Dp K H x d) (hy : Dp K H y e) (h1 : SeqAt.shaped d = true) (h2 : SeqAt.shaped e = true) (h : Q (.bl (PyData.eqv d e)) H) : rEqA K x y H Q :=
  .inr ⟨d, e, hx, hy, h1, h2, h⟩
theorem neA_D {K : PySem.W.Frag} {x y : V} {d e : PyData} {H : Hp} {Q : VK} (hx : Dp K H x d) (hy : Dp K H y e) (h1 : SeqAt.shaped d = true) (h2 : SeqAt.shaped e = true) (h : Q (.bl (!PyData.eqv d e)) H) : rNeA K x y H Q :=
  .inr ⟨d, e, hx, hy, h1, h2, h⟩
/-- an item of a tuple, of a list -/
theorem ix_t {K : PySem.W.Frag} {H : Hp} {p : Addr} {xs : List V} {i : Int} {v : V} {Q : VK} (h : SqT K H p xs) (hv : atI xs i = some v) (q : Q v H) : rIx K (.ref p) (.int i) H Q := .inr (.inl ⟨p, xs, i, v, rfl, rfl, h, hv, q⟩)
theorem ix_l {K : PySem.W.Frag} {H : Hp} {p : Addr} {xs : List V} {i : Int} {v : V} {Q : VK} (h : SqL K H p xs) (hv : atI xs i = some v) (q : Q v H) : rIx K (.ref p) (.int i) H Q := .inl ⟨p, xs, i, v, rfl, rfl, h, hv, q⟩
theorem ix_t' {K : PySem.W.Frag} {H : Hp} {p : Addr} {xs : List V} {i : Int} {v : V} {Q : VK} (h : H p = some (.tup xs)) (hv : atI xs i = some v) (q : Q v H) : rIx K (.ref p) (.int i) H Q := ix_t (.of h) hv q
theorem ix_l' {K : PySem.W.Frag} {H : Hp} {p : Addr} {xs : List V} {i : Int} {v : V} {Q : VK} (h : H p = some (.lst xs)) (hv : atI xs i = some v) (q : Q v H) : rIx K (.ref p) (.int i) H Q := ix_l (.of h) hv q

/-! ### loops: the walked thing's own part apart -/
/-- what holds between two turns, not to be opened on the way -/
def Hold (P : St → Hp → Prop) : St → Hp → Prop := P
/-- the turns of a for -/
def ForW (J : It) (g : TG) (tb : TS) (D : Ends) (σ : St) (H1 : Hp) : Prop := ∃ W : Nat → Nat → St → Hp → Prop, (∃ m, W 0 m σ H1) ∧ ∀ i m σ H, W i m σ H →
  (J.stop i H ∧ D.nx σ H) ∨ (J.go i H ∧ ∃ N : St → Hp → Prop, (∀ σ' H', N σ' H' → ∃ m', m' < m ∧ W (i + 1) m' σ' H') ∧ ∀ x H', J.yld i H x H' → g x σ H' fun σ2 H2 => tb { D with nx := N, ct := N, bk := D.nx } σ2 H2)
def ForL (K : PySem.W.Frag) (g : TG) (tb : TS) (D : Ends) (σ : St) (x : V) (H1 : Hp) : Prop := ∃ a, x = .ref a ∧ (∃ xs, SqL K H1 a xs) ∧ ForW (Itl K a) g tb D σ H1
def ForR1 (g : TG) (tb : TS) (D : Ends) (σ : St) (vs : List V) (H1 : Hp) : Prop := ∃ j : Int, vs = [.int j] ∧ -(2 ^ 62) ≤ j ∧ j < 2 ^ 62 ∧ ForW (Itr 0 j.toNat) g tb D σ H1
def ForR2 (g : TG) (tb : TS) (D : Ends) (σ : St) (vs : List V) (H1 : Hp) : Prop := ∃ i j : Int, vs = [.int i, .int j] ∧ (-(2 ^ 62) ≤ i ∧ i < 2 ^ 62 ∧ -(2 ^ 62) ≤ j ∧ j < 2 ^ 62) ∧ ForW (Itr i (j - i).toNat) g tb D σ H1
def ForR3 (g : TG) (tb : TS) (D : Ends) (σ : St) (vs : List V) (H1 : Hp) : Prop := ∃ (i j c : Int) (n : Nat), vs = [.int i, .int j, .int c] ∧ RgC i j c n ∧ ForW (Itc i c n) g tb D σ H1
def ForZ (K : PySem.W.Frag) (g : TG) (tb : TS) (D : Ends) (σ : St) (vs : List V) (H1 : Hp) : Prop := ∃ a b xs ys, vs = [.ref a, .ref b] ∧
  ((SqL K H1 a xs ∧ SqL K H1 b ys ∧ ForW (Itz K a b) g tb D σ H1) ∨ (SqT K H1 a xs ∧ SqT K H1 b ys ∧ ForW (RZ.ItzT K a b) g tb D σ H1))
section
variable {K : PySem.W.Frag} {g : TG} {tb : TS} {D : Ends} {σ : St} {H H1 : Hp} {tl : TE} {ta : TA}
theorem for_eqL : tFor (iList K tl) g tb D σ H = tl σ H (ForL K g tb D σ) := rfl
theorem for_eqR1 : tFor (iRng1 ta) g tb D σ H = ta σ H (ForR1 g tb D σ) := rfl
theorem for_eqR2 : tFor (iRng2 ta) g tb D σ H = ta σ H (ForR2 g tb D σ) := rfl
theorem for_eqR3 : tFor (iRng3 ta) g tb D σ H = ta σ H (ForR3 g tb D σ) := rfl
theorem for_eqZ : tFor (RZ.iZipA K ta) g tb D σ H = ta σ H (ForZ K g tb D σ) := rfl
theorem forL {a : Addr} {xs : List V} (hS : SqL K H1 a xs) (Pv : Nat → St → Hp → Prop) (h0 : Pv 0 σ H1) (hl : ∀ i σ H, i ≤ xs.length → Pv i σ H → SqL K H a xs)
    (hs : ∀ i x σ H, xs[i]? = some x → Pv i σ H → g x σ H fun σ2 H2 => tb { D with nx := Hold (Pv (i + 1)), ct := Hold (Pv (i + 1)), bk := D.nx } σ2 H2) (hd : ∀ σ H, Pv xs.length σ H → D.nx σ H) : ForL K g tb D σ (.ref a) H1 :=
  ⟨a, rfl, ⟨xs, hS⟩, for_list Pv h0 hl hs hd⟩
theorem forR1 {n : Nat} (Pv : Nat → St → Hp → Prop) (hn : n < 2 ^ 62) (h0 : Pv 0 σ H1)
    (hs : ∀ (i : Nat) σ H, i < n → Pv i σ H → g (.int (i : Int)) σ H fun σ2 H2 => tb { D with nx := Hold (Pv (i + 1)), ct := Hold (Pv (i + 1)), bk := D.nx } σ2 H2) (hd : ∀ σ H, Pv n σ H → D.nx σ H) : ForR1 g tb D σ [.int (n : Int)] H1 := by
  refine ⟨_, rfl, by omega, by omega, ?_⟩
  rw [Int.toNat_natCast]
  exact for_range (lo := 0) (n := n) Pv h0 (fun i σ H hi h => by rw [Int.zero_add]; exact hs i σ H hi h) hd
/-- range(lo, lo + n) -/
theorem forR2 {lo n : Nat} {hi : Int} (e : hi = ((lo + n : Nat) : Int)) (Pv : Nat → St → Hp → Prop) (hn : lo + n < 2 ^ 62) (h0 : Pv 0 σ H1)
    (hs : ∀ (i : Nat) σ H, i < n → Pv i σ H → g (.int ((lo + i : Nat) : Int)) σ H fun σ2 H2 => tb { D with nx := Hold (Pv (i + 1)), ct := Hold (Pv (i + 1)), bk := D.nx } σ2 H2) (hd : ∀ σ H, Pv n σ H → D.nx σ H) : ForR2 g tb D σ [.int (lo : Int), .int hi] H1 := by
  refine ⟨_, _, rfl, by omega, ?_⟩
  rw [show (hi - (lo : Int)).toNat = n by omega]
  exact for_range (lo := (lo : Int)) (n := n) Pv h0 (fun i σ H hi h => by rw [show (lo : Int) + (i : Int) = ((lo + i : Nat) : Int) by omega]; exact hs i σ H hi h) hd
theorem rg4 : ∀ m : Nat, m < 100 → RgC 0 (m : Int) ((4 : Nat) : Int) ((m + 3) / 4) := by
  unfold RgC
  decide +kernel
theorem rg8 : ∀ m : Nat, m < 100 → RgC 0 (m : Int) ((8 : Nat) : Int) ((m + 7) / 8) := by
  unfold RgC
  decide +kernel
theorem forR3 {n c : Nat} {j : Int} (hr : RgC 0 j (c : Int) n) (Pv : Nat → St → Hp → Prop) (h0 : Pv 0 σ H1)
    (hs : ∀ (i : Nat) σ H, i < n → Pv i σ H → g (.int ((i * c : Nat) : Int)) σ H fun σ2 H2 => tb { D with nx := Hold (Pv (i + 1)), ct := Hold (Pv (i + 1)), bk := D.nx } σ2 H2) (hd : ∀ σ H, Pv n σ H → D.nx σ H) : ForR3 g tb D σ [.int 0, .int j, .int (c : Int)] H1 := by
  refine ⟨_, _, _, n, rfl, hr, ?_⟩
  exact for_rangeC (lo := 0) (c := (c : Int)) (n := n) Pv h0 (fun i σ H hi h => by rw [show (0 : Int) + (i : Int) * (c : Int) = ((i * c : Nat) : Int) by rw [Int.zero_add, Int.natCast_mul]]; exact hs i σ H hi h) hd
/-- zip of two lists (any lengths) -/
theorem forZ {a b : Addr} {xs ys : List V} {n : Nat} (en : n = min xs.length ys.length) (hA : SqL K H1 a xs) (hB : SqL K H1 b ys) (Pv : Nat → St → Hp → Prop) (h0 : Pv 0 σ H1) (hq : ∀ i σ H, Pv i σ H → SqL K H a xs ∧ SqL K H b ys)
    (hs : ∀ (i : Nat) (x y : V) (T : Addr) (σ : St) (H H' : Hp), xs[i]? = some x → ys[i]? = some y → Pv i σ H → H T = none → Same H H' → H' T = some (.tup [x, y]) → g (.ref T) σ H' fun σ2 H2 => tb { D with nx := Hold (Pv (i + 1)), ct := Hold (Pv (i + 1)), bk := D.nx } σ2 H2) (hd : ∀ σ H, Pv n σ H → D.nx σ H) :
    ForZ K g tb D σ [.ref a, .ref b] H1 := by
  refine ⟨a, b, xs, ys, rfl, .inl ⟨hA, hB, fun i m σ H => m = n - i ∧ i ≤ n ∧ Pv i σ H, ⟨n, rfl, Nat.zero_le _, h0⟩, ?_⟩⟩
  rintro i m σ H ⟨rfl, hi, p⟩
  obtain ⟨qx, qy⟩ := hq i σ H p
  by_cases hlt : i < n
  · have h1 : i < xs.length := by omega
    have h2 : i < ys.length := by omega
    refine .inr ⟨⟨xs, ys, _, _, qx, qy, List.getElem?_eq_getElem h1, List.getElem?_eq_getElem h2⟩, Pv (i + 1), fun σ' H' p' => ⟨n - (i + 1), by omega, rfl, hlt, p'⟩, fun v H' y => ?_⟩
    obtain ⟨T, x', y', rfl, hT, rfl, f1, f2⟩ := y
    exact hs i x' y' T σ H _ (f1 xs qx) (f2 ys qy) p hT (same_new hT) upd_same
  · have e : i = n := by omega
    subst e
    exact .inl ⟨⟨xs, ys, qx, qy, by omega⟩, hd σ H p⟩
theorem forZT {a b : Addr} {xs ys : List V} {n : Nat} (en : n = min xs.length ys.length) (hA : SqT K H1 a xs) (hB : SqT K H1 b ys) (Pv : Nat → St → Hp → Prop) (h0 : Pv 0 σ H1) (hq : ∀ i σ H, Pv i σ H → SqT K H a xs ∧ SqT K H b ys)
    (hs : ∀ (i : Nat) (x y : V) (T : Addr) (σ : St) (H H' : Hp), xs[i]? = some x → ys[i]? = some y → Pv i σ H → H T = none → Same H H' → H' T = some (.tup [x, y]) → g (.ref T) σ H' fun σ2 H2 => tb { D with nx := Hold (Pv (i + 1)), ct := Hold (Pv (i + 1)), bk := D.nx } σ2 H2) (hd : ∀ σ H, Pv n σ H → D.nx σ H) :
    ForZ K g tb D σ [.ref a, .ref b] H1 := by
  refine ⟨a, b, xs, ys, rfl, .inr ⟨hA, hB, fun i m σ H => m = n - i ∧ i ≤ n ∧ Pv i σ H, ⟨n, rfl, Nat.zero_le _, h0⟩, ?_⟩⟩
  rintro i m σ H ⟨rfl, hi, p⟩
  obtain ⟨qx, qy⟩ := hq i σ H p
  by_cases hlt : i < n
  · have h1 : i < xs.length := by omega
    have h2 : i < ys.length := by omega
    refine .inr ⟨⟨xs, ys, _, _, qx, qy, List.getElem?_eq_getElem h1, List.getElem?_eq_getElem h2⟩, Pv (i + 1), fun σ' H' p' => ⟨n - (i + 1), by omega, rfl, hlt, p'⟩, fun v H' y => ?_⟩
    obtain ⟨T, x', y', rfl, hT, rfl, f1, f2⟩ := y
    exact hs i x' y' T σ H _ (f1 xs qx) (f2 ys qy) p hT (same_new hT) upd_same
  · have e : i = n := by omega
    subst e
    exact .inl ⟨⟨xs, ys, qx, qy, by omega⟩, hd σ H p⟩
end

/-! ### comprehensions -/
def LcW (J : It) (g : TG) (tt : TT) (te : TE) (vs : List Nat) (σ : St) (Q : VK) (H1 : Hp) : Prop := ∀ D, H1 D = none → ∃ W : Nat → Nat → Hp → Prop, (∃ m, W 0 m (upd H1 D (.lst []))) ∧ ∀ i m H, W i m H →
  (J.stop i H ∧ Q (.ref D) H) ∨ (J.go i H ∧ ∃ Nx : Hp → Prop, (∀ H', Nx H' → ∃ m', m' < m ∧ W (i + 1) m' H') ∧ ∀ x H', J.yld i H x H' → g x (wipe σ vs) H' fun σ2 H2 => wipe σ2 vs = wipe σ vs ∧ tt σ2 H2 fun b H3 =>
    if b = true then te σ2 H3 fun y H4 => ∃ acc, H4 D = some (.lst acc) ∧ acc.length < sizeLine ∧ Nx (upd H4 D (.lst (acc ++ [y]))) else Nx H3)
def LcL (K : PySem.W.Frag) (g : TG) (tt : TT) (te : TE) (vs : List Nat) (σ : St) (Q : VK) (x : V) (H1 : Hp) : Prop := ∃ a, x = .ref a ∧ (∃ xs, SqL K H1 a xs) ∧ LcW (Itl K a) g tt te vs σ Q H1
def LcR1 (g : TG) (tt : TT) (te : TE) (vs : List Nat) (σ : St) (Q : VK) (ws : List V) (H1 : Hp) : Prop := ∃ j : Int, ws = [.int j] ∧ -(2 ^ 62) ≤ j ∧ j < 2 ^ 62 ∧ LcW (Itr 0 j.toNat) g tt te vs σ Q H1
def LcZ (K : PySem.W.Frag) (g : TG) (tt : TT) (te : TE) (vs : List Nat) (σ : St) (Q : VK) (ws : List V) (H1 : Hp) : Prop := ∃ a b xs ys, ws = [.ref a, .ref b] ∧
  ((SqL K H1 a xs ∧ SqL K H1 b ys ∧ LcW (Itz K a b) g tt te vs σ Q H1) ∨ (SqT K H1 a xs ∧ SqT K H1 b ys ∧ LcW (RZ.ItzT K a b) g tt te vs σ Q H1))
section
variable {K : PySem.W.Frag} {g : TG} {tt : TT} {te : TE} {vs : List Nat} {σ : St} {H H1 : Hp} {tl : TE} {ta : TA} {Q : VK} {J : It}
theorem lc_eqL : tLc (iList K tl) g tt te vs σ H Q = tl σ H (LcL K g tt te vs σ Q) := rfl
theorem lc_eqR1 : tLc (iRng1 ta) g tt te vs σ H Q = ta σ H (LcR1 g tt te vs σ Q) := rfl
theorem lc_eqZ : tLc (RZ.iZipA K ta) g tt te vs σ H Q = ta σ H (LcZ K g tt te vs σ Q) := rfl
theorem fm_succ {α : Type} (F : Nat → Option α) (i : Nat) : (List.range (i + 1)).filterMap F = (List.range i).filterMap F ++ (F i).toList := by
  rw [List.range_succ, List.filterMap_append]
  cases h : F i with
  | none => simp [h]
  | some y => simp [h]
theorem fm_len {α : Type} (F : Nat → Option α) (i : Nat) : ((List.range i).filterMap F).length ≤ i :=
  Nat.le_trans (List.length_filterMap_le _ _) (by rw [List.length_range]; exact Nat.le_refl _)
/-- n items; item i gives F i, told by itself (numbers, things that stood), or is left out; what is made on the way stays -/
theorem lc_pure {n : Nat} (F : Nat → Option V) (hn : n < sizeLine) (hstop : ∀ H, Same H1 H → J.stop n H) (hgo : ∀ i H, i < n → Same H1 H → J.go i H)
    (turn : ∀ (i : Nat) (x : V) (H H' : Hp), i < n → Same H1 H → J.yld i H x H' → ∀ R : V → Hp → Prop, (∀ y H4, F i = some y → Same H H4 → R y H4) → ∀ R2 : Hp → Prop, (∀ H3, F i = none → Same H H3 → R2 H3) →
      g x (wipe σ vs) H' fun σ2 H2 => wipe σ2 vs = wipe σ vs ∧ tt σ2 H2 fun b H3 => if b = true then te σ2 H3 R else R2 H3)
    (q : ∀ p H', H1 p = none → Same H1 H' → H' p = some (.lst ((List.range n).filterMap F)) → Q (.ref p) H') : LcW J g tt te vs σ Q H1 := by
  intro D hD
  refine ⟨fun i m H => m = n - i ∧ i ≤ n ∧ Same H1 H ∧ H D = some (.lst ((List.range i).filterMap F)), ⟨n, rfl, Nat.zero_le _, same_new hD, upd_same⟩, ?_⟩
  rintro i m H ⟨rfl, hi, s, hd⟩
  by_cases hlt : i < n
  · refine .inr ⟨hgo i H hlt s, fun H' => Same H1 H' ∧ H' D = some (.lst ((List.range (i + 1)).filterMap F)), fun H' h' => ⟨n - (i + 1), by omega, rfl, hlt, h'.1, h'.2⟩, fun x H' hy => ?_⟩
    refine turn i x H H' hlt s hy _ (fun y H4 e s4 => ?_) _ (fun H3 e s3 => ?_)
    · refine ⟨_, s4 _ _ hd, Nat.lt_of_le_of_lt (fm_len F i) (by omega), same_upd (s.trans s4) hD, ?_⟩
      rw [upd_same, fm_succ, e]
      rfl
    · refine ⟨s.trans s3, ?_⟩
      rw [fm_succ, e, s3 _ _ hd]
      simp
  · have e : i = n := by omega
    subst e
    exact .inl ⟨hstop H s, q D H hD s hd⟩
/-- n items, each gives a new object: its content by Ob -/
theorem lc_new {n : Nat} (Ob : Nat → HO → Prop) (hn : n < sizeLine) (hstop : ∀ H, Same H1 H → J.stop n H) (hgo : ∀ i H, i < n → Same H1 H → J.go i H)
    (turn : ∀ (i : Nat) (x : V) (H H' : Hp), i < n → Same H1 H → J.yld i H x H' → ∀ R : V → Hp → Prop, (∀ p o H4, H p = none → H4 p = some o → Ob i o → Same H H4 → R (.ref p) H4) → ∀ R2 : Hp → Prop,
      g x (wipe σ vs) H' fun σ2 H2 => wipe σ2 vs = wipe σ vs ∧ tt σ2 H2 fun b H3 => if b = true then te σ2 H3 R else R2 H3)
    (q : ∀ p H' (as : List Addr), H1 p = none → Same H1 H' → H' p = some (.lst (as.map V.ref)) → as.length = n → as.Nodup → p ∉ as → (∀ i a, as[i]? = some a → H1 a = none ∧ ∃ o, H' a = some o ∧ Ob i o) → Q (.ref p) H') : LcW J g tt te vs σ Q H1 := by
  intro D hD
  refine ⟨fun i m H => m = n - i ∧ i ≤ n ∧ Same H1 H ∧ ∃ as : List Addr, H D = some (.lst (as.map V.ref)) ∧ as.length = i ∧ as.Nodup ∧ D ∉ as ∧ ∀ j a, as[j]? = some a → H1 a = none ∧ ∃ o, H a = some o ∧ Ob j o,
    ⟨n, rfl, Nat.zero_le _, same_new hD, [], upd_same, rfl, List.nodup_nil, by simp, fun j a e => by simp at e⟩, ?_⟩
  rintro i m H ⟨rfl, hi, s, as, hd, hl, hnd, hna, hob⟩
  by_cases hlt : i < n
  · refine .inr ⟨hgo i H hlt s, fun H' => Same H1 H' ∧ ∃ as : List Addr, H' D = some (.lst (as.map V.ref)) ∧ as.length = i + 1 ∧ as.Nodup ∧ D ∉ as ∧ ∀ j a, as[j]? = some a → H1 a = none ∧ ∃ o, H' a = some o ∧ Ob j o,
      fun H' h' => ⟨n - (i + 1), by omega, rfl, hlt, h'.1, h'.2⟩, fun x H' hy => ?_⟩
    refine turn i x H H' hlt s hy _ (fun p o H4 hp ho hb s4 => ?_) _
    have pD : p ≠ D := (ne_of_none hd hp).symm
    have pas : p ∉ as := fun hm => by
      obtain ⟨j, hj⟩ := List.getElem?_of_mem hm
      obtain ⟨_, o', h', _⟩ := hob j p hj
      rw [hp] at h'
      cases h'
    refine ⟨_, s4 _ _ hd, by rw [List.length_map]; omega, same_upd (s.trans s4) hD, as ++ [p], by rw [upd_same, List.map_append]; rfl, by simp [hl], ?_, by simp [hna, pD.symm], fun j a e => ?_⟩
    · rw [List.nodup_append]
      exact ⟨hnd, by simp, fun x hx y hy => by simp at hy; rw [hy]; exact fun e => pas (e ▸ hx)⟩
    · by_cases hj : j < as.length
      · rw [List.getElem?_append_left hj] at e
        obtain ⟨h1, o', h2, h3⟩ := hob j a e
        refine ⟨h1, o', ?_, h3⟩
        have ne : a ≠ D := fun e' => hna (by rw [← e']; exact List.mem_of_getElem? e)
        rw [upd_ne ne]
        exact s4 _ _ h2
      · rw [List.getElem?_append_right (by omega)] at e
        have ej : j = i := by
          have := (List.getElem?_eq_some_iff.mp e).1
          simp at this
          omega
        subst ej
        rw [hl, Nat.sub_self] at e
        have ea : p = a := Option.some.inj e
        subst ea
        exact ⟨s.free hp, o, by rw [upd_ne pD]; exact ho, hb⟩
  · have e : i = n := by omega
    subst e
    exact .inl ⟨hstop H s, q D H as hD s hd hl hnd hna hob⟩
/-- over a list -/
theorem lcL_of {a : Addr} {xs : List V} (hS : SqL K H1 a xs) (h : (∀ H, Same H1 H → (Itl K a).stop xs.length H) → (∀ i H, i < xs.length → Same H1 H → (Itl K a).go i H) →
      (∀ i x H H', Same H1 H → (Itl K a).yld i H x H' → H' = H ∧ xs[i]? = some x) → LcW (Itl K a) g tt te vs σ Q H1) : LcL K g tt te vs σ Q (.ref a) H1 :=
  ⟨a, rfl, ⟨xs, hS⟩, h (fun H s => ⟨xs, s.seq hS, Nat.le_refl _⟩) (fun i H hi s => ⟨xs, _, s.seq hS, List.getElem?_eq_getElem hi⟩) fun i x H H' s y => ⟨y.1, y.2 xs (s.seq hS)⟩⟩
theorem lcL {a : Addr} {xs : List V} (hS : SqL K H1 a xs) (F : Nat → Option V) (hn : xs.length ≤ 1000)
    (turn : ∀ (i : Nat) (x : V) (H : Hp), xs[i]? = some x → Same H1 H → ∀ R : V → Hp → Prop, (∀ y H4, F i = some y → Same H H4 → R y H4) → ∀ R2 : Hp → Prop, (∀ H3, F i = none → Same H H3 → R2 H3) →
      g x (wipe σ vs) H fun σ2 H2 => wipe σ2 vs = wipe σ vs ∧ tt σ2 H2 fun b H3 => if b = true then te σ2 H3 R else R2 H3)
    (q : ∀ p H', H1 p = none → Same H1 H' → H' p = some (.lst ((List.range xs.length).filterMap F)) → Q (.ref p) H') : LcL K g tt te vs σ Q (.ref a) H1 :=
  lcL_of hS fun h1 h2 h3 => lc_pure F (Nat.lt_of_le_of_lt hn (by decide)) h1 h2 (fun i x H H' hi s y R hR R2 hR2 => by
    obtain ⟨rfl, e⟩ := h3 i x H H' s y
    exact turn i x _ e s R hR R2 hR2) q
theorem lcLn {a : Addr} {xs : List V} (hS : SqL K H1 a xs) (Ob : Nat → HO → Prop) (hn : xs.length ≤ 1000)
    (turn : ∀ (i : Nat) (x : V) (H : Hp), xs[i]? = some x → Same H1 H → ∀ R : V → Hp → Prop, (∀ p o H4, H p = none → H4 p = some o → Ob i o → Same H H4 → R (.ref p) H4) → ∀ R2 : Hp → Prop,
      g x (wipe σ vs) H fun σ2 H2 => wipe σ2 vs = wipe σ vs ∧ tt σ2 H2 fun b H3 => if b = true then te σ2 H3 R else R2 H3)
    (q : ∀ p H' (as : List Addr), H1 p = none → Same H1 H' → H' p = some (.lst (as.map V.ref)) → as.length = xs.length → as.Nodup → p ∉ as → (∀ i a, as[i]? = some a → H1 a = none ∧ ∃ o, H' a = some o ∧ Ob i o) → Q (.ref p) H') : LcL K g tt te vs σ Q (.ref a) H1 :=
  lcL_of hS fun h1 h2 h3 => lc_new Ob (Nat.lt_of_le_of_lt hn (by decide)) h1 h2 (fun i x H H' hi s y R hR R2 => by
    obtain ⟨rfl, e⟩ := h3 i x H H' s y
    exact turn i x _ e s R hR R2) q
theorem fm_map {α : Type} (f : V → α) (xs : List V) : (List.range xs.length).filterMap (fun i => (xs[i]?).map f) = xs.map f := by
  apply List.ext_getElem?
  intro i
  have : ∀ n, n ≤ xs.length → (List.range n).filterMap (fun i => (xs[i]?).map f) = (xs.take n).map f := by
    intro n
    induction n with
    | zero => intro _; rfl
    | succ n ih =>
      intro h
      rw [fm_succ, ih (by omega), List.take_add_one, List.map_append]
      cases h : xs[n]? <;> rfl
  rw [this _ (Nat.le_refl _), List.take_length]
/-- [f x for x in xs], nothing made -/
theorem lcMap {a : Addr} {xs : List V} (hS : SqL K H1 a xs) (f : V → V)
    (turn : ∀ (x : V) (H : Hp), x ∈ xs → Same H1 H → ∀ R : V → Hp → Prop, (∀ H4, Same H H4 → R (f x) H4) → ∀ R2 : Hp → Prop,
      g x (wipe σ vs) H fun σ2 H2 => wipe σ2 vs = wipe σ vs ∧ tt σ2 H2 fun b H3 => if b = true then te σ2 H3 R else R2 H3)
    (q : ∀ p H', H1 p = none → Same H1 H' → H' p = some (.lst (xs.map f)) → Q (.ref p) H') (hn : xs.length ≤ 1000 := by simp) : LcL K g tt te vs σ Q (.ref a) H1 :=
  lcL hS (fun i => (xs[i]?).map f) hn (fun i x H hx s R hR R2 hR2 => turn x H (List.mem_of_getElem? hx) s R (fun H4 s4 => hR _ H4 (by rw [hx]; rfl) s4) R2) fun p H' hp s h => q p H' hp s (by rw [fm_map] at h; exact h)
/-- [x for x in xs if c x], nothing made -/
theorem fm_filter (c : V → Bool) (xs : List V) : (List.range xs.length).filterMap (fun i => (xs[i]?).bind fun x => if c x then some x else none) = xs.filter c := by
  have : ∀ n, n ≤ xs.length → (List.range n).filterMap (fun i => (xs[i]?).bind fun x => if c x then some x else none) = (xs.take n).filter c := by
    intro n
    induction n with
    | zero => intro _; rfl
    | succ n ih =>
      intro h
      rw [fm_succ, ih (by omega), List.take_add_one, List.filter_append]
      cases h : xs[n]? with
      | none => rfl
      | some x =>
        cases h2 : c x <;> simp [h2]
  rw [this _ (Nat.le_refl _), List.take_length]
theorem lcFilter {a : Addr} {xs : List V} (hS : SqL K H1 a xs) (c : V → Bool)
    (turn : ∀ (x : V) (H : Hp), x ∈ xs → Same H1 H → ∀ R : V → Hp → Prop, (∀ H4, c x = true → Same H H4 → R x H4) → ∀ R2 : Hp → Prop, (∀ H4, c x = false → Same H H4 → R2 H4) →
      g x (wipe σ vs) H fun σ2 H2 => wipe σ2 vs = wipe σ vs ∧ tt σ2 H2 fun b H3 => if b = true then te σ2 H3 R else R2 H3)
    (q : ∀ p H', H1 p = none → Same H1 H' → H' p = some (.lst (xs.filter c)) → Q (.ref p) H') (hn : xs.length ≤ 1000 := by simp) : LcL K g tt te vs σ Q (.ref a) H1 :=
  lcL hS (fun i => (xs[i]?).bind fun x => if c x then some x else none) hn (fun i x H hx s R hR R2 hR2 => turn x H (List.mem_of_getElem? hx) s R
    (fun H4 hc s4 => hR _ H4 (by rw [hx]; show (if c x then some x else none) = some x; rw [hc]; rfl) s4) R2
    (fun H4 hc s4 => hR2 H4 (by rw [hx]; show (if c x then some x else none) = none; rw [hc]; rfl) s4)) fun p H' hp s h => q p H' hp s (by rw [fm_filter] at h; exact h)
/-- over range(n) -/
theorem lcR1 {n : Nat} (F : Nat → Option V) (hn : n < 1000000)
    (turn : ∀ (i : Nat) (H : Hp), i < n → Same H1 H → ∀ R : V → Hp → Prop, (∀ y H4, F i = some y → Same H H4 → R y H4) → ∀ R2 : Hp → Prop, (∀ H3, F i = none → Same H H3 → R2 H3) →
      g (.int (i : Int)) (wipe σ vs) H fun σ2 H2 => wipe σ2 vs = wipe σ vs ∧ tt σ2 H2 fun b H3 => if b = true then te σ2 H3 R else R2 H3)
    (q : ∀ p H', H1 p = none → Same H1 H' → H' p = some (.lst ((List.range n).filterMap F)) → Q (.ref p) H') : LcR1 g tt te vs σ Q [.int (n : Int)] H1 := by
  refine ⟨_, rfl, by omega, by omega, ?_⟩
  rw [Int.toNat_natCast]
  exact lc_pure F (Nat.lt_of_lt_of_le hn (by decide)) (fun H s => Nat.le_refl n) (fun i H hi s => hi) (fun i x H H' hi s y R hR R2 hR2 => by
    obtain ⟨rfl, rfl⟩ := y
    rw [Int.zero_add]
    exact turn i _ hi s R hR R2 hR2) q
theorem lcR1n {n : Nat} (Ob : Nat → HO → Prop) (hn : n < 1000000)
    (turn : ∀ (i : Nat) (H : Hp), i < n → Same H1 H → ∀ R : V → Hp → Prop, (∀ p o H4, H p = none → H4 p = some o → Ob i o → Same H H4 → R (.ref p) H4) → ∀ R2 : Hp → Prop,
      g (.int (i : Int)) (wipe σ vs) H fun σ2 H2 => wipe σ2 vs = wipe σ vs ∧ tt σ2 H2 fun b H3 => if b = true then te σ2 H3 R else R2 H3)
    (q : ∀ p H' (as : List Addr), H1 p = none → Same H1 H' → H' p = some (.lst (as.map V.ref)) → as.length = n → as.Nodup → p ∉ as → (∀ i a, as[i]? = some a → H1 a = none ∧ ∃ o, H' a = some o ∧ Ob i o) → Q (.ref p) H') : LcR1 g tt te vs σ Q [.int (n : Int)] H1 := by
  refine ⟨_, rfl, by omega, by omega, ?_⟩
  rw [Int.toNat_natCast]
  exact lc_new Ob (Nat.lt_of_lt_of_le hn (by decide)) (fun H s => Nat.le_refl n) (fun i H hi s => hi) (fun i x H H' hi s y R hR R2 => by
    obtain ⟨rfl, rfl⟩ := y
    rw [Int.zero_add]
    exact turn i _ hi s R hR R2) q
end

/-! ### new lists and tuples, by what follows -/
def LstQ (Q : VK) (xs : List V) (H : Hp) : Prop := xs.length ≤ sizeLine ∧ ∀ p, H p = none → Q (.ref p) (upd H p (.lst xs))
def TupQ (Q : VK) (xs : List V) (H : Hp) : Prop := xs.length ≤ sizeLine ∧ ∀ p, H p = none → Q (.ref p) (upd H p (.tup xs))
section
variable {K : PySem.W.Frag} {σ : St} {H : Hp} {ta : TA} {Q : VK} {xs ys : List V} {a b : Addr}
theorem lst_eq : tLst ta σ H Q = ta σ H (LstQ Q) := rfl
theorem tup_eq : tTup ta σ H Q = ta σ H (TupQ Q) := rfl
theorem sz1000 {n : Nat} (h : n ≤ 1000) : n ≤ sizeLine := Nat.le_trans h (by decide)
theorem lstQ (h : ∀ p H1, H p = none → Same H H1 → H1 p = some (.lst xs) → Q (.ref p) H1) (hl : xs.length ≤ 1000 := by simp) : LstQ Q xs H :=
  ⟨sz1000 hl, fun p hp => h p _ hp (same_new hp) upd_same⟩
theorem tupQ (h : ∀ p H1, H p = none → Same H H1 → H1 p = some (.tup xs) → Q (.ref p) H1) (hl : xs.length ≤ 1000 := by simp) : TupQ Q xs H :=
  ⟨sz1000 hl, fun p hp => h p _ hp (same_new hp) upd_same⟩
theorem len_l (h : SqL K H a xs) (q : Q (.int xs.length) H) : rLen K [.ref a] H Q := ⟨a, xs, rfl, .inl h, q⟩
theorem len_l' (h : H a = some (.lst xs)) (q : Q (.int xs.length) H) : rLen K [.ref a] H Q := ⟨a, xs, rfl, .inl (.of h), q⟩
theorem len_t' (h : H a = some (.tup xs)) (q : Q (.int xs.length) H) : rLen K [.ref a] H Q := ⟨a, xs, rfl, .inr (.of h), q⟩
theorem listOf (h : SqL K H a xs) (q : ∀ p H1, H p = none → Same H H1 → H1 p = some (.lst xs) → Q (.ref p) H1) : rListOf K [.ref a] H Q :=
  ⟨a, xs, rfl, .inl h, fun p hp => q p _ hp (same_new hp) upd_same⟩
theorem listOfT (h : SqT K H a xs) (q : ∀ p H1, H p = none → Same H H1 → H1 p = some (.lst xs) → Q (.ref p) H1) : rListOf K [.ref a] H Q :=
  ⟨a, xs, rfl, .inr h, fun p hp => q p _ hp (same_new hp) upd_same⟩
theorem max2 {i j : Int} (q : Q (.int (if j > i then j else i)) H) : rMax2 [.int i, .int j] H Q := ⟨i, j, rfl, q⟩
/-- xs + ys -/
theorem cat_l (h : H a = some (.lst xs)) (h' : H b = some (.lst ys)) (hl : xs.length + ys.length ≤ 1000) (q : ∀ p H1, H p = none → Same H H1 → H1 p = some (.lst (xs ++ ys)) → Q (.ref p) H1) : rPlus (.ref a) (.ref b) H Q :=
  .inr ⟨a, b, xs, ys, rfl, rfl, h, h', sz1000 hl, fun p hp => q p _ hp (same_new hp) upd_same⟩
/-- xs[lo:hi] -/
theorem sl_l {lo hi : Option Int} (h : SqL K H a xs) (q : ∀ p H1, H p = none → Same H H1 → H1 p = some (.lst (cutV xs lo hi)) → Q (.ref p) H1) : rSlA K (.ref a) lo hi H Q :=
  .inl ⟨a, xs, rfl, h, fun p hp => q p _ hp (same_new hp) upd_same⟩
/-- xs.append(y), pop(), pop(i), insert, extend on a list that H0 does not know -/
theorem append_r {H0 : Hp} {y : V} (s : Same H0 H) (h0 : H0 a = none) (h : H a = some (.lst xs)) (hl : xs.length ≤ 1000) (q : ∀ H1, Same H0 H1 → H1 a = some (.lst (xs ++ [y])) → (∀ b, b ≠ a → H1 b = H b) → Q .non H1) :
    rAppend (.ref a) [y] H Q := ⟨a, xs, y, rfl, rfl, h, Nat.lt_of_le_of_lt hl (by decide), q _ (same_upd s h0) upd_same fun _ n => upd_ne n⟩
theorem ty_l (h : H a = some (.lst xs)) : tyV K "list" (.ref a) H := .inl ⟨rfl, _, .of h⟩
end
section
variable {K : PySem.W.Frag} {H : Hp} {a : Addr} {xs : List V} {Q : VK}
theorem pop_r {H0 : Hp} {y : V} (s : Same H0 H) (h0 : H0 a = none) (h : H a = some (.lst (xs ++ [y]))) (q : ∀ H1, Same H0 H1 → H1 a = some (.lst xs) → (∀ b, b ≠ a → H1 b = H b) → Q y H1) : rPop (.ref a) [] H Q := by
  refine ⟨a, xs ++ [y], y, rfl, rfl, h, by simp, ?_⟩
  rw [List.dropLast_concat]
  exact q _ (same_upd s h0) upd_same fun _ n => upd_ne n
theorem popAt_r {H0 : Hp} {y : V} {i : Nat} (s : Same H0 H) (h0 : H0 a = none) (h : H a = some (.lst xs)) (hi : xs[i]? = some y) (hb : i < 1000000) (q : ∀ H1, Same H0 H1 → H1 a = some (.lst (xs.eraseIdx i)) → (∀ b, b ≠ a → H1 b = H b) → Q y H1) : rPopAt (.ref a) [.int (i : Int)] H Q := by
  refine ⟨a, xs, (i : Int), i, y, rfl, rfl, h, by omega, by omega, ?_, hi, q _ (same_upd s h0) upd_same fun _ n => upd_ne n⟩
  have hl := (List.getElem?_eq_some_iff.mp hi).1
  exact (ixN_seq (n := xs.length) (i := (i : Int)) (j := i) (by unfold ixN; rw [if_pos (by omega), if_pos (by omega)]; rfl)).1
theorem insert_r {H0 : Hp} {y : V} {i : Nat} (s : Same H0 H) (h0 : H0 a = none) (h : H a = some (.lst xs)) (hl : xs.length ≤ 1000) (hb : i < 1000000) (q : ∀ H1, Same H0 H1 → H1 a = some (.lst (xs.take i ++ [y] ++ xs.drop i)) → (∀ b, b ≠ a → H1 b = H b) → Q .non H1) : rInsert (.ref a) [.int (i : Int), y] H Q :=
  ⟨a, xs, (i : Int), y, rfl, rfl, h, Nat.lt_of_le_of_lt hl (by decide), by omega, by omega, q _ (same_upd s h0) upd_same fun _ n => upd_ne n⟩
theorem extend_r {H0 : Hp} {b : Addr} {ys : List V} (s : Same H0 H) (h0 : H0 a = none) (h : H a = some (.lst xs)) (h' : H b = some (.lst ys)) (hl : xs.length + ys.length ≤ 100000) (q : ∀ H1, Same H0 H1 → H1 a = some (.lst (xs ++ ys)) → (∀ b, b ≠ a → H1 b = H b) → Q .non H1) : rExtend (.ref a) [.ref b] H Q :=
  ⟨a, b, xs, ys, rfl, rfl, h, h', Nat.le_trans hl (by decide), q _ (same_upd s h0) upd_same fun _ n => upd_ne n⟩
/-- xs[i] = v -/
theorem set_r {H0 : Hp} {v : V} {i : Nat} {Q : Hp → Prop} (s : Same H0 H) (h0 : H0 a = none) (h : H a = some (.lst xs)) (hi : i < xs.length) (q : ∀ H1, Same H0 H1 → H1 a = some (.lst (xs.set i v)) → (∀ b, b ≠ a → H1 b = H b) → Q H1) : rSetL (.ref a) (.int (i : Int)) v H Q :=
  ⟨a, xs, (i : Int), i, rfl, rfl, h, by unfold ixN; rw [if_pos (by omega), if_pos (by omega)]; rfl, q _ (same_upd s h0) upd_same fun _ n => upd_ne n⟩
end

/-! ### a statement and the rest, with a word between -/
def tCut (t u : TS) : TS := fun D σ H => ∃ R : St → Hp → Prop, t { D with nx := R } σ H ∧ ∀ σ' H', R σ' H' → u D σ' H'
theorem pss_cutR {X : Cx} {st : Stmt} {rest : List Stmt} {t u : TS} (h1 : PS X st t) (h2 : PSs X rest u) : PSs X (st :: rest) (tCut t u) := by
  refine ⟨fun pins s σ H D I h => ?_⟩
  obtain ⟨R, hr, k⟩ := h
  refine wpAny_execs_cons (thn (h1.run pins s σ H { D with nx := R } I hr) fun f s1 q => ?_)
  cases f with
  | next =>
    obtain ⟨σ', H', I', q⟩ := q
    exact h2.run pins s1 σ' H' D I' (k σ' H' q)
  | ret v => exact q
  | brk => exact q
  | cont => exact q
theorem cut {t u : TS} {D : Ends} {σ : St} {H : Hp} (R : St → Hp → Prop) (h1 : t { D with nx := Hold R } σ H) (h2 : ∀ σ' H', R σ' H' → u D σ' H') : tCut t u D σ H := ⟨R, h1, h2⟩

/-! ### a, b = a tuple, a list -/
section
variable {K : PySem.W.Frag} {H : Hp} {a : Addr} {x y z : V} {g1 g2 g3 : TG} {σ : St} {Q : St → Hp → Prop}
theorem gtup2 (h : H a = some (.tup [x, y])) (q : g1 x σ H fun σ' H' => g2 y σ' H' Q) : gTup K 2 (gCons g1 (gCons g2 gNil)) (.ref a) σ H Q := by
  refine ⟨a, _, rfl, .of h, rfl, ?_⟩
  refine ⟨x, [y], rfl, ?_⟩
  have e : ∀ σ' H', g2 y σ' H' Q = gCons g2 gNil [y] σ' H' Q := fun σ' H' => propext ⟨fun h => ⟨y, [], rfl, by
    have : (fun σ' H' => gNil [] σ' H' Q) = Q := by funext σ H; exact propext ⟨fun h => h.2, fun h => ⟨rfl, h⟩⟩
    rw [this]; exact h⟩, fun ⟨v, r, e, h⟩ => by
    cases e
    have : (fun σ' H' => gNil [] σ' H' Q) = Q := by funext σ H; exact propext ⟨fun h => h.2, fun h => ⟨rfl, h⟩⟩
    rw [this] at h; exact h⟩
  have e2 : (fun σ' H' => g2 y σ' H' Q) = fun σ' H' => gCons g2 gNil [y] σ' H' Q := by funext σ' H'; exact e σ' H'
  rw [e2] at q
  exact q
theorem glst2 (h : H a = some (.lst [x, y])) (q : g1 x σ H fun σ' H' => g2 y σ' H' Q) : gLst K 2 (gCons g1 (gCons g2 gNil)) (.ref a) σ H Q := by
  refine ⟨a, _, rfl, .of h, rfl, ?_⟩
  refine ⟨x, [y], rfl, ?_⟩
  have e : ∀ σ' H', g2 y σ' H' Q = gCons g2 gNil [y] σ' H' Q := fun σ' H' => propext ⟨fun h => ⟨y, [], rfl, by
    have : (fun σ' H' => gNil [] σ' H' Q) = Q := by funext σ H; exact propext ⟨fun h => h.2, fun h => ⟨rfl, h⟩⟩
    rw [this]; exact h⟩, fun ⟨v, r, e, h⟩ => by
    cases e
    have : (fun σ' H' => gNil [] σ' H' Q) = Q := by funext σ H; exact propext ⟨fun h => h.2, fun h => ⟨rfl, h⟩⟩
    rw [this] at h; exact h⟩
  have e2 : (fun σ' H' => g2 y σ' H' Q) = fun σ' H' => gCons g2 gNil [y] σ' H' Q := by funext σ' H'; exact e σ' H'
  rw [e2] at q
  exact q
/-- three names -/
theorem gtup3 {i j k : Nat} (h : H a = some (.tup [x, y, z])) (q : Q (((σ.set i (some x)).set j (some y)).set k (some z)) H) : gTup K 3 (gCons (gName i) (gCons (gName j) (gCons (gName k) gNil))) (.ref a) σ H Q :=
  ⟨a, _, rfl, .of h, rfl, x, [y, z], rfl, y, [z], rfl, z, [], rfl, rfl, q⟩
end
end Pb

open PySem PySem.Spec L2
/-! the readings opened: «rd»; items of known tuples and lists: «go» -/
local macro_rules | `(tactic| walk_at "rd") => `(tactic| simp (config := { failIfUnchanged := false }) only [tSeq, tAsg, tDrop, tRet, tRetN, tIfS, tNext, tTest, tB, tNot, tAnd, tOr, tAndV, tOrV, tNotV, tOp, tUn, tC, tVar, tNil, tCons, tCB, tCall, tMeth, gName, gSub, tBM, tBM0, Pb.lst_eq, Pb.tup_eq, tSl, tPart, tNoPart, tChain, tIf, Pb.for_eqL, Pb.for_eqR1, Pb.for_eqR2, Pb.for_eqR3, Pb.for_eqZ, tYes, Pb.lc_eqL, Pb.lc_eqR1, Pb.lc_eqZ, wipe, Pb.band_nat, Pb.bor_nat, eq_self, ite_true, if_true, Int.reduceToNat, Int.reducePow, Int.reduceLT, Int.reduceSub, Int.reduceAdd, Int.reduceMul, Int.reduceNeg, Pb.cd_2, Pb.cd_3, Pb.cd_4, Pb.cd_6, Pb.cd_7, Pb.cd_8, Pb.cd_9, Pb.cd_10, Pb.cd_24, Pb.cd_36, Pb.cd_48, Pb.cd_56, Pb.cd_60, Pb.cd_61, Pb.cd_180, Pb.cd_183, Pb.cd_540, Pb.cd_3600, Pb.cd_1152921504606846976, Pb.cm_2, Pb.cn_2, Pb.cm_3, Pb.cn_3, Pb.cm_175, Pb.cn_175, Pb.cm_48271, Pb.cn_48271, Pb.cm_2147483647, Pb.cn_2147483647, Pb.cp_2_60, Pb.cp_2_61, Pb.cp_10_60, Pb.cp_10_59, Pb.cp_10_50, Pb.cp_10_30, Pb.cp_10_7, Pb.plus_int, Pb.ri0_int, Pb.ri_int, Pb.ru_int, Pb.eqA_int, Pb.neA_int, Pb.eqA_bl, Pb.neA_bl,
  L2.start, List.map_cons, List.map_nil, List.length_cons, List.length_nil, List.replicate, List.cons_append, List.nil_append, List.set_cons_zero, List.set_cons_succ, List.getElem?_cons_zero, List.getElem?_cons_succ, Nat.reduceAdd, Nat.reduceSub, Option.some.injEq, V.int.injEq, V.ref.injEq, V.bl.injEq, V.str.injEq, V.ty.injEq, List.cons.injEq, and_true, true_and, reduceCtorEq, false_and, and_false, false_or, or_false, exists_eq_left', exists_eq_left, exists_false])
local macro_rules | `(tactic| walk_at "go") => `(tactic| (walk_at "rd"; repeat (first | refine Pb.ix_t' (by assumption) (by rfl) ?_ | refine Pb.ix_l' (by assumption) (by rfl) ?_ | refine Pb.ix_l (by assumption) (by rfl) ?_ | refine Pb.len_l' (by assumption) ?_ | refine Pb.gtup2 (by assumption) ?_ | refine Pb.glst2 (by assumption) ?_ | refine Pb.gtup3 (by assumption) ?_ | refine Pb.isi_bl ?_ | refine Pb.isi_int ?_ | refine Pb.isi_intb ?_ | refine Pb.isi_tup (by assumption) ?_ | refine Pb.isi_lst (by assumption) ?_); walk_at "rd"))
namespace Pb
/-! ### deeds -/
/-- a deed: its name, the boxes looked at, the boxes changed -/
structure Dd where
  n : Int
  l : Nat
  c : Nat
  deriving DecidableEq
abbrev Dd.vs (d : Dd) : List V := [.int d.n, .int (d.l : Int), .int (d.c : Int)]
/-- at a stands the tuple of the deed d -/
abbrev TD (H : Hp) (a : Addr) (d : Dd) : Prop := H a = some (.tup [.int d.n, .int (d.l : Int), .int (d.c : Int)])
def clash (d e : Dd) : Bool := (d.c &&& (e.l ||| e.c) != 0) || (e.c &&& d.l != 0)
theorem clash_bit {d e : Dd} : clash d e = true ↔ ∃ j : Nat, (d.c.testBit j = true ∧ (e.l.testBit j = true ∨ e.c.testBit j = true)) ∨ (e.c.testBit j = true ∧ d.l.testBit j = true) := by
  have key : ∀ x y : Nat, (x &&& y != 0) = true ↔ ∃ j, x.testBit j = true ∧ y.testBit j = true := by
    intro x y
    rw [bne_iff_ne]
    constructor
    · intro h
      obtain ⟨j, hj⟩ := Nat.exists_testBit_of_ne_zero h
      rw [Nat.testBit_and, Bool.and_eq_true] at hj
      exact ⟨j, hj⟩
    · rintro ⟨j, h1, h2⟩ h
      have e : (x &&& y).testBit j = true := by rw [Nat.testBit_and, h1, h2]; rfl
      rw [h, Nat.zero_testBit] at e
      cases e
  unfold clash
  rw [Bool.or_eq_true, key, key]
  constructor
  · rintro (⟨j, h1, h2⟩ | ⟨j, h⟩)
    · rw [Nat.testBit_or, Bool.or_eq_true] at h2
      exact ⟨j, .inl ⟨h1, h2⟩⟩
    · exact ⟨j, .inr h⟩
  · rintro ⟨j, ⟨h1, h2⟩ | h⟩
    · refine .inl ⟨j, h1, ?_⟩
      rw [Nat.testBit_or, Bool.or_eq_true]
      exact h2
    · exact .inr ⟨j, h⟩
theorem clash_comm (d e : Dd) : clash d e = clash e d := by
  have h : clash d e = true ↔ clash e d = true := by
    rw [clash_bit, clash_bit]
    constructor <;> (rintro ⟨j, h⟩; refine ⟨j, ?_⟩; rcases h with ⟨h1, h2 | h2⟩ | ⟨h1, h2⟩)
    · exact .inr ⟨h1, h2⟩
    · exact .inl ⟨h2, .inr h1⟩
    · exact .inl ⟨h1, .inl h2⟩
    · exact .inr ⟨h1, h2⟩
    · exact .inl ⟨h2, .inr h1⟩
    · exact .inl ⟨h1, .inl h2⟩
  cases h1 : clash d e <;> cases h2 : clash e d <;> simp_all

def sp_clash (K : PySem.W.Frag) : Sp := fun vs H Q _ => ∃ a b d e, vs = [.ref a, .ref b] ∧ TD H a d ∧ TD H b e ∧ Q (.bl (clash d e)) H
theorem len_clash {K vs H Q E} (h : sp_clash K vs H Q E) : vs.length = 2 := by
  obtain ⟨a, b, d, e, rfl, _⟩ := h
  rfl
abbrev n_clash : List Str := ["one", "other"]
def t_clash (K : PySem.W.Frag) : TS :=
  (tSeq (tIfS (tTest (tOp (rNeA K) (tOp rAnd (tOp (rIx K) (tVar 0) (tC (.int 2))) (tOp rOr (tOp (rIx K) (tVar 1) (tC (.int 1))) (tOp (rIx K) (tVar 1) (tC (.int 2))))) (tC (.int 0))))
  (tRet (tC (.bl true)))
  tNext)
  (tRet (tOp (rNeA K) (tOp rAnd (tOp (rIx K) (tVar 1) (tC (.int 2))) (tOp (rIx K) (tVar 0) (tC (.int 1)))) (tC (.int 0)))))
theorem nz_bne (x : Nat) : (!decide ((x : Int) = 0)) = (x != 0) := by
  by_cases h : x = 0
  · subst h
    rfl
  · rw [decide_eq_false (by omega), bne_iff_ne.mpr h]
    rfl
theorem r_clash {K vs H Q E} (h : sp_clash K vs H Q E) : t_clash K { nx := fun _ H' => Q .non H', rt := Q } (start n_clash vs) H := by
  obtain ⟨a, b, d, e, rfl, ha, hb, q⟩ := h
  unfold t_clash
  walk_at "go"
  rw [nz_bne]
  unfold clash at q
  refine ite2 (fun h => ?_) (fun h => ?_)
  · rw [h, Bool.true_or] at q
    exact q
  · walk_at "go"
    rw [nz_bne]
    rw [Bool.not_eq_true] at h
    rw [h, Bool.false_or] at q
    exact q

/-! ### a cell of the script -/
def sp_cell_at (K : PySem.W.Frag) : Sp := fun vs H Q _ => ∃ (a : Addr) (ns : List Int) (k : Nat), vs = [.ref a, .int (k : Int)] ∧ SqL K H a (ns.map V.int) ∧ Q (.int (ns.getD k 0)) H
theorem len_cell_at {K vs H Q E} (h : sp_cell_at K vs H Q E) : vs.length = 2 := by
  obtain ⟨a, ns, k, rfl, _⟩ := h
  rfl
abbrev n_cell_at : List Str := ["_law_script", "_law_k"]
def t_cell_at (K : PySem.W.Frag) : TS :=
  (tSeq (tIfS (tTest (tOp rLt (tVar 1) (tCB (rLen K) (tCons (tVar 0) tNil))))
  (tRet (tOp (rIx K) (tVar 0) (tVar 1)))
  tNext)
  (tRet (tC (.int 0))))
theorem r_cell_at {K vs H Q E} (h : sp_cell_at K vs H Q E) : t_cell_at K { nx := fun _ H' => Q .non H', rt := Q } (start n_cell_at vs) H := by
  obtain ⟨a, ns, k, rfl, ha, q⟩ := h
  unfold t_cell_at
  walk_at "go"
  refine len_l ha ?_
  walk_at "rd"
  rw [List.length_map]
  refine ite2 (fun h => ?_) (fun h => ?_)
  · have hk : k < ns.length := by simpa using h
    refine ix_l ha (atI_nat (j := k) (by rw [List.getElem?_map, List.getElem?_eq_getElem hk]; rfl)) ?_
    have e : ns.getD k 0 = ns[k] := by simp [List.getD, hk]
    rw [← e]
    exact q
  · have hk : ns.length ≤ k := by simpa using h
    have e : ns.getD k 0 = 0 := by simp [List.getD, hk]
    rw [e] at q
    exact q
end Pb

namespace Pb
/-! ### k02: boxes one by one -/
/-- some box below n that one changes and the other looks at or changes -/
def dueB (d e : Dd) (n : Nat) : Prop := ∃ j : Nat, j < n ∧ ((d.c.testBit j = true ∧ (e.l.testBit j = true ∨ e.c.testBit j = true)) ∨ (e.c.testBit j = true ∧ d.l.testBit j = true))
theorem clash_due {d e : Dd} (h1 : d.l < 2 ^ 60) (h2 : d.c < 2 ^ 60) : clash d e = true ↔ dueB d e 60 := by
  rw [clash_bit]
  constructor
  · rintro ⟨j, h⟩
    refine ⟨j, ?_, h⟩
    apply Decidable.byContradiction
    intro hj
    have hz : ∀ x : Nat, x < 2 ^ 60 → x.testBit j = false := fun x hx => Nat.testBit_lt_two_pow (Nat.lt_of_lt_of_le hx (Nat.pow_le_pow_right (by decide) (by omega)))
    rcases h with ⟨a, _⟩ | ⟨_, a⟩
    · rw [hz _ h2] at a
      cases a
    · rw [hz _ h1] at a
      cases a
  · rintro ⟨j, _, h⟩
    exact ⟨j, h⟩
theorem bit_at (x i : Nat) : decide (((x / 2 ^ i : Nat) : Int) % 2 = 1) = x.testBit i := by
  rw [Nat.testBit_eq_decide_div_mod_eq]
  exact decide_eq_decide.mpr (by omega)
theorem half (x i : Nat) : (((x / 2 ^ i : Nat) : Int) / 2) = ((x / 2 ^ (i + 1) : Nat) : Int) := by
  rw [Nat.pow_succ, ← Nat.div_div_eq_div_mul]
  omega
def sp_due_k02 (K : PySem.W.Frag) : Sp := fun vs H Q _ => ∃ a b d e, vs = [.ref a, .ref b] ∧ TD H a d ∧ TD H b e ∧ d.l < 2 ^ 60 ∧ d.c < 2 ^ 60 ∧ ∀ H', Same H H' → Q (.bl (clash d e)) H'
theorem len_due_k02 {K vs H Q E} (h : sp_due_k02 K vs H Q E) : vs.length = 2 := by
  obtain ⟨a, b, d, e, rfl, _⟩ := h
  rfl
abbrev n_due_k02 : List Str := ["_law_one", "_law_other", "_law_mine", "_law_theirs", "_law_k", "_law_bits"]
def t_due_k02 (K : PySem.W.Frag) : TS :=
  (tSeq (tAsg (tLst (tCons (tOp (rIx K) (tVar 0) (tC (.int 1))) (tCons (tOp (rIx K) (tVar 0) (tC (.int 2))) tNil))) (gName 2))
  (tSeq (tAsg (tLst (tCons (tOp (rIx K) (tVar 1) (tC (.int 1))) (tCons (tOp (rIx K) (tVar 1) (tC (.int 2))) tNil))) (gName 3))
  (tSeq (tFor (iRng1 (tCons (tC (.int 60)) tNil)) (gName 4)
  (tSeq (tIfS (tAnd (tTest (tOp (rEqA K) (tOp rMod (tOp (rIx K) (tVar 2) (tC (.int 1))) (tC (.int 2))) (tC (.int 1)))) (tOr (tTest (tOp (rEqA K) (tOp rMod (tOp (rIx K) (tVar 3) (tC (.int 0))) (tC (.int 2))) (tC (.int 1)))) (tTest (tOp (rEqA K) (tOp rMod (tOp (rIx K) (tVar 3) (tC (.int 1))) (tC (.int 2))) (tC (.int 1))))))
  (tRet (tC (.bl true)))
  tNext)
  (tSeq (tIfS (tAnd (tTest (tOp (rEqA K) (tOp rMod (tOp (rIx K) (tVar 3) (tC (.int 1))) (tC (.int 2))) (tC (.int 1)))) (tTest (tOp (rEqA K) (tOp rMod (tOp (rIx K) (tVar 2) (tC (.int 0))) (tC (.int 2))) (tC (.int 1)))))
  (tRet (tC (.bl true)))
  tNext)
  (tSeq (tAsg (tLc (iList K (tVar 2)) (gName 5) tYes (tOp rDiv (tVar 5) (tC (.int 2))) [5]) (gName 2))
  (tAsg (tLc (iList K (tVar 3)) (gName 5) tYes (tOp rDiv (tVar 5) (tC (.int 2))) [5]) (gName 3))))))
  (tRet (tC (.bl false))))))
def hf : V → V
  | .int n => .int (n / 2)
  | v => v
theorem r_due_k02 {K vs H Q E} (h : sp_due_k02 K vs H Q E) : t_due_k02 K { nx := fun _ H' => Q .non H', rt := Q } (start n_due_k02 vs) H := by
  obtain ⟨a, b, d, e, rfl, ha, hb, h1, h2, q⟩ := h
  unfold t_due_k02
  walk_at "go"
  refine lstQ fun p H1 hp s1 g1 => ?_
  have hb1 := s1 _ _ hb
  walk_at "go"
  refine lstQ fun p2 H2 hp2 s2 g2 => ?_
  walk_at "go"
  refine forR1 (n := 60) (fun i σ H3 => ∃ (x y : Addr) (v4 v5 : Option V), σ = [some (.ref a), some (.ref b), some (.ref x), some (.ref y), v4, v5] ∧ Same H H3 ∧ H3 x = some (.lst [.int ((d.l / 2 ^ i : Nat) : Int), .int ((d.c / 2 ^ i : Nat) : Int)]) ∧
    H3 y = some (.lst [.int ((e.l / 2 ^ i : Nat) : Int), .int ((e.c / 2 ^ i : Nat) : Int)]) ∧ ¬ dueB d e i) (by decide) ⟨p, p2, none, none, rfl, s1.trans s2, ?_, ?_, ?_⟩ ?_ ?_
  · simpa using s2 _ _ g1
  · simpa using g2
  · rintro ⟨j, hj, _⟩
    exact absurd hj (Nat.not_lt_zero _)
  · rintro i σ H3 hi ⟨x, y, v4, v5, rfl, s3, gx, gy, nd⟩
    have yes : (d.c.testBit i = true ∧ (e.l.testBit i = true ∨ e.c.testBit i = true)) ∨ (e.c.testBit i = true ∧ d.l.testBit i = true) → ∀ H', Same H H' → Q (.bl true) H' := fun hh => by
      rw [← (clash_due h1 h2).mpr ⟨i, hi, hh⟩]
      exact q
    have no : ¬ ((d.c.testBit i = true ∧ (e.l.testBit i = true ∨ e.c.testBit i = true)) ∨ (e.c.testBit i = true ∧ d.l.testBit i = true)) → ¬ dueB d e (i + 1) := fun hh => by
      rintro ⟨j, hj, h⟩
      rcases Nat.lt_succ_iff_lt_or_eq.mp hj with hj | rfl
      · exact nd ⟨j, hj, h⟩
      · exact hh h
    cases B1 : d.c.testBit i <;> cases B2 : e.l.testBit i <;> cases B3 : e.c.testBit i <;> cases B4 : d.l.testBit i <;> simp only [B1, B2, B3, B4, Bool.false_eq_true, false_and, and_false, or_false, false_or, and_true, true_and, or_true, true_or, not_false_eq_true, not_true_eq_false, false_implies, true_implies] at yes no
    all_goals
      repeat (walk_at "go"; simp only [bit_at, B1, B2, B3, B4, Bool.false_eq_true, ite_false, ite_true, if_true, if_false])
      first
      | exact yes _ s3
      | (refine lcMap (.of gx) hf ?_ ?_
         · intro v H4 hk s4 R hR R2
           simp only [List.mem_cons, List.not_mem_nil, or_false] at hk
           rcases hk with rfl | rfl <;> (walk_at "go"; exact hR _ (Same.refl _))
         intro x2 H4 hx2 s4 gx2
         refine lcMap (.of (s4 _ _ gy)) hf ?_ ?_
         · intro v H5 hk s5 R hR R2
           simp only [List.mem_cons, List.not_mem_nil, or_false] at hk
           rcases hk with rfl | rfl <;> (walk_at "go"; exact hR _ (Same.refl _))
         intro y2 H5 hy2 s5 gy2
         refine ⟨x2, y2, _, _, rfl, (s3.trans s4).trans s5, ?_, ?_, no⟩
         · rw [s5 _ _ gx2]
           simp only [List.map_cons, List.map_nil, hf, half]
         · rw [gy2]
           simp only [List.map_cons, List.map_nil, hf, half])
  · rintro σ H3 ⟨x, y, v4, v5, rfl, s3, gx, gy, nd⟩
    walk_at "go"
    have e0 : clash d e = false := by
      rw [← Bool.not_eq_true]
      exact fun h => nd ((clash_due h1 h2).mp h)
    rw [e0] at q
    exact q _ s3
end Pb
namespace Pb
theorem nn_nat {x : Int} (h : 0 ≤ x) : ∃ n : Nat, x = (n : Int) := ⟨x.toNat, by omega⟩
theorem list8 {α : Type} {l : List α} (h : l.length = 8) : ∃ a b c d e f g i, l = [a, b, c, d, e, f, g, i] := by
  match l, h with
  | [a, b, c, d, e, f, g, i], _ => exact ⟨a, b, c, d, e, f, g, i, rfl⟩
def sp_rests (K : PySem.W.Frag) : Sp := fun vs H Q _ => ∃ (a : Addr) (cs : List Int) (j : Nat), vs = [.ref a, .int ((2 ^ j : Nat) : Int)] ∧ SqL K H a (cs.map V.int) ∧ cs.length = 8 ∧ j < 60 ∧
  ∀ p H' (r0 r1 r2 r3 : Nat), H p = none → Same H H' → H' p = some (.lst [.int r0, .int r1, .int r2, .int r3]) → (∀ x ∈ [r0, r1, r2, r3], x + 2 ^ j < 2 ^ 60) → Q (.ref p) H'
theorem len_rests {K vs H Q E} (h : sp_rests K vs H Q E) : vs.length = 2 := by
  obtain ⟨a, cs, j, rfl, _⟩ := h
  rfl
abbrev n_rests : List Str := ["_law_cells", "_law_bit", "_law_some", "_law_rooms", "_law_kind", "_law_cell", "_law_bits"]
def t_rests (K : PySem.W.Frag) : TS :=
  (tSeq (tAsg (tLc (iList K (tSl (rSlA K) (tVar 0) (tPart (tC (.int 2))) (tPart (tC (.int 6))))) (gName 5) tYes (tOp rMod (tVar 5) (tOp rPow (tC (.int 2)) (tC (.int 60)))) [5]) (gName 2))
  (tSeq (tAsg (tLst (tCons (tOp rMod (tOp (rIx K) (tVar 0) (tC (.int 1))) (tOp rPow (tC (.int 2)) (tC (.int 60)))) (tCons (tOp rSub (tOp rSub (tOp rPow (tC (.int 2)) (tC (.int 60))) (tC (.int 1))) (tOp rMod (tOp (rIx K) (tVar 0) (tC (.int 1))) (tOp rPow (tC (.int 2)) (tC (.int 60))))) tNil))) (gName 3))
  (tSeq (tAsg (tOp rMod (tOp rDiv (tOp (rIx K) (tVar 0) (tC (.int 0))) (tC (.int 540))) (tC (.int 4))) (gName 4))
  (tCut (tIfS (tTest (tOp (rEqA K) (tVar 4) (tC (.int 0))))
  (tAsg (tLst (tCons (tOp rAnd (tOp (rIx K) (tVar 2) (tC (.int 0))) (tOp (rIx K) (tVar 3) (tC (.int 0)))) (tCons (tOp rAnd (tOp (rIx K) (tVar 2) (tC (.int 1))) (tOp (rIx K) (tVar 3) (tC (.int 0)))) (tCons (tOp rAnd (tOp (rIx K) (tVar 2) (tC (.int 2))) (tOp (rIx K) (tVar 3) (tC (.int 1)))) (tCons (tOp rAnd (tOp (rIx K) (tVar 2) (tC (.int 3))) (tOp (rIx K) (tVar 3) (tC (.int 1)))) tNil))))) (gName 2))
  tNext)
  (tCut (tIfS (tTest (tOp (rEqA K) (tVar 4) (tC (.int 1))))
  (tAsg (tLst (tCons (tC (.int 0)) (tCons (tC (.int 0)) (tCons (tC (.int 0)) (tCons (tC (.int 0)) tNil))))) (gName 2))
  tNext)
  (tCut (tIfS (tTest (tOp (rEqA K) (tVar 4) (tC (.int 2))))
  (tAsg (tLst (tCons (tOp (rIx K) (tVar 2) (tC (.int 0))) (tCons (tC (.int 0)) (tCons (tOp (rIx K) (tVar 2) (tC (.int 2))) (tCons (tC (.int 0)) tNil))))) (gName 2))
  tNext)
  (tRet (tLc (iList K (tVar 2)) (gName 6) tYes (tOp rAnd (tVar 6) (tOp rSub (tOp rSub (tOp rPow (tC (.int 2)) (tC (.int 60))) (tC (.int 1))) (tVar 1))) [6]))))))))
def modf (m : Int) : V → V
  | .int n => .int (n % m)
  | v => v
def andf (m : Nat) : V → V
  | .int n => .int ((n.toNat &&& m : Nat) : Int)
  | v => v
theorem r_rests {K vs H Q E} (h : sp_rests K vs H Q E) : t_rests K { nx := fun _ H' => Q .non H', rt := Q } (start n_rests vs) H := by
  obtain ⟨a, cs, j, rfl, ha, hl, hj, q⟩ := h
  obtain ⟨c0, c1, c2, c3, c4, c5, c6, c7, rfl⟩ := list8 hl
  unfold t_rests
  walk_at "go"
  refine sl_l ha fun p H1 hp s1 g1 => ?_
  refine lcMap (.of g1) (modf (2 ^ 60)) ?_ ?_ (Nat.le_trans (cutV_length _ _ _) (by simp))
  · intro v H4 hk s4 R hR R2
    have : v = .int c2 ∨ v = .int c3 ∨ v = .int c4 ∨ v = .int c5 := by simpa [cutV, HT.sIx] using hk
    rcases this with rfl | rfl | rfl | rfl <;> (walk_at "go"; exact hR _ (Same.refl _))
  intro p2 H2 hp2 s2 g2
  have g2' : H2 p2 = some (.lst [.int (c2 % 2 ^ 60), .int (c3 % 2 ^ 60), .int (c4 % 2 ^ 60), .int (c5 % 2 ^ 60)]) := by
    rw [g2]
    rfl
  clear g2
  obtain ⟨m1, e1⟩ := nn_nat (Int.emod_nonneg c1 (show (1152921504606846976 : Int) ≠ 0 by decide))
  obtain ⟨m2, e2⟩ := nn_nat (Int.emod_nonneg c2 (show (2 ^ 60 : Int) ≠ 0 by decide))
  obtain ⟨m3, e3⟩ := nn_nat (Int.emod_nonneg c3 (show (2 ^ 60 : Int) ≠ 0 by decide))
  obtain ⟨m4, e4⟩ := nn_nat (Int.emod_nonneg c4 (show (2 ^ 60 : Int) ≠ 0 by decide))
  obtain ⟨m5, e5⟩ := nn_nat (Int.emod_nonneg c5 (show (2 ^ 60 : Int) ≠ 0 by decide))
  rw [e2, e3, e4, e5] at g2'
  obtain ⟨m6, e6⟩ := nn_nat (x := 1152921504606846975 - (m1 : Int)) (by omega)
  have ha2 : SqL K H2 a _ := s2.seq (s1.seq ha)
  walk_at "go"
  simp only [e6, e1]
  refine lstQ fun p3 H3 hp3 s3 g3 => ?_
  have ha3 : SqL K H3 a _ := s3.seq ha2
  have g2 := s3 _ _ g2'
  walk_at "go"
  have s03 := (s1.trans s2).trans s3
  generalize c0 / 540 % 4 = kd
  refine cut (fun σ H' => ∃ (x : Addr) (t0 t1 t2 t3 : Nat) (v5 v6 : Option V), σ = [some (.ref a), some (.int ((2 ^ j : Nat) : Int)), some (.ref x), some (.ref p3), some (.int kd), v5, v6] ∧ Same H H' ∧ H' x = some (.lst [.int (t0 : Int), .int (t1 : Int), .int (t2 : Int), .int (t3 : Int)])) ?_ ?_
  · walk_at "go"
    refine ite2 (fun c => ?_) (fun c => ?_)
    · walk_at "go"
      refine lstQ fun p4 H4 hp4 s4 g4 => ?_
      exact ⟨p4, _, _, _, _, _, _, rfl, s03.trans s4, g4⟩
    · exact ⟨p2, _, _, _, _, _, _, rfl, s03, g2⟩
  rintro σ H4 ⟨x, t0, t1, t2, t3, v5, v6, rfl, s4, g4⟩
  refine cut (fun σ H' => ∃ (x : Addr) (t0 t1 t2 t3 : Nat) (v5 v6 : Option V), σ = [some (.ref a), some (.int ((2 ^ j : Nat) : Int)), some (.ref x), some (.ref p3), some (.int kd), v5, v6] ∧ Same H H' ∧ H' x = some (.lst [.int (t0 : Int), .int (t1 : Int), .int (t2 : Int), .int (t3 : Int)])) ?_ ?_
  · walk_at "go"
    refine ite2 (fun c => ?_) (fun c => ?_)
    · walk_at "go"
      refine lstQ fun p5 H5 hp5 s5 g5 => ?_
      exact ⟨p5, 0, 0, 0, 0, _, _, rfl, s4.trans s5, g5⟩
    · exact ⟨x, _, _, _, _, _, _, rfl, s4, g4⟩
  rintro σ H5 ⟨x5, t0, t1, t2, t3, v5, v6, rfl, s5, g5⟩
  refine cut (fun σ H' => ∃ (x : Addr) (t0 t1 t2 t3 : Nat) (v5 v6 : Option V), σ = [some (.ref a), some (.int ((2 ^ j : Nat) : Int)), some (.ref x), some (.ref p3), some (.int kd), v5, v6] ∧ Same H H' ∧ H' x = some (.lst [.int (t0 : Int), .int (t1 : Int), .int (t2 : Int), .int (t3 : Int)])) ?_ ?_
  · walk_at "go"
    refine ite2 (fun c => ?_) (fun c => ?_)
    · walk_at "go"
      refine lstQ fun p6 H6 hp6 s6 g6 => ?_
      exact ⟨p6, _, 0, _, 0, _, _, rfl, s5.trans s6, g6⟩
    · exact ⟨x5, _, _, _, _, _, _, rfl, s5, g5⟩
  rintro σ H6 ⟨x6, t0, t1, t2, t3, v5, v6, rfl, s6, g6⟩
  have hj2 : 2 ^ j < 2 ^ 60 := Nat.pow_lt_pow_right (by decide) hj
  have em : (1152921504606846975 : Int) - ((2 ^ j : Nat) : Int) = ((1152921504606846975 - 2 ^ j : Nat) : Int) := by omega
  walk_at "go"
  refine lcMap (.of g6) (andf (1152921504606846975 - 2 ^ j)) ?_ ?_
  · intro v H7 hk s7 R hR R2
    simp only [List.mem_cons, List.not_mem_nil, or_false] at hk
    rcases hk with rfl | rfl | rfl | rfl <;> (walk_at "go"; simp only [em]; walk_at "go"; exact hR _ (Same.refl _))
  intro p7 H7 hp7 s7 g7
  refine q p7 H7 _ _ _ _ (s6.free hp7) (s6.trans s7) g7 ?_
  intro y hy
  have : y ≤ 1152921504606846975 - 2 ^ j := by
    simp only [List.mem_cons, List.not_mem_nil, or_false] at hy
    rcases hy with rfl | rfl | rfl | rfl <;> exact Nat.and_le_right
  omega
end Pb
namespace Pb
/-- a deed of boxes below sixty -/
def Ok60 (d : Dd) : Prop := d.l < 2 ^ 60 ∧ d.c < 2 ^ 60
def sp_two (K : PySem.W.Frag) : Sp := fun vs H Q _ => ∃ (a : Addr) (cs : List Int), vs = [.ref a] ∧ SqL K H a (cs.map V.int) ∧ cs.length = 8 ∧
  ∀ p H' b c d e, H p = none → Same H H' → H' p = some (.lst [.ref b, .ref c]) → TD H' b d → TD H' c e → Ok60 d → Ok60 e → Q (.ref p) H'
theorem len_two {K vs H Q E} (h : sp_two K vs H Q E) : vs.length = 1 := by
  obtain ⟨a, cs, rfl, _⟩ := h
  rfl
abbrev n_two : List Str := ["_law_cells", "_law_bit", "_law_rests_here", "_law_roles", "_law_names", "_law_two_here", "_law_k", "_law_looks", "_law_changes"]
def t_two (K : PySem.W.Frag) : TS :=
  (tSeq (tAsg (tOp rShl (tC (.int 1)) (tOp rMod (tOp (rIx K) (tVar 0) (tC (.int 0))) (tC (.int 60)))) (gName 1))
  (tSeq (tAsg (tCall (sp_rests K) [] E0 (tCons (tVar 0) (tCons (tVar 1) tNil))) (gName 2))
  (tSeq (tAsg (tLst (tCons (tOp rMod (tOp rDiv (tOp (rIx K) (tVar 0) (tC (.int 0))) (tC (.int 60))) (tC (.int 3))) (tCons (tOp rMod (tOp rDiv (tOp (rIx K) (tVar 0) (tC (.int 0))) (tC (.int 180))) (tC (.int 3))) tNil))) (gName 3))
  (tSeq (tAsg (tLst (tCons (tOp rMod (tOp (rIx K) (tVar 0) (tC (.int 6))) (tOp rPow (tC (.int 10)) (tC (.int 60)))) (tCons (tOp rMod (tOp rDiv (tOp (rIx K) (tVar 0) (tC (.int 7))) (tC (.int 2))) (tOp rPow (tC (.int 10)) (tC (.int 60)))) tNil))) (gName 4))
  (tCut (tIfS (tTest (tOp (rEqA K) (tOp rMod (tOp (rIx K) (tVar 0) (tC (.int 7))) (tC (.int 2))) (tC (.int 1))))
  (tAsg (tOp (rIx K) (tVar 4) (tC (.int 0))) (gSub (tVar 4) (tC (.int 1)) rSetL))
  tNext)
  (tSeq (tAsg (tLst tNil) (gName 5))
  (tSeq (tFor (iRng1 (tCons (tC (.int 2)) tNil)) (gName 6)
  (tSeq (tAsg (tOp rPlus (tOp (rIx K) (tVar 2) (tOp rMul (tC (.int 2)) (tVar 6))) (tOp (rIx K) (tLst (tCons (tC (.int 0)) (tCons (tVar 1) (tCons (tC (.int 0)) tNil)))) (tOp (rIx K) (tVar 3) (tVar 6)))) (gName 7))
  (tSeq (tAsg (tOp rPlus (tOp (rIx K) (tVar 2) (tOp rPlus (tOp rMul (tC (.int 2)) (tVar 6)) (tC (.int 1)))) (tOp (rIx K) (tLst (tCons (tC (.int 0)) (tCons (tC (.int 0)) (tCons (tVar 1) tNil)))) (tOp (rIx K) (tVar 3) (tVar 6)))) (gName 8))
  (tDrop (tBM K "list" rAppend (tVar 5) (tCons (tTup (tCons (tOp (rIx K) (tVar 4) (tVar 6)) (tCons (tVar 7) (tCons (tVar 8) tNil)))) tNil))))))
  (tRet (tVar 5)))))))))
theorem r_two {K vs H Q E} (h : sp_two K vs H Q E) : t_two K { nx := fun _ H' => Q .non H', rt := Q } (start n_two vs) H := by
  obtain ⟨a, cs, rfl, ha, hl, q⟩ := h
  obtain ⟨c0, c1, c2, c3, c4, c5, c6, c7, rfl⟩ := list8 hl
  unfold t_two
  walk_at "go"
  obtain ⟨j, ej⟩ := nn_nat (Int.emod_nonneg c0 (show (60 : Int) ≠ 0 by decide))
  have hj : j < 60 := by omega
  rw [ej]
  refine ⟨⟨by omega, by omega, by decide⟩, ?_⟩
  have e2 : (1 : Int) * 2 ^ ((j : Int)).toNat = ((2 ^ j : Nat) : Int) := by
    rw [Int.toNat_natCast, Int.one_mul]
    simp
  rw [e2]
  refine ⟨a, _, j, rfl, ha, rfl, hj, fun p1 H1 r0 r1 r2 r3 hp1 s1 g1 hr => ?_⟩
  have ha1 : SqL K H1 a _ := s1.seq ha
  walk_at "go"
  obtain ⟨x0, ex0⟩ := nn_nat (Int.emod_nonneg (c0 / 60) (show (3 : Int) ≠ 0 by decide))
  obtain ⟨x1, ex1⟩ := nn_nat (Int.emod_nonneg (c0 / 180) (show (3 : Int) ≠ 0 by decide))
  have hx0 : x0 < 3 := by omega
  have hx1 : x1 < 3 := by omega
  simp only [ex0, ex1]
  refine lstQ fun p3 H3 hp3 s3 g3 => ?_
  have ha3 : SqL K H3 a _ := s3.seq ha1
  walk_at "go"
  refine lstQ fun p4 H4 hp4 s4 g4 => ?_
  have ha4 : SqL K H4 a _ := s4.seq ha3
  have s13 := s1.trans s3
  refine cut (fun σ H' => ∃ (n0 n1 : Int), σ = [some (.ref a), some (.int ((2 ^ j : Nat) : Int)), some (.ref p1), some (.ref p3), some (.ref p4), none, none, none, none] ∧ Same H3 H' ∧ H' p4 = some (.lst [.int n0, .int n1])) ?_ ?_
  · walk_at "go"
    refine ite2 (fun c => ?_) (fun c => ?_)
    · walk_at "go"
      refine set_r (i := 1) s4 hp4 g4 (by simp) fun H5 s5 g5 _ => ?_
      exact ⟨_, _, rfl, s5, g5⟩
    · exact ⟨_, _, rfl, s4, g4⟩
  rintro σ H5 ⟨n0, n1, rfl, s5, g5⟩
  have gr := s5 _ _ (s3 _ _ g1)
  have go := s5 _ _ g3
  walk_at "go"
  refine lstQ fun p6 H6 hp6 s6 g6 => ?_
  have look1 : ∀ (r x : Nat), r + 2 ^ j < 2 ^ 60 → x < 3 → ∃ w : Nat, [V.int 0, V.int ((2 ^ j : Nat) : Int), V.int 0][x]? = some (V.int (w : Int)) ∧ r + w < 2 ^ 60 := by
    intro r x hr hx
    have h2 := Nat.two_pow_pos j
    have : x = 0 ∨ x = 1 ∨ x = 2 := by omega
    rcases this with rfl | rfl | rfl
    · exact ⟨0, rfl, by omega⟩
    · exact ⟨2 ^ j, rfl, by omega⟩
    · exact ⟨0, rfl, by omega⟩
  have look2 : ∀ (r x : Nat), r + 2 ^ j < 2 ^ 60 → x < 3 → ∃ w : Nat, [V.int 0, V.int 0, V.int ((2 ^ j : Nat) : Int)][x]? = some (V.int (w : Int)) ∧ r + w < 2 ^ 60 := by
    intro r x hr hx
    have h2 := Nat.two_pow_pos j
    have : x = 0 ∨ x = 1 ∨ x = 2 := by omega
    rcases this with rfl | rfl | rfl
    · exact ⟨0, rfl, by omega⟩
    · exact ⟨0, rfl, by omega⟩
    · exact ⟨2 ^ j, rfl, by omega⟩
  refine forR1 (n := 2) (fun i σ H7 => ∃ (as : List Addr) (v6 v7 v8 : Option V), σ = [some (.ref a), some (.int ((2 ^ j : Nat) : Int)), some (.ref p1), some (.ref p3), some (.ref p4), some (.ref p6), v6, v7, v8] ∧ Same H5 H7 ∧ H7 p6 = some (.lst (as.map V.ref)) ∧
    as.length = i ∧ ∀ b ∈ as, ∃ d, TD H7 b d ∧ Ok60 d) (by decide) ⟨[], none, none, none, rfl, s6, g6, rfl, by simp⟩ ?_ ?_
  · rintro i σ H6 hi ⟨as, v6, v7, v8, rfl, s56, gp, hlen, hall⟩
    have go6 := s56 _ _ go
    have gr6 := s56 _ _ gr
    have gn6 := s56 _ _ g5
    rcases (show i = 0 ∨ i = 1 by omega) with rfl | rfl
    · obtain ⟨w1, hw1, hw1'⟩ := look1 r0 x0 (hr r0 (by simp)) hx0
      obtain ⟨w2, hw2, hw2'⟩ := look2 r1 x0 (hr r1 (by simp)) hx0
      walk_at "go"
      refine lstQ fun p7 H7 hp7 s7 g7 => ?_
      have go7 := s7 _ _ go6
      have gr7 := s7 _ _ gr6
      walk_at "go"
      refine ix_l' g7 (atI_nat (j := x0) hw1) ?_
      walk_at "go"
      refine lstQ fun p8 H8 hp8 s8 g8 => ?_
      have go8 := s8 _ _ go7
      have gn8 := s8 _ _ (s7 _ _ gn6)
      walk_at "go"
      refine ix_l' g8 (atI_nat (j := x0) hw2) ?_
      walk_at "go"
      have s68 := s7.trans s8
      refine ⟨ty_l (s68 _ _ gp), ?_⟩
      walk_at "go"
      refine tupQ fun p9 H9 hp9 s9 g9 => ?_
      walk_at "go"
      have s69 := s68.trans s9
      refine append_r (xs := as.map V.ref) (s56.trans s69) hp6 (s69 _ _ gp) (by rw [List.length_map]; omega) fun H10 s10 g10 ne10 => ?_
      have ne9 : p9 ≠ p6 := (ne_of_none (s68 _ _ gp) hp9).symm
      refine ⟨as ++ [p9], _, _, _, rfl, s10, by rw [g10, List.map_append]; rfl, by simp [hlen], fun b hb => ?_⟩
      rcases List.mem_append.mp hb with hb | hb
      · obtain ⟨d, hd, hd'⟩ := hall b hb
        refine ⟨d, ?_, hd'⟩
        have nb : b ≠ p6 := ne_of hd gp (by intro z; cases z)
        show H10 b = _
        rw [ne10 b nb]
        exact s69 _ _ hd
      · have e : b = p9 := by simpa using hb
        subst e
        refine ⟨⟨n0, r0 + w1, r1 + w2⟩, ?_, hw1', hw2'⟩
        show H10 b = _
        rw [ne10 b ne9]
        exact g9
    · obtain ⟨w1, hw1, hw1'⟩ := look1 r2 x1 (hr r2 (by simp)) hx1
      obtain ⟨w2, hw2, hw2'⟩ := look2 r3 x1 (hr r3 (by simp)) hx1
      walk_at "go"
      refine lstQ fun p7 H7 hp7 s7 g7 => ?_
      have go7 := s7 _ _ go6
      have gr7 := s7 _ _ gr6
      walk_at "go"
      refine ix_l' g7 (atI_nat (j := x1) hw1) ?_
      walk_at "go"
      refine lstQ fun p8 H8 hp8 s8 g8 => ?_
      have go8 := s8 _ _ go7
      have gn8 := s8 _ _ (s7 _ _ gn6)
      walk_at "go"
      refine ix_l' g8 (atI_nat (j := x1) hw2) ?_
      walk_at "go"
      have s68 := s7.trans s8
      refine ⟨ty_l (s68 _ _ gp), ?_⟩
      walk_at "go"
      refine tupQ fun p9 H9 hp9 s9 g9 => ?_
      walk_at "go"
      have s69 := s68.trans s9
      refine append_r (xs := as.map V.ref) (s56.trans s69) hp6 (s69 _ _ gp) (by rw [List.length_map]; omega) fun H10 s10 g10 ne10 => ?_
      have ne9 : p9 ≠ p6 := (ne_of_none (s68 _ _ gp) hp9).symm
      refine ⟨as ++ [p9], _, _, _, rfl, s10, by rw [g10, List.map_append]; rfl, by simp [hlen], fun b hb => ?_⟩
      rcases List.mem_append.mp hb with hb | hb
      · obtain ⟨d, hd, hd'⟩ := hall b hb
        refine ⟨d, ?_, hd'⟩
        have nb : b ≠ p6 := ne_of hd gp (by intro z; cases z)
        show H10 b = _
        rw [ne10 b nb]
        exact s69 _ _ hd
      · have e : b = p9 := by simpa using hb
        subst e
        refine ⟨⟨n1, r2 + w1, r3 + w2⟩, ?_, hw1', hw2'⟩
        show H10 b = _
        rw [ne10 b ne9]
        exact g9
  · rintro σ H7 ⟨as, v6, v7, v8, rfl, s57, gp, hlen, hall⟩
    match as, hlen with
    | [b, c], _ =>
      obtain ⟨d, hd, hd'⟩ := hall b (by simp)
      obtain ⟨e, he, he'⟩ := hall c (by simp)
      walk_at "go"
      exact q p6 H7 b c d e (s13.free (s5.free hp6)) (s13.trans (s5.trans s57)) gp hd he hd' he'
end Pb
namespace Pb
def sp_told_k02 (K : PySem.W.Frag) : Sp := fun vs H Q _ => ∃ a b d e, vs = [.ref a, .ref b] ∧ TD H a d ∧ TD H b e ∧ Ok60 d ∧ Ok60 e ∧ ∀ H', Same H H' → Q (.bl true) H'
theorem len_told_k02 {K vs H Q E} (h : sp_told_k02 K vs H Q E) : vs.length = 2 := by
  obtain ⟨a, b, d, e, rfl, _⟩ := h
  rfl
abbrev n_told_k02 : List Str := ["_law_one", "_law_other", "_law_found"]
def t_told_k02 (K : PySem.W.Frag) : TS :=
  (tSeq (tAsg (tCall (sp_clash K) [] E0 (tCons (tVar 0) (tCons (tVar 1) tNil))) (gName 2))
  (tRet (tAndV (tCB (rIsi K) (tCons (tVar 2) (tCons (tC (.ty "bool")) tNil))) (tOp (rEqA K) (tVar 2) (tCall (sp_due_k02 K) [] E0 (tCons (tVar 0) (tCons (tVar 1) tNil)))))))
theorem r_told_k02 {K vs H Q E} (h : sp_told_k02 K vs H Q E) : t_told_k02 K { nx := fun _ H' => Q .non H', rt := Q } (start n_told_k02 vs) H := by
  obtain ⟨a, b, d, e, rfl, ha, hb, h1, h2, q⟩ := h
  unfold t_told_k02
  walk_at "go"
  refine ⟨a, b, d, e, rfl, ha, hb, ?_⟩
  walk_at "go"
  refine ⟨a, b, d, e, rfl, ha, hb, h1.1, h1.2, fun H1 s1 => ?_⟩
  walk_at "go"
  simp only [decide_true]
  exact q H1 s1
theorem clash_self (d : Dd) : clash d d = decide (0 < d.c) := by
  have h : clash d d = true ↔ 0 < d.c := by
    rw [clash_bit]
    constructor
    · rintro ⟨j, h⟩
      have : d.c.testBit j = true := by
        rcases h with ⟨h, _⟩ | ⟨h, _⟩ <;> exact h
      apply Nat.pos_of_ne_zero
      intro e
      rw [e, Nat.zero_testBit] at this
      cases this
    · intro h
      obtain ⟨j, hj⟩ := Nat.exists_testBit_of_ne_zero (Nat.pos_iff_ne_zero.mp h)
      exact ⟨j, .inl ⟨hj, .inr hj⟩⟩
  by_cases c : 0 < d.c
  · rw [h.mpr c, decide_eq_true c]
  · rw [decide_eq_false c, ← Bool.not_eq_true, h]
    exact c
def sp_pair (K : PySem.W.Frag) : Sp := fun vs H Q _ => ∃ (a : Addr) (cs : List Int), vs = [.ref a] ∧ SqL K H a (cs.map V.int) ∧ cs.length = 8 ∧ ∀ H', Same H H' → Q (.bl true) H'
theorem len_pair {K vs H Q E} (h : sp_pair K vs H Q E) : vs.length = 1 := by
  obtain ⟨a, cs, rfl, _⟩ := h
  rfl
abbrev n_pair : List Str := ["_law_cells", "_law_one", "_law_other", "_law_turn", "_law_each", "_law_found"]
def t_pair (K : PySem.W.Frag) : TS :=
  (tSeq (tAsg (tCall (sp_two K) [] E0 (tCons (tVar 0) tNil)) (gLst K 2 (gCons (gName 1) (gCons (gName 2) gNil))))
  (tSeq (tFor (iRng1 (tCons (tC (.int 2)) tNil)) (gName 3)
  (tSeq (tIfS (tOr (tNot (tB (tCall (sp_told_k02 K) [] E0 (tCons (tVar 1) (tCons (tVar 2) tNil))))) (tNot (tB (tCall (sp_told_k02 K) [] E0 (tCons (tVar 2) (tCons (tVar 1) tNil))))))
  (tRet (tC (.bl false)))
  tNext)
  (tFor (iList K (tLst (tCons (tVar 1) (tCons (tVar 2) tNil)))) (gName 4)
  (tSeq (tAsg (tCall (sp_clash K) [] E0 (tCons (tVar 4) (tCons (tVar 4) tNil))) (gName 5))
  (tIfS (tOr (tNot (tB (tCB (rIsi K) (tCons (tVar 5) (tCons (tC (.ty "bool")) tNil))))) (tTest (tOp (rNeA K) (tVar 5) (tOp rGt (tOp (rIx K) (tVar 4) (tC (.int 2))) (tC (.int 0))))))
  (tRet (tC (.bl false)))
  tNext)))))
  (tRet (tC (.bl true)))))
theorem r_pair {K vs H Q E} (h : sp_pair K vs H Q E) : t_pair K { nx := fun _ H' => Q .non H', rt := Q } (start n_pair vs) H := by
  obtain ⟨a, cs, rfl, ha, hl, q⟩ := h
  unfold t_pair
  walk_at "go"
  refine ⟨a, cs, rfl, ha, hl, fun p H1 b c d e hp s1 g1 hb hc hd he => ?_⟩
  walk_at "go"
  refine forR1 (n := 2) (fun i σ H2 => ∃ (v3 v4 v5 : Option V), σ = [some (.ref a), some (.ref b), some (.ref c), v3, v4, v5] ∧ Same H1 H2) (by decide) ⟨none, none, none, rfl, Same.refl _⟩ ?_ ?_
  · rintro i σ H2 hi ⟨v3, v4, v5, rfl, s2⟩
    walk_at "go"
    refine ⟨b, c, d, e, rfl, s2 _ _ hb, s2 _ _ hc, hd, he, fun H3 s3 => ?_⟩
    have s13 := s2.trans s3
    walk_at "go"
    refine ⟨c, b, e, d, rfl, s13 _ _ hc, s13 _ _ hb, he, hd, fun H4 s4 => ?_⟩
    have s14 := s13.trans s4
    walk_at "go"
    refine lstQ fun p5 H5 hp5 s5 g5 => ?_
    have s15 := s14.trans s5
    refine forL (.of g5) (fun k σ H2 => ∃ (v4 v5 : Option V), σ = [some (.ref a), some (.ref b), some (.ref c), some (.int (i : Int)), v4, v5] ∧ Same H5 H2) ⟨_, _, rfl, Same.refl _⟩ (fun k σ H2 _ ⟨_, _, _, s⟩ => s.seq (.of g5)) ?_ ?_
    · rintro k x σ H6 hx ⟨v4, v5, rfl, s6⟩
      have : ∃ (y : Addr) (z : Dd), x = .ref y ∧ TD H6 y z := by
        have hm := List.mem_of_getElem? hx
        simp only [List.mem_cons, List.not_mem_nil, or_false] at hm
        rcases hm with rfl | rfl
        · exact ⟨b, d, rfl, s6 _ _ (s15 _ _ hb)⟩
        · exact ⟨c, e, rfl, s6 _ _ (s15 _ _ hc)⟩
      obtain ⟨y, z, rfl, hz⟩ := this
      walk_at "go"
      refine ⟨y, y, z, z, rfl, hz, hz, ?_⟩
      walk_at "go"
      have ez : decide (0 < (z.c : Int)) = clash z z := by
        rw [clash_self]
        exact decide_eq_decide.mpr (by omega)
      simp only [ez, decide_true, Bool.not_true, Bool.false_eq_true, if_false, ite_false]
      exact ⟨_, _, rfl, s6⟩
    · rintro σ H6 ⟨v4, v5, rfl, s6⟩
      exact ⟨_, _, _, rfl, s15.trans s6⟩
  · rintro σ H2 ⟨v3, v4, v5, rfl, s2⟩
    walk_at "go"
    exact q _ (s1.trans s2)
/-! ### the law -/
def sp_law (K : PySem.W.Frag) : Sp := fun vs H Q _ => ∃ (a : Addr) (ns : List Int), vs = [.ref a] ∧ SqL K H a (ns.map V.int) ∧ ns.length ≤ 63 ∧ ∀ H', Q (.bl true) H'
theorem len_law {K vs H Q E} (h : sp_law K vs H Q E) : vs.length = 1 := by
  obtain ⟨a, cs, rfl, _⟩ := h
  rfl
theorem len_law_k02 {K vs H Q E} (h : sp_law K vs H Q E) : vs.length = 1 := len_law h
abbrev n_law_k02 : List Str := ["_law_script", "_law_k", "_law_j"]
def t_law_k02 (K : PySem.W.Frag) : TS :=
  (tSeq (tFor (iRng3 (tCons (tC (.int 0)) (tCons (tOp rPlus (tCB (rLen K) (tCons (tSl (rSlA K) (tVar 0) tNoPart (tPart (tC (.int 84)))) tNil)) (tC (.int 1))) (tCons (tC (.int 8)) tNil)))) (gName 1)
  (tIfS (tNot (tB (tCall (sp_pair K) [] E0 (tCons (tLc (iRng1 (tCons (tC (.int 8)) tNil)) (gName 2) tYes (tCall (sp_cell_at K) [] E0 (tCons (tSl (rSlA K) (tVar 0) tNoPart (tPart (tC (.int 84)))) (tCons (tOp rPlus (tVar 1) (tVar 2)) tNil))) [2]) tNil))))
  (tRet (tC (.bl false)))
  tNext))
  (tRet (tC (.bl true))))
theorem cut_ints (ns : List Int) (lo hi : Option Int) : ∃ ms : List Int, cutV (ns.map V.int) lo hi = ms.map V.int ∧ ms.length ≤ ns.length := by
  unfold cutV
  rw [← List.map_drop, ← List.map_take]
  refine ⟨_, rfl, ?_⟩
  rw [List.length_take, List.length_drop]
  omega
theorem r_law_k02 {K vs H Q E} (h : sp_law K vs H Q E) : t_law_k02 K { nx := fun _ H' => Q .non H', rt := Q } (start n_law_k02 vs) H := by
  obtain ⟨a, ns, rfl, ha, hl, q⟩ := h
  unfold t_law_k02
  walk_at "go"
  obtain ⟨ms, em, hm⟩ := cut_ints ns none (some 84)
  refine sl_l ha fun p H1 hp s1 g1 => ?_
  rw [em] at g1
  walk_at "go"
  rw [List.length_map]
  refine forR3 (n := (ms.length + 1 + 7) / 8) (c := 8) (rg8 (ms.length + 1) (by omega)) (fun i σ H2 => ∃ (v1 v2 : Option V), σ = [some (.ref a), v1, v2] ∧ Same H H2) ⟨none, none, rfl, s1⟩ ?_ ?_
  · rintro i σ H2 hi ⟨v1, v2, rfl, s2⟩
    walk_at "go"
    refine lcR1 (n := 8) (fun j => some (.int (ms.getD (i * 8 + j) 0))) (by decide) ?_ ?_
    · intro j H3 hj s3 R hR R2 hR2
      walk_at "go"
      refine sl_l (s3.seq (s2.seq ha)) fun p4 H4 hp4 s4 g4 => ?_
      rw [em] at g4
      walk_at "go"
      refine ⟨p4, ms, i * 8 + j, by simp, .of g4, hR _ _ rfl s4⟩
    · intro p3 H3 hp3 s3 g3
      walk_at "go"
      refine ⟨p3, (List.range 8).map (fun j => ms.getD (i * 8 + j) 0), rfl, .of ?_, by simp, fun H4 s4 => ?_⟩
      · rw [g3]
        rfl
      · walk_at "go"
        exact ⟨_, _, rfl, (s2.trans s3).trans s4⟩
  · rintro σ H2 ⟨v1, v2, rfl, s2⟩
    walk_at "go"
    exact q _
theorem len_law_ok : True := trivial
end Pb

namespace Rk02
open PySem PySem.Spec L2 Pb
def top (i : Nat) : Stmt := PySem.Challenge.pw_passby_k02_clash.main.body.getD i (.Pass ⟨0, 0, 0, 0⟩)
abbrev s_clash : Stmt := (top 1)
theorem sc_clash : FnScope n_clash ["one", "other"] (defScope s_clash) := ⟨rfl, rfl, rfl, by decide +kernel, rfl, by decide +kernel, by decide +kernel⟩
abbrev s_cell_at : Stmt := (top 3)
theorem sc_cell_at : FnScope n_cell_at ["_law_script", "_law_k"] (defScope s_cell_at) := ⟨rfl, rfl, rfl, by decide +kernel, rfl, by decide +kernel, by decide +kernel⟩
abbrev s_due_k02 : Stmt := (top 4)
theorem sc_due_k02 : FnScope n_due_k02 ["_law_one", "_law_other"] (defScope s_due_k02) := ⟨rfl, rfl, rfl, by decide +kernel, rfl, by decide +kernel, by decide +kernel⟩
abbrev s_rests : Stmt := (top 5)
theorem sc_rests : FnScope n_rests ["_law_cells", "_law_bit"] (defScope s_rests) := ⟨rfl, rfl, rfl, by decide +kernel, rfl, by decide +kernel, by decide +kernel⟩
abbrev s_two : Stmt := (top 6)
theorem sc_two : FnScope n_two ["_law_cells"] (defScope s_two) := ⟨rfl, rfl, rfl, by decide +kernel, rfl, by decide +kernel, by decide +kernel⟩
abbrev s_told_k02 : Stmt := (top 7)
theorem sc_told_k02 : FnScope n_told_k02 ["_law_one", "_law_other"] (defScope s_told_k02) := ⟨rfl, rfl, rfl, by decide +kernel, rfl, by decide +kernel, by decide +kernel⟩
abbrev s_pair : Stmt := (top 8)
theorem sc_pair : FnScope n_pair ["_law_cells"] (defScope s_pair) := ⟨rfl, rfl, rfl, by decide +kernel, rfl, by decide +kernel, by decide +kernel⟩
abbrev s_law_k02 : Stmt := (top 9)
theorem sc_law_k02 : FnScope n_law_k02 ["_law_script"] (defScope s_law_k02) := ⟨rfl, rfl, rfl, by decide +kernel, rfl, by decide +kernel, by decide +kernel⟩
structure Txt (K : PySem.W.Frag) (mg : Str → Option Value) (G : Str → Addr) : Prop where
  triv : True
  b_bool : mg "bool" = none
  b_isinstance : mg "isinstance" = none
  b_len : mg "len" = none
  b_range : mg "range" = none
section
variable {P : Program} {w : World} {K : PySem.W.Frag} {mg : Str → Option Value} {base : Heap} {G : Str → Addr}
theorem ok_clash {f : Addr} {fd : FuncData} (F : Fun K "clash" "clash" s_clash f fd) (T : Txt K mg G)  : FnOk P w K mg base CX0 1 f fd ["one", "other"] (sp_clash K) := by
  refine F.ok sc_clash (fun vs H Q E h => len_clash h) (fun cdv A outer s H vs Q E hr h => ⟨t_clash K, ?_, r_clash h⟩)
  exact (pss_cons (ps_if (pt_cmpR (op_neA hr.units) (pe_op op_and (pe_ix ix_seq (pv 0) pe_int (fun _ _ => rfl)) (pe_op op_or (pe_ix ix_seq (pv 1) pe_int (fun _ _ => rfl)) (pe_ix ix_seq (pv 1) pe_int (fun _ _ => rfl)))) pe_int (nomark _))
  (pss_one (ps_ret pe_bl))
  pss_nil)
  (pss_one (ps_ret (pe_cmpR (op_neA hr.units) (pe_op op_and (pe_ix ix_seq (pv 1) pe_int (fun _ _ => rfl)) (pe_ix ix_seq (pv 0) pe_int (fun _ _ => rfl))) pe_int (nomark _)))))
theorem ok_cell_at {f : Addr} {fd : FuncData} (F : Fun K "_law_cell_at" "_law_cell_at" s_cell_at f fd) (T : Txt K mg G)  : FnOk P w K mg base CX0 1 f fd ["_law_script", "_law_k"] (sp_cell_at K) := by
  refine F.ok sc_cell_at (fun vs H Q E h => len_cell_at h) (fun cdv A outer s H vs Q E hr h => ⟨t_cell_at K, ?_, r_cell_at h⟩)
  exact (pss_cons (ps_if (pt_cmpR op_lt (pv 1) (pe_callB call_len_seq (by rfl) T.b_len bt_len (pa_cons (pv 0) pa_nil)) (nomark _))
  (pss_one (ps_ret (pe_ix ix_seq (pv 0) (pv 1) (fun _ _ => rfl))))
  pss_nil)
  (pss_one (ps_ret pe_int)))
theorem ok_due_k02 {f : Addr} {fd : FuncData} (F : Fun K "_law_due" "_law_due" s_due_k02 f fd) (T : Txt K mg G)  : FnOk P w K mg base CX0 1 f fd ["_law_one", "_law_other"] (sp_due_k02 K) := by
  refine F.ok sc_due_k02 (fun vs H Q E h => len_due_k02 h) (fun cdv A outer s H vs Q E hr h => ⟨t_due_k02 K, ?_, r_due_k02 h⟩)
  exact (pss_cons (ps_set (i := 2) sc_due_k02.nd rfl (Or.inl rfl) (pe_lst (pa_cons (pe_ix ix_seq (pv 0) pe_int (fun _ _ => rfl)) (pa_cons (pe_ix ix_seq (pv 0) pe_int (fun _ _ => rfl)) pa_nil))))
  (pss_cons (ps_set (i := 3) sc_due_k02.nd rfl (Or.inl rfl) (pe_lst (pa_cons (pe_ix ix_seq (pv 1) pe_int (fun _ _ => rfl)) (pa_cons (pe_ix ix_seq (pv 1) pe_int (fun _ _ => rfl)) pa_nil))))
  (pss_cons (ps_for PassesOwn.never rfl (pi_range1 (by rfl) T.b_range (pa_cons pe_int pa_nil)) (pg_name (i := 4) sc_due_k02.nd rfl (Or.inl rfl))
  (pss_cons (ps_if (PW.pt (pw_and (pt_cmpR (op_eqA hr.units) (pe_op op_mod (pe_ix ix_seq (pv 2) pe_int (fun _ _ => rfl)) pe_int) pe_int (nomark _)) (pw_and1 (PW.pt (pw_or (pt_cmpR (op_eqA hr.units) (pe_op op_mod (pe_ix ix_seq (pv 3) pe_int (fun _ _ => rfl)) pe_int) pe_int (nomark _)) (pw_or1 (pt_cmpR (op_eqA hr.units) (pe_op op_mod (pe_ix ix_seq (pv 3) pe_int (fun _ _ => rfl)) pe_int) pe_int (nomark _))))))))
  (pss_one (ps_ret pe_bl))
  pss_nil)
  (pss_cons (ps_if (PW.pt (pw_and (pt_cmpR (op_eqA hr.units) (pe_op op_mod (pe_ix ix_seq (pv 3) pe_int (fun _ _ => rfl)) pe_int) pe_int (nomark _)) (pw_and1 (pt_cmpR (op_eqA hr.units) (pe_op op_mod (pe_ix ix_seq (pv 2) pe_int (fun _ _ => rfl)) pe_int) pe_int (nomark _)))))
  (pss_one (ps_ret pe_bl))
  pss_nil)
  (pss_cons (ps_setLc (i := 2) (own := [("_law_bits", 5)]) (by rfl) sc_due_k02.nd rfl rfl (sw_true rfl rfl rfl (by decide +kernel)) (pi_list (pv 2)) (blkOk_by (N := n_due_k02) (sc := defScope s_due_k02) (by decide +kernel)) (fun _ _ _ _ _ => (pg_name (i := 5) sc_due_k02.nd rfl (Or.inl rfl))) (fun _ _ _ _ _ => pts_nil) (fun _ _ _ _ _ => (pe_op op_fdivW (pv 5) pe_int)))
  (pss_one (ps_setLc (i := 3) (own := [("_law_bits", 5)]) (by rfl) sc_due_k02.nd rfl rfl (sw_true rfl rfl rfl (by decide +kernel)) (pi_list (pv 3)) (blkOk_by (N := n_due_k02) (sc := defScope s_due_k02) (by decide +kernel)) (fun _ _ _ _ _ => (pg_name (i := 5) sc_due_k02.nd rfl (Or.inl rfl))) (fun _ _ _ _ _ => pts_nil) (fun _ _ _ _ _ => (pe_op op_fdivW (pv 5) pe_int))))))))
  (pss_one (ps_ret pe_bl)))))
theorem ok_rests {f : Addr} {fd : FuncData} (F : Fun K "_law_rests" "_law_rests" s_rests f fd) (T : Txt K mg G)  : FnOk P w K mg base CX0 1 f fd ["_law_cells", "_law_bit"] (sp_rests K) := by
  refine F.ok sc_rests (fun vs H Q E h => len_rests h) (fun cdv A outer s H vs Q E hr h => ⟨t_rests K, ?_, r_rests h⟩)
  exact (pss_cons (ps_setLc (i := 2) (own := [("_law_cell", 5)]) (by rfl) sc_rests.nd rfl rfl (sw_true rfl rfl rfl (by decide +kernel)) (pi_list (pe_slice sl_any (pv 0) (po_some pe_int) (po_some pe_int))) (blkOk_by (N := n_rests) (sc := defScope s_rests) (by decide +kernel)) (fun _ _ _ _ _ => (pg_name (i := 5) sc_rests.nd rfl (Or.inl rfl))) (fun _ _ _ _ _ => pts_nil) (fun _ _ _ _ _ => (pe_op op_mod (pv 5) (pe_op op_pow pe_int pe_int))))
  (pss_cons (ps_set (i := 3) sc_rests.nd rfl (Or.inl rfl) (pe_lst (pa_cons (pe_op op_mod (pe_ix ix_seq (pv 0) pe_int (fun _ _ => rfl)) (pe_op op_pow pe_int pe_int)) (pa_cons (pe_op op_sub (pe_op op_sub (pe_op op_pow pe_int pe_int) pe_int) (pe_op op_mod (pe_ix ix_seq (pv 0) pe_int (fun _ _ => rfl)) (pe_op op_pow pe_int pe_int))) pa_nil))))
  (pss_cons (ps_set (i := 4) sc_rests.nd rfl (Or.inl rfl) (pe_op op_mod (pe_op op_fdivW (pe_ix ix_seq (pv 0) pe_int (fun _ _ => rfl)) pe_int) pe_int))
  (pss_cutR (ps_if (pt_cmpR (op_eqA hr.units) (pv 4) pe_int (nomark _))
  (pss_one (ps_set (i := 2) sc_rests.nd rfl (Or.inl rfl) (pe_lst (pa_cons (pe_op op_and (pe_ix ix_seq (pv 2) pe_int (fun _ _ => rfl)) (pe_ix ix_seq (pv 3) pe_int (fun _ _ => rfl))) (pa_cons (pe_op op_and (pe_ix ix_seq (pv 2) pe_int (fun _ _ => rfl)) (pe_ix ix_seq (pv 3) pe_int (fun _ _ => rfl))) (pa_cons (pe_op op_and (pe_ix ix_seq (pv 2) pe_int (fun _ _ => rfl)) (pe_ix ix_seq (pv 3) pe_int (fun _ _ => rfl))) (pa_cons (pe_op op_and (pe_ix ix_seq (pv 2) pe_int (fun _ _ => rfl)) (pe_ix ix_seq (pv 3) pe_int (fun _ _ => rfl))) pa_nil)))))))
  pss_nil)
  (pss_cutR (ps_if (pt_cmpR (op_eqA hr.units) (pv 4) pe_int (nomark _))
  (pss_one (ps_set (i := 2) sc_rests.nd rfl (Or.inl rfl) (pe_lst (pa_cons pe_int (pa_cons pe_int (pa_cons pe_int (pa_cons pe_int pa_nil)))))))
  pss_nil)
  (pss_cutR (ps_if (pt_cmpR (op_eqA hr.units) (pv 4) pe_int (nomark _))
  (pss_one (ps_set (i := 2) sc_rests.nd rfl (Or.inl rfl) (pe_lst (pa_cons (pe_ix ix_seq (pv 2) pe_int (fun _ _ => rfl)) (pa_cons pe_int (pa_cons (pe_ix ix_seq (pv 2) pe_int (fun _ _ => rfl)) (pa_cons pe_int pa_nil)))))))
  pss_nil)
  (pss_one (ps_ret (pe_lc (own := [("_law_bits", 6)]) (by rfl) sc_rests.nd (pi_list (pv 2)) (blkOk_by (N := n_rests) (sc := defScope s_rests) (by decide +kernel)) (fun _ _ _ _ _ => (pg_name (i := 6) sc_rests.nd rfl (Or.inl rfl))) (fun _ _ _ _ _ => pts_nil) (fun _ _ _ _ _ => (pe_op op_and (pv 6) (pe_op op_sub (pe_op op_sub (pe_op op_pow pe_int pe_int) pe_int) (pv 1)))))))))))))
theorem ok_two {f : Addr} {fd : FuncData} (F : Fun K "_law_two" "_law_two" s_two f fd) (T : Txt K mg G) (C_rests : Cal P w K mg base CX0 "_law_rests" 1 ["_law_cells", "_law_bit"] [] (sp_rests K)) : FnOk P w K mg base CX0 2 f fd ["_law_cells"] (sp_two K) := by
  refine F.ok sc_two (fun vs H Q E h => len_two h) (fun cdv A outer s H vs Q E hr h => ⟨t_two K, ?_, r_two h⟩)
  exact (pss_cons (ps_set (i := 1) sc_two.nd rfl (Or.inl rfl) (pe_op op_shl pe_int (pe_op op_mod (pe_ix ix_seq (pv 0) pe_int (fun _ _ => rfl)) pe_int)))
  (pss_cons (ps_set (i := 2) sc_two.nd rfl (Or.inl rfl) (pe_cal C_rests (hr.mono (by decide)) .nil (by rfl) pass0 (pa_cons (pv 0) (pa_cons (pv 1) pa_nil))))
  (pss_cons (ps_set (i := 3) sc_two.nd rfl (Or.inl rfl) (pe_lst (pa_cons (pe_op op_mod (pe_op op_fdivW (pe_ix ix_seq (pv 0) pe_int (fun _ _ => rfl)) pe_int) pe_int) (pa_cons (pe_op op_mod (pe_op op_fdivW (pe_ix ix_seq (pv 0) pe_int (fun _ _ => rfl)) pe_int) pe_int) pa_nil))))
  (pss_cons (ps_set (i := 4) sc_two.nd rfl (Or.inl rfl) (pe_lst (pa_cons (pe_op op_mod (pe_ix ix_seq (pv 0) pe_int (fun _ _ => rfl)) (pe_op op_pow pe_int pe_int)) (pa_cons (pe_op op_mod (pe_op op_fdivW (pe_ix ix_seq (pv 0) pe_int (fun _ _ => rfl)) pe_int) (pe_op op_pow pe_int pe_int)) pa_nil))))
  (pss_cutR (ps_if (pt_cmpR (op_eqA hr.units) (pe_op op_mod (pe_ix ix_seq (pv 0) pe_int (fun _ _ => rfl)) pe_int) pe_int (nomark _))
  (pss_one (ps_asg (pe_ix ix_seq (pv 4) pe_int (fun _ _ => rfl)) (pg_sub (pv 4) pe_int set_list)))
  pss_nil)
  (pss_cons (ps_set (i := 5) sc_two.nd rfl (Or.inl rfl) (pe_lst pa_nil))
  (pss_cons (ps_for PassesOwn.never rfl (pi_range1 (by rfl) T.b_range (pa_cons pe_int pa_nil)) (pg_name (i := 6) sc_two.nd rfl (Or.inl rfl))
  (pss_cons (ps_set (i := 7) sc_two.nd rfl (Or.inl rfl) (pe_op op_plus (pe_ix ix_seq (pv 2) (pe_op op_mul pe_int (pv 6)) (fun _ _ => rfl)) (pe_ix ix_seq (pe_lst (pa_cons pe_int (pa_cons (pv 1) (pa_cons pe_int pa_nil)))) (pe_ix ix_seq (pv 3) (pv 6) (fun _ _ => rfl)) (fun _ _ => rfl))))
  (pss_cons (ps_set (i := 8) sc_two.nd rfl (Or.inl rfl) (pe_op op_plus (pe_ix ix_seq (pv 2) (pe_op op_plus (pe_op op_mul pe_int (pv 6)) pe_int) (fun _ _ => rfl)) (pe_ix ix_seq (pe_lst (pa_cons pe_int (pa_cons pe_int (pa_cons (pv 1) pa_nil)))) (pe_ix ix_seq (pv 3) (pv 6) (fun _ _ => rfl)) (fun _ _ => rfl))))
  (pss_one (ps_expr (pe_bm PySem.F.plainAttrs_list PySem.F.slot_list_append PySem.F.type_list_append mt_append (pv 5) (pa_cons (pe_tup (pa_cons (pe_ix ix_seq (pv 4) (pv 6) (fun _ _ => rfl)) (pa_cons (pv 7) (pa_cons (pv 8) pa_nil)))) pa_nil)))))))
  (pss_one (ps_ret (pv 5))))))))))
theorem ok_told_k02 {f : Addr} {fd : FuncData} (F : Fun K "_law_told" "_law_told" s_told_k02 f fd) (T : Txt K mg G) (C_clash : Cal P w K mg base CX0 "clash" 1 ["one", "other"] [] (sp_clash K)) (C_due_k02 : Cal P w K mg base CX0 "_law_due" 1 ["_law_one", "_law_other"] [] (sp_due_k02 K)) : FnOk P w K mg base CX0 2 f fd ["_law_one", "_law_other"] (sp_told_k02 K) := by
  refine F.ok sc_told_k02 (fun vs H Q E h => len_told_k02 h) (fun cdv A outer s H vs Q E hr h => ⟨t_told_k02 K, ?_, r_told_k02 h⟩)
  exact (pss_cons (ps_set (i := 2) sc_told_k02.nd rfl (Or.inl rfl) (pe_cal C_clash (hr.mono (by decide)) .nil (by rfl) pass0 (pa_cons (pv 0) (pa_cons (pv 1) pa_nil))))
  (pss_one (ps_ret (pe_and (pe_callB call_isi (by rfl) T.b_isinstance bt_isinstance (pa_cons (pv 2) (pa_cons (pe_bltn (v := .ty "bool") (by rfl) T.b_bool bt_bool (by rfl)) pa_nil))) (pe_one (pe_cmpR (op_eqA hr.units) (pv 2) (pe_cal C_due_k02 (hr.mono (by decide)) .nil (by rfl) pass0 (pa_cons (pv 0) (pa_cons (pv 1) pa_nil))) (nomark _)))))))
theorem ok_pair {f : Addr} {fd : FuncData} (F : Fun K "_law_pair" "_law_pair" s_pair f fd) (T : Txt K mg G) (C_two : Cal P w K mg base CX0 "_law_two" 2 ["_law_cells"] [] (sp_two K)) (C_told_k02 : Cal P w K mg base CX0 "_law_told" 2 ["_law_one", "_law_other"] [] (sp_told_k02 K)) (C_clash : Cal P w K mg base CX0 "clash" 1 ["one", "other"] [] (sp_clash K)) : FnOk P w K mg base CX0 3 f fd ["_law_cells"] (sp_pair K) := by
  refine F.ok sc_pair (fun vs H Q E h => len_pair h) (fun cdv A outer s H vs Q E hr h => ⟨t_pair K, ?_, r_pair h⟩)
  exact (pss_cons (ps_asg (pe_cal C_two (hr.mono (by decide)) .nil (by rfl) pass0 (pa_cons (pv 0) pa_nil)) (pg_lst rfl (pgs_cons (pg_name (i := 1) sc_pair.nd rfl (Or.inl rfl)) (pgs_cons (pg_name (i := 2) sc_pair.nd rfl (Or.inl rfl)) pgs_nil))))
  (pss_cons (ps_for PassesOwn.never rfl (pi_range1 (by rfl) T.b_range (pa_cons pe_int pa_nil)) (pg_name (i := 3) sc_pair.nd rfl (Or.inl rfl))
  (pss_cons (ps_if (PW.pt (pw_or (pt_not (pt_val (pe_cal C_told_k02 (hr.mono (by decide)) .nil (by rfl) pass0 (pa_cons (pv 1) (pa_cons (pv 2) pa_nil))))) (pw_or1 (pt_not (pt_val (pe_cal C_told_k02 (hr.mono (by decide)) .nil (by rfl) pass0 (pa_cons (pv 2) (pa_cons (pv 1) pa_nil))))))))
  (pss_one (ps_ret pe_bl))
  pss_nil)
  (pss_one (ps_for PassesOwn.never rfl (pi_list (pe_lst (pa_cons (pv 1) (pa_cons (pv 2) pa_nil)))) (pg_name (i := 4) sc_pair.nd rfl (Or.inl rfl))
  (pss_cons (ps_set (i := 5) sc_pair.nd rfl (Or.inl rfl) (pe_cal C_clash (hr.mono (by decide)) .nil (by rfl) pass0 (pa_cons (pv 4) (pa_cons (pv 4) pa_nil))))
  (pss_one (ps_if (PW.pt (pw_or (pt_not (pt_val (pe_callB call_isi (by rfl) T.b_isinstance bt_isinstance (pa_cons (pv 5) (pa_cons (pe_bltn (v := .ty "bool") (by rfl) T.b_bool bt_bool (by rfl)) pa_nil))))) (pw_or1 (pt_cmpR (op_neA hr.units) (pv 5) (pe_cmpR op_gt (pe_ix ix_seq (pv 4) pe_int (fun _ _ => rfl)) pe_int (nomark _)) (nomark _)))))
  (pss_one (ps_ret pe_bl))
  pss_nil)))))))
  (pss_one (ps_ret pe_bl))))
theorem ok_law_k02 {f : Addr} {fd : FuncData} (F : Fun K "law" "law" s_law_k02 f fd) (T : Txt K mg G) (C_pair : Cal P w K mg base CX0 "_law_pair" 3 ["_law_cells"] [] (sp_pair K)) (C_cell_at : Cal P w K mg base CX0 "_law_cell_at" 1 ["_law_script", "_law_k"] [] (sp_cell_at K)) : FnOk P w K mg base CX0 4 f fd ["_law_script"] (sp_law K) := by
  refine F.ok sc_law_k02 (fun vs H Q E h => len_law_k02 h) (fun cdv A outer s H vs Q E hr h => ⟨t_law_k02 K, ?_, r_law_k02 h⟩)
  exact (pss_cons (ps_for PassesOwn.never rfl (pi_range3 (by rfl) T.b_range (pa_cons pe_int (pa_cons (pe_op op_plus (pe_callB call_len_seq (by rfl) T.b_len bt_len (pa_cons (pe_slice sl_any (pv 0) po_none (po_some pe_int)) pa_nil)) pe_int) (pa_cons pe_int pa_nil)))) (pg_name (i := 1) sc_law_k02.nd rfl (Or.inr rfl))
  (pss_one (ps_if (pt_not (pt_val (pe_cal C_pair (hr.mono (by decide)) .nil (by rfl) pass0 (pa_cons (pe_lc (own := [("_law_j", 2)]) (by rfl) sc_law_k02.nd (pi_range1 (by rfl) T.b_range (pa_cons pe_int pa_nil)) (blkOk_by (N := n_law_k02) (sc := defScope s_law_k02) (by decide +kernel)) (fun _ _ _ _ _ => (pg_name (i := 2) sc_law_k02.nd rfl (Or.inl rfl))) (fun _ _ _ _ _ => pts_nil) (fun _ _ _ _ _ => (pe_cal C_cell_at (hr.mono (by decide)) .nil (by rfl) pass0 (pa_cons (pe_slice sl_any (pv 0) po_none (po_some pe_int)) (pa_cons (pe_op op_plus (pv 1) (pv 2)) pa_nil))))) pa_nil))))
  (pss_one (ps_ret pe_bl))
  pss_nil)))
  (pss_one (ps_ret pe_bl)))
end
theorem all_mk {l : PySem.W.OpenLaw} {w : World} {K : PySem.W.Frag} {h : Heap} {mg : Str → Option Value} {fa : Addr} (X : K.In h) (Gx : h.Ns mainGlobals mg) (hfa : mg "law" = some (.ref fa))
    {f_clash f_cell_at f_due_k02 f_rests f_two f_told_k02 f_pair f_law_k02 : Addr}
    {od0 an0 : Option Addr} {sl0 : Array (Option Value)} {oc0 kV0 dc0 pm0 cd0 ct0 : Value}
    {od1 an1 : Option Addr} {sl1 : Array (Option Value)} {oc1 kV1 dc1 pm1 cd1 ct1 : Value}
    {od2 an2 : Option Addr} {sl2 : Array (Option Value)} {oc2 kV2 dc2 pm2 cd2 ct2 : Value}
    {od3 an3 : Option Addr} {sl3 : Array (Option Value)} {oc3 kV3 dc3 pm3 cd3 ct3 : Value}
    {od4 an4 : Option Addr} {sl4 : Array (Option Value)} {oc4 kV4 dc4 pm4 cd4 ct4 : Value}
    {od5 an5 : Option Addr} {sl5 : Array (Option Value)} {oc5 kV5 dc5 pm5 cd5 ct5 : Value}
    {od6 an6 : Option Addr} {sl6 : Array (Option Value)} {oc6 kV6 dc6 pm6 cd6 ct6 : Value}
    {od7 an7 : Option Addr} {sl7 : Array (Option Value)} {oc7 kV7 dc7 pm7 cd7 ct7 : Value}
    (a0 : PySem.W.nsIn K mainGlobals "clash" = some (some (.ref f_clash)))
    (l0 : K.lookup f_clash = some ⟨oc0, od0, .func (PySem.W.fnOf "clash" "clash" (defArgs s_clash) (defBody s_clash) (defScope s_clash) .none kV0 dc0 pm0 an0 cd0 ct0), sl0⟩)
    (c0 : PySem.W.codeIn K cd0 "clash" = true)
    (k0 : PySem.W.keepIn K (.ref f_clash) = true)
    (a1 : PySem.W.nsIn K mainGlobals "_law_cell_at" = some (some (.ref f_cell_at)))
    (l1 : K.lookup f_cell_at = some ⟨oc1, od1, .func (PySem.W.fnOf "_law_cell_at" "_law_cell_at" (defArgs s_cell_at) (defBody s_cell_at) (defScope s_cell_at) .none kV1 dc1 pm1 an1 cd1 ct1), sl1⟩)
    (c1 : PySem.W.codeIn K cd1 "_law_cell_at" = true)
    (k1 : PySem.W.keepIn K (.ref f_cell_at) = true)
    (a2 : PySem.W.nsIn K mainGlobals "_law_due" = some (some (.ref f_due_k02)))
    (l2 : K.lookup f_due_k02 = some ⟨oc2, od2, .func (PySem.W.fnOf "_law_due" "_law_due" (defArgs s_due_k02) (defBody s_due_k02) (defScope s_due_k02) .none kV2 dc2 pm2 an2 cd2 ct2), sl2⟩)
    (c2 : PySem.W.codeIn K cd2 "_law_due" = true)
    (k2 : PySem.W.keepIn K (.ref f_due_k02) = true)
    (a3 : PySem.W.nsIn K mainGlobals "_law_rests" = some (some (.ref f_rests)))
    (l3 : K.lookup f_rests = some ⟨oc3, od3, .func (PySem.W.fnOf "_law_rests" "_law_rests" (defArgs s_rests) (defBody s_rests) (defScope s_rests) .none kV3 dc3 pm3 an3 cd3 ct3), sl3⟩)
    (c3 : PySem.W.codeIn K cd3 "_law_rests" = true)
    (k3 : PySem.W.keepIn K (.ref f_rests) = true)
    (a4 : PySem.W.nsIn K mainGlobals "_law_two" = some (some (.ref f_two)))
    (l4 : K.lookup f_two = some ⟨oc4, od4, .func (PySem.W.fnOf "_law_two" "_law_two" (defArgs s_two) (defBody s_two) (defScope s_two) .none kV4 dc4 pm4 an4 cd4 ct4), sl4⟩)
    (c4 : PySem.W.codeIn K cd4 "_law_two" = true)
    (k4 : PySem.W.keepIn K (.ref f_two) = true)
    (a5 : PySem.W.nsIn K mainGlobals "_law_told" = some (some (.ref f_told_k02)))
    (l5 : K.lookup f_told_k02 = some ⟨oc5, od5, .func (PySem.W.fnOf "_law_told" "_law_told" (defArgs s_told_k02) (defBody s_told_k02) (defScope s_told_k02) .none kV5 dc5 pm5 an5 cd5 ct5), sl5⟩)
    (c5 : PySem.W.codeIn K cd5 "_law_told" = true)
    (k5 : PySem.W.keepIn K (.ref f_told_k02) = true)
    (a6 : PySem.W.nsIn K mainGlobals "_law_pair" = some (some (.ref f_pair)))
    (l6 : K.lookup f_pair = some ⟨oc6, od6, .func (PySem.W.fnOf "_law_pair" "_law_pair" (defArgs s_pair) (defBody s_pair) (defScope s_pair) .none kV6 dc6 pm6 an6 cd6 ct6), sl6⟩)
    (c6 : PySem.W.codeIn K cd6 "_law_pair" = true)
    (k6 : PySem.W.keepIn K (.ref f_pair) = true)
    (a7 : PySem.W.nsIn K mainGlobals "law" = some (some (.ref f_law_k02)))
    (l7 : K.lookup f_law_k02 = some ⟨oc7, od7, .func (PySem.W.fnOf "law" "law" (defArgs s_law_k02) (defBody s_law_k02) (defScope s_law_k02) .none kV7 dc7 pm7 an7 cd7 ct7), sl7⟩)
    (c7 : PySem.W.codeIn K cd7 "law" = true)
    (k7 : PySem.W.keepIn K (.ref f_law_k02) = true)
    (z_bool : PySem.W.nsIn K mainGlobals "bool" = some none)
    (z_isinstance : PySem.W.nsIn K mainGlobals "isinstance" = some none)
    (z_len : PySem.W.nsIn K mainGlobals "len" = some none)
    (z_range : PySem.W.nsIn K mainGlobals "range" = some none)
    : ∃ fd : FuncData, (∀ (s : Shared) (v : Value), BindsTo s fd ⟨[v], []⟩ [("_law_script", v)]) ∧ ∀ base : Heap, K.In base → base.Ns mainGlobals mg → FnOk l.prog w K mg base CX0 4 fa fd ["_law_script"] (sp_law K) := by
  have e := hfa.symm.trans (PySem.W.mg_of X Gx a7)
  cases e
  obtain ⟨G, hG⟩ : ∃ G : Str → Addr, G = fun x => match mg x with | some (.ref a) => a | _ => 0 := ⟨_, rfl⟩
  have T : Txt K mg G := { triv := trivial, b_bool := PySem.W.mg_none_of X Gx z_bool, b_isinstance := PySem.W.mg_none_of X Gx z_isinstance, b_len := PySem.W.mg_none_of X Gx z_len, b_range := PySem.W.mg_none_of X Gx z_range }
  have F_clash := fun_mk (st := s_clash) l0 c0 k0
  have F_cell_at := fun_mk (st := s_cell_at) l1 c1 k1
  have F_due_k02 := fun_mk (st := s_due_k02) l2 c2 k2
  have F_rests := fun_mk (st := s_rests) l3 c3 k3
  have F_two := fun_mk (st := s_two) l4 c4 k4
  have F_told_k02 := fun_mk (st := s_told_k02) l5 c5 k5
  have F_pair := fun_mk (st := s_pair) l6 c6 k6
  have F_law_k02 := fun_mk (st := s_law_k02) l7 c7 k7
  have b_clash := F_clash.binds (ps := ["one", "other"]) fun _ _ _ _ _ _ us hl => match us, hl with | [_, _], _ => rfl
  have b_cell_at := F_cell_at.binds (ps := ["_law_script", "_law_k"]) fun _ _ _ _ _ _ us hl => match us, hl with | [_, _], _ => rfl
  have b_due_k02 := F_due_k02.binds (ps := ["_law_one", "_law_other"]) fun _ _ _ _ _ _ us hl => match us, hl with | [_, _], _ => rfl
  have b_rests := F_rests.binds (ps := ["_law_cells", "_law_bit"]) fun _ _ _ _ _ _ us hl => match us, hl with | [_, _], _ => rfl
  have b_two := F_two.binds (ps := ["_law_cells"]) fun _ _ _ _ _ _ us hl => match us, hl with | [_], _ => rfl
  have b_told_k02 := F_told_k02.binds (ps := ["_law_one", "_law_other"]) fun _ _ _ _ _ _ us hl => match us, hl with | [_, _], _ => rfl
  have b_pair := F_pair.binds (ps := ["_law_cells"]) fun _ _ _ _ _ _ us hl => match us, hl with | [_], _ => rfl
  refine ⟨PySem.W.fnOf "law" "law" (defArgs s_law_k02) (defBody s_law_k02) (defScope s_law_k02) .none kV7 dc7 pm7 an7 cd7 ct7, fun s v => .of_eq rfl, fun base _ _ => ?_⟩
  have C_clash : Cal l.prog w K mg base CX0 "clash" 1 ["one", "other"] [] (sp_clash K) := ⟨_, _, ok_clash F_clash T , PySem.W.mg_of X Gx a0, k0, b_clash⟩
  have C_cell_at : Cal l.prog w K mg base CX0 "_law_cell_at" 1 ["_law_script", "_law_k"] [] (sp_cell_at K) := ⟨_, _, ok_cell_at F_cell_at T , PySem.W.mg_of X Gx a1, k1, b_cell_at⟩
  have C_due_k02 : Cal l.prog w K mg base CX0 "_law_due" 1 ["_law_one", "_law_other"] [] (sp_due_k02 K) := ⟨_, _, ok_due_k02 F_due_k02 T , PySem.W.mg_of X Gx a2, k2, b_due_k02⟩
  have C_rests : Cal l.prog w K mg base CX0 "_law_rests" 1 ["_law_cells", "_law_bit"] [] (sp_rests K) := ⟨_, _, ok_rests F_rests T , PySem.W.mg_of X Gx a3, k3, b_rests⟩
  have C_two : Cal l.prog w K mg base CX0 "_law_two" 2 ["_law_cells"] [] (sp_two K) := ⟨_, _, ok_two F_two T C_rests, PySem.W.mg_of X Gx a4, k4, b_two⟩
  have C_told_k02 : Cal l.prog w K mg base CX0 "_law_told" 2 ["_law_one", "_law_other"] [] (sp_told_k02 K) := ⟨_, _, ok_told_k02 F_told_k02 T C_clash C_due_k02, PySem.W.mg_of X Gx a5, k5, b_told_k02⟩
  have C_pair : Cal l.prog w K mg base CX0 "_law_pair" 3 ["_law_cells"] [] (sp_pair K) := ⟨_, _, ok_pair F_pair T C_two C_told_k02 C_clash, PySem.W.mg_of X Gx a6, k6, b_pair⟩
  exact ok_law_k02 F_law_k02 T C_pair C_cell_at
theorem walk {l : PySem.W.OpenLaw} {q : Program} {loose : List Str} {XP : (Str → Option Value) → Heap → Prop} {YP : World → Heap → Prop} {d : DefRec} {K : Params → PySem.W.Frag} (hn : l.most = some 63) (hdf : d.params.defaults = [])
    (hY : ∀ (w : World) (h : Heap), YP w h → (K w.params).In h)
    (F : ∀ (w : World) (mg : Str → Option Value) (fa : Addr) (h : Heap), (K w.params).In h → h.Ns mainGlobals mg → mg d.name = some (.ref fa) →
      ∃ fd : FuncData, (∀ (s : Shared) (u : Value), BindsTo s fd ⟨[u], []⟩ [("_law_script", u)]) ∧ ∀ base : Heap, (K w.params).In base → base.Ns mainGlobals mg → FnOk l.prog w (K w.params) mg base CX0 4 fa fd ["_law_script"] (sp_law (K w.params))) :
    PySem.W.WalkO q loose XP YP l.row.toRowW d [] (fun f vs => PySem.call f vs) :=
  L2.walk_of (n := 63) (k := 4) (x := "_law_script") (CX := fun _ => CX0) (sp := fun w => sp_law (K w.params)) hn (by decide) hdf ⟨rfl, by decide, by decide⟩ hY F (fun _ _ a ns hl _ hS => ⟨a, ns, rfl, hS, hl, fun _ => rfl⟩) fun _ _ _ _ _ z => z
end Rk02
open PySem PySem.W PyProof.Rows
set_option maxRecDepth 100000 in
set_option maxHeartbeats 0 in
theorem PySem.Challenge.cw_passby_k02_clash_holds : PySem.Challenge.rw_passby_k02_clash.Holds := by
  w_on; o_law; k_head; (case hw => w_witness2)
  k_fill
  refine Rk02.walk (l := PySem.Challenge.rw_passby_k02_clash) rfl rfl (fun w h Y => PySem.W.kIn_of Y) ?F
  case F =>
    intro w mg fa h KX Gx hmg
    refine' Rk02.all_mk KX Gx hmg ?a0 ?l0 ?c0 ?k0 ?a1 ?l1 ?c1 ?k1 ?a2 ?l2 ?c2 ?k2 ?a3 ?l3 ?c3 ?k3 ?a4 ?l4 ?c4 ?k4 ?a5 ?l5 ?c5 ?k5 ?a6 ?l6 ?c6 ?k6 ?a7 ?l7 ?c7 ?k7 ?z_bool ?z_isinstance ?z_len ?z_range
    (case a0 => k_is); (case l0 => k_is); (case c0 => k_is); (case k0 => k_is); (case a1 => k_is); (case l1 => k_is)
    (case c1 => k_is); (case k1 => k_is); (case a2 => k_is); (case l2 => k_is); (case c2 => k_is); (case k2 => k_is)
    (case a3 => k_is); (case l3 => k_is); (case c3 => k_is); (case k3 => k_is); (case a4 => k_is); (case l4 => k_is)
    (case c4 => k_is); (case k4 => k_is); (case a5 => k_is); (case l5 => k_is); (case c5 => k_is); (case k5 => k_is)
    (case a6 => k_is); (case l6 => k_is); (case c6 => k_is); (case k6 => k_is); (case a7 => k_is); (case l7 => k_is)
    (case c7 => k_is); (case k7 => k_is); (case z_bool => k_is); (case z_isinstance => k_is); (case z_len => k_is); (case z_range => k_is)
#print axioms PySem.Challenge.cw_passby_k02_clash_holds
