import PyProof.Rows.All
import Wide.All
import OpenK.AllK
import Wide.FinOn
import HandS.ForMost
import HandS.Exc
import HandS.TryOnly
import HandS.ExcOwn
import HandS.WordsExc
import HandS.Evl
import HandS.Steps
import HandS.More
import HandS.IsInst
import HandS.Codes
import HandS.Conv
import HandS.Walk
import HandS.Zip
import HandS.Replace
import PySem.Challenge.RW_retryhall_k02_numbers_read
set_option Elab.async false
set_option linter.all false
set_option maxRecDepth 100000
set_option maxHeartbeats 2000000
namespace RT
open PySem L2
abbrev Ex := Evl.Ex
structure Ad where
  K : PySem.W.Frag
  cPart : Addr := 0
  cLet : Addr := 0
  cReckon : Addr := 0
  cTake : Addr := 0
  cPut : Addr := 0
  cIf : Addr := 0
  cEither : Addr := 0
  cTry : Addr := 0
  cThrow : Addr := 0
  cWait : Addr := 0
  cLog : Addr := 0
  cDoer : Addr := 0
  cHand : Addr := 0
  cHall : Addr := 0
  cDesk : Addr := 0
  cHallError : Addr := 0
  cNoDeed : Addr := 0
  cNoBoxes : Addr := 0
  cNoHands : Addr := 0
  cNoHand : Addr := 0
  cNoRow : Addr := 0
  aSUMS : Addr := 0
def spLaw (K : PySem.W.Frag) : Sp := fun vs H Q _ => ∃ (a : Addr) (ns : List Int), vs = [.ref a] ∧ SqL K H a (ns.map V.int) ∧ ns.length ≤ 63 ∧ ∀ H', Q (.bl true) H'
@[irreducible] def dB (p : Prop) [Decidable p] : Bool := decide p
theorem dB_eq (p : Prop) [Decidable p] : dB p = decide p := by unfold dB; rfl
theorem dB_t {p : Prop} [Decidable p] (h : p) : dB p = true := by rw [dB_eq]; exact decide_eq_true h
theorem dB_f {p : Prop} [Decidable p] (h : ¬ p) : dB p = false := by rw [dB_eq]; exact decide_eq_false h
theorem dB_congr {p q : Prop} [Decidable p] [Decidable q] (h : p ↔ q) : dB p = dB q := by rw [dB_eq, dB_eq]; exact decide_eq_decide.mpr h
theorem of_dB {p : Prop} [Decidable p] (h : dB p = true) : p := by rw [dB_eq] at h; exact of_decide_eq_true h
theorem of_dB_f {p : Prop} [Decidable p] (h : dB p = false) : ¬ p := by rw [dB_eq] at h; exact of_decide_eq_false h
theorem nB_t {p : Prop} [Decidable p] (h : ¬ p) : (!dB p) = true := by rw [dB_f h]; rfl
theorem nB_f {p : Prop} [Decidable p] (h : p) : (!dB p) = false := by rw [dB_t h]; rfl
theorem dB_iff {p : Prop} [Decidable p] : dB p = true ↔ p := ⟨of_dB, dB_t⟩
theorem dB_iff_f {p : Prop} [Decidable p] : dB p = false ↔ ¬ p := ⟨of_dB_f, dB_f⟩
abbrev aAdd := tOp (rI0 fun i j => V.int (i + j))
abbrev aSub := tOp (rI0 fun i j => V.int (i - j))
abbrev aMul := tOp (rI CMul fun i j => V.int (i * j))
abbrev aMod := tOp (rI (fun _ j => 0 < j) fun i j => V.int (i % j))
abbrev aDiv := tOp (rI CDiv fun i j => V.int (i / j))
abbrev aPow := tOp (rI CPow fun i j => V.int (i ^ j.toNat))
abbrev aNeg := tUn (rU fun i => V.int (-i))
def rAddS : R2 := fun x y H Q => ∃ i j, x = .str i ∧ y = .str j ∧ i.length + j.length ≤ sizeLine ∧ Q (.str (i ++ j)) H
abbrev aAddS := tOp rAddS
abbrev aCat := tOp rCat
abbrev aCatT (K : PySem.W.Frag) := tOp (rCatT K)
abbrev aRep := tOp rRep
def rLt : R2 := rI0 fun i j => V.bl (dB (i < j))
def rLe : R2 := rI0 fun i j => V.bl (dB (i ≤ j))
def rGt : R2 := rI0 fun i j => V.bl (dB (j < i))
def rGe : R2 := rI0 fun i j => V.bl (dB (j ≤ i))
def rLtS : R2 := fun x y H Q => ∃ i j, x = .str i ∧ y = .str j ∧ Q (.bl (dB (i.cps.toList < j.cps.toList))) H
def rLeS : R2 := fun x y H Q => ∃ i j, x = .str i ∧ y = .str j ∧ Q (.bl (!dB (j.cps.toList < i.cps.toList))) H
def rGtS : R2 := fun x y H Q => ∃ i j, x = .str i ∧ y = .str j ∧ Q (.bl (dB (j.cps.toList < i.cps.toList))) H
def rGeS : R2 := fun x y H Q => ∃ i j, x = .str i ∧ y = .str j ∧ Q (.bl (!dB (i.cps.toList < j.cps.toList))) H
def rLenStr : List V → Hp → VK → Prop := fun xs H Q => ∃ x, xs = [.str x] ∧ x.length ≤ sizeLine ∧ Q (.int (x.length : Nat)) H
def rLenD : List V → Hp → VK → Prop := fun xs H Q => ∃ a kvs, xs = [V.ref a] ∧ H a = some (.dK kvs) ∧ Q (.int kvs.length) H
def rIntS : List V → Hp → VK → Prop := fun xs H Q => ∃ a n, xs = [.str a] ∧ PySem.intText? a = some n ∧ a.length ≤ 640 ∧ Q (.int n) H
def rInt1 : List V → Hp → VK → Prop := fun xs H Q => (∃ i, xs = [.int i] ∧ Q (.int i) H) ∨ ∃ k, xs = [.bl k] ∧ Q (.int (if k then 1 else 0)) H
def rStrI : List V → Hp → VK → Prop := fun xs H Q => ∃ i, xs = [.int i] ∧ i.natAbs.log2 < 1920 ∧ Q (.str (toString i)) H
def rMin2 : List V → Hp → VK → Prop := fun xs H Q => ∃ i j, xs = [.int i, .int j] ∧ Q (.int (if j < i then j else i)) H
def rListOf (K : PySem.W.Frag) : List V → Hp → VK → Prop := fun xs H Q => ∃ p ys, xs = [.ref p] ∧ (SqL K H p ys ∨ SqT K H p ys) ∧ ∀ l, H l = none → Q (.ref l) (upd H l (.lst ys))
def rTupleOf (K : PySem.W.Frag) : List V → Hp → VK → Prop := fun xs H Q => ∃ p ys, xs = [.ref p] ∧ ((SqL K H p ys ∧ ∀ l, H l = none → Q (.ref l) (upd H l (.tup ys))) ∨ (SqT K H p ys ∧ Q (.ref p) H))
def rSortedD : List V → Hp → VK → Prop := fun xs H Q => ∃ (a : Addr) (kvs : List (Key × V)) (ks : List Int), xs = [.ref a] ∧ Rd H a (.dK kvs) ∧ kvs.map (·.1) = ks.map Sum.inl ∧ ks.length < 64 ∧
    ∀ (ys : List Int) (p : Addr), ys.Perm ks → ys.Pairwise (· ≤ ·) → H p = none → Q (.ref p) (upd H p (.lst (ys.map V.int)))
def rJoin (K : PySem.W.Frag) : V → List V → Hp → VK → Prop := (fun x xs H Q => ∃ a p, ∃ ys : List Str, x = .str a ∧ xs = [.ref p] ∧ (SqL K H p (ys.map V.str) ∨ SqT K H p (ys.map V.str)) ∧ (ys.map (·.length)).sum + ys.length * a.length ≤ 16777216 ∧ Q (.str (Txt.join a ys)) H)
abbrev aJoin (K : PySem.W.Frag) := tM1 (rJoin K)
def rSplit : V → List V → Hp → VK → Prop := (fun x xs H Q => ∃ a b, x = .str a ∧ xs = [.str b] ∧ (b.length == 0) = false ∧ a.length + 2 ≤ sizeLine ∧ rNewStrs (Txt.split a b) H Q)
abbrev aSplit := tM1 rSplit
def rIndexS : V → List V → Hp → VK → Prop := (fun x xs H Q => ∃ a b i rest, x = .str a ∧ xs = [.str b] ∧ Builtin.Str.occurrences a b 0 a.length 1 = i :: rest ∧ Q (.int (i : Nat)) H)
abbrev aIndexS := tM1 rIndexS
def rFindS : V → List V → Hp → VK → Prop := (fun x xs H Q => ∃ a b, x = .str a ∧ xs = [.str b] ∧ Q (.int (Txt.find a b)) H)
abbrev aFind := tM1 rFindS
section
variable {X : Cx}
theorem o_lt : OpR X (compareOp .Lt) rLt := by unfold rLt; simp only [dB_eq]; exact op_lt
theorem o_le : OpR X (compareOp .LtE) rLe := by unfold rLe; simp only [dB_eq]; exact op_le
theorem o_gt : OpR X (compareOp .Gt) rGt := by unfold rGt; simp only [dB_eq]; exact op_gt
theorem o_ge : OpR X (compareOp .GtE) rGe := by unfold rGe; simp only [dB_eq]; exact op_ge
theorem o_lt_str : OpR X (compareOp .Lt) rLtS := by unfold rLtS; simp only [dB_eq]; exact op_lt_str
theorem o_le_str : OpR X (compareOp .LtE) rLeS := by unfold rLeS; simp only [dB_eq]; exact op_le_str
theorem o_gt_str : OpR X (compareOp .Gt) rGtS := by unfold rGtS; simp only [dB_eq]; exact op_gt_str
theorem o_ge_str : OpR X (compareOp .GtE) rGeS := by unfold rGeS; simp only [dB_eq]; exact op_ge_str
end
theorem kit_int_int : kitB "int" "int" = some true := by decide +kernel
theorem kit_int_bool : kitB "int" "bool" = some false := by decide +kernel
theorem kit_int_str : kitB "int" "str" = some false := by decide +kernel
theorem kit_int_list : kitB "int" "list" = some false := by decide +kernel
theorem kit_int_tuple : kitB "int" "tuple" = some false := by decide +kernel
theorem kit_int_dict : kitB "int" "dict" = some false := by decide +kernel
theorem kit_bool_int : kitB "bool" "int" = some true := by decide +kernel
theorem kit_bool_bool : kitB "bool" "bool" = some true := by decide +kernel
theorem kit_bool_str : kitB "bool" "str" = some false := by decide +kernel
theorem kit_bool_list : kitB "bool" "list" = some false := by decide +kernel
theorem kit_bool_tuple : kitB "bool" "tuple" = some false := by decide +kernel
theorem kit_bool_dict : kitB "bool" "dict" = some false := by decide +kernel
theorem kit_str_int : kitB "str" "int" = some false := by decide +kernel
theorem kit_str_bool : kitB "str" "bool" = some false := by decide +kernel
theorem kit_str_str : kitB "str" "str" = some true := by decide +kernel
theorem kit_str_list : kitB "str" "list" = some false := by decide +kernel
theorem kit_str_tuple : kitB "str" "tuple" = some false := by decide +kernel
theorem kit_str_dict : kitB "str" "dict" = some false := by decide +kernel
theorem kit_NoneType_int : kitB "NoneType" "int" = some false := by decide +kernel
theorem kit_NoneType_bool : kitB "NoneType" "bool" = some false := by decide +kernel
theorem kit_NoneType_str : kitB "NoneType" "str" = some false := by decide +kernel
theorem kit_NoneType_list : kitB "NoneType" "list" = some false := by decide +kernel
theorem kit_NoneType_tuple : kitB "NoneType" "tuple" = some false := by decide +kernel
theorem kit_NoneType_dict : kitB "NoneType" "dict" = some false := by decide +kernel
theorem kit_list_int : kitB "list" "int" = some false := by decide +kernel
theorem kit_list_bool : kitB "list" "bool" = some false := by decide +kernel
theorem kit_list_str : kitB "list" "str" = some false := by decide +kernel
theorem kit_list_list : kitB "list" "list" = some true := by decide +kernel
theorem kit_list_tuple : kitB "list" "tuple" = some false := by decide +kernel
theorem kit_list_dict : kitB "list" "dict" = some false := by decide +kernel
theorem kit_tuple_int : kitB "tuple" "int" = some false := by decide +kernel
theorem kit_tuple_bool : kitB "tuple" "bool" = some false := by decide +kernel
theorem kit_tuple_str : kitB "tuple" "str" = some false := by decide +kernel
theorem kit_tuple_list : kitB "tuple" "list" = some false := by decide +kernel
theorem kit_tuple_tuple : kitB "tuple" "tuple" = some true := by decide +kernel
theorem kit_tuple_dict : kitB "tuple" "dict" = some false := by decide +kernel
theorem kit_dict_int : kitB "dict" "int" = some false := by decide +kernel
theorem kit_dict_bool : kitB "dict" "bool" = some false := by decide +kernel
theorem kit_dict_str : kitB "dict" "str" = some false := by decide +kernel
theorem kit_dict_list : kitB "dict" "list" = some false := by decide +kernel
theorem kit_dict_tuple : kitB "dict" "tuple" = some false := by decide +kernel
theorem kit_dict_dict : kitB "dict" "dict" = some true := by decide +kernel
section
variable {K : PySem.W.Frag} {σ σ' : L2.St} {H H' : Hp} {ta tb te tx : TE} {x y z v : V} {r : R2} {Q : VK} {D : Ends} {t u c : TT} {ts tu tw : TS} {g : TG} {i j : Nat}
theorem w_var (h : σ[i]? = some (some v)) (q : Q v H) : tVar i σ H Q := ⟨v, h, q⟩
theorem w_c (q : Q v H) : tC v σ H Q := q
theorem w_op (q : ta σ H fun x H1 => tb σ H1 fun y H2 => r x y H2 Q) : tOp r ta tb σ H Q := q
theorem w_un {r : V → Hp → VK → Prop} (q : ta σ H fun x H1 => r x H1 Q) : tUn r ta σ H Q := q
theorem w_i0 {f : Int → Int → V} {a b : Int} (q : Q (f a b) H) : rI0 f (.int a) (.int b) H Q := ⟨a, b, rfl, rfl, q⟩
theorem w_i {C : Int → Int → Prop} {f : Int → Int → V} {a b : Int} (hc : C a b) (q : Q (f a b) H) : rI C f (.int a) (.int b) H Q := ⟨a, b, rfl, rfl, hc, q⟩
theorem w_u {f : Int → V} {a : Int} (q : Q (f a) H) : rU f (.int a) H Q := ⟨a, rfl, q⟩
theorem w_eqI {a b : Int} (q : Q (.bl (dB (a = b))) H) : rEq (.int a) (.int b) H Q := ⟨rfl, by simpa [dB_eq] using q⟩
theorem w_neI {a b : Int} (q : Q (.bl (!dB (a = b))) H) : rNe (.int a) (.int b) H Q := ⟨rfl, by simpa [dB_eq] using q⟩
theorem w_eqS {a b : Str} (q : Q (.bl (dB (a = b))) H) : rEq (.str a) (.str b) H Q := ⟨rfl, by simpa [dB_eq] using q⟩
theorem w_neS {a b : Str} (q : Q (.bl (!dB (a = b))) H) : rNe (.str a) (.str b) H Q := ⟨rfl, by simpa [dB_eq] using q⟩
theorem w_eq (h : scal x y = true) (q : Q (.bl (dB (x = y))) H) : rEq x y H Q := ⟨h, by rw [← dB_eq]; exact q⟩
theorem w_ne (h : scal x y = true) (q : Q (.bl (!dB (x = y))) H) : rNe x y H Q := ⟨h, by rw [← dB_eq]; exact q⟩
theorem w_isNN (q : Q (.bl true) H) : rIsN .non .non H Q := ⟨rfl, q⟩
theorem w_isNI {a : Int} (q : Q (.bl false) H) : rIsN (.int a) .non H Q := ⟨rfl, q⟩
theorem w_isNS {a : Str} (q : Q (.bl false) H) : rIsN (.str a) .non H Q := ⟨rfl, q⟩
theorem w_isNR {a : Addr} (q : Q (.bl false) H) : rIsN (.ref a) .non H Q := ⟨rfl, q⟩
theorem w_notNN (q : Q (.bl false) H) : rNotN .non .non H Q := ⟨rfl, q⟩
theorem w_notNI {a : Int} (q : Q (.bl true) H) : rNotN (.int a) .non H Q := ⟨rfl, q⟩
theorem w_notNS {a : Str} (q : Q (.bl true) H) : rNotN (.str a) .non H Q := ⟨rfl, q⟩
theorem w_notNR {a : Addr} (q : Q (.bl true) H) : rNotN (.ref a) .non H Q := ⟨rfl, q⟩

theorem w_i0B {p : Int → Int → Prop} [∀ i j, Decidable (p i j)] {a b : Int} (q : Q (.bl (dB (p a b))) H) : rI0 (fun i j => V.bl (dB (p i j))) (.int a) (.int b) H Q := ⟨a, b, rfl, rfl, q⟩
theorem w_lt {a b : Int} (q : Q (.bl (dB (a < b))) H) : rLt (.int a) (.int b) H Q := ⟨a, b, rfl, rfl, q⟩
theorem w_le {a b : Int} (q : Q (.bl (dB (a ≤ b))) H) : rLe (.int a) (.int b) H Q := ⟨a, b, rfl, rfl, q⟩
theorem w_gt {a b : Int} (q : Q (.bl (dB (b < a))) H) : rGt (.int a) (.int b) H Q := ⟨a, b, rfl, rfl, q⟩
theorem w_ge {a b : Int} (q : Q (.bl (dB (b ≤ a))) H) : rGe (.int a) (.int b) H Q := ⟨a, b, rfl, rfl, q⟩
theorem w_ltS {a b : Str} (q : Q (.bl (dB (a.cps.toList < b.cps.toList))) H) : rLtS (.str a) (.str b) H Q := ⟨a, b, rfl, rfl, q⟩
theorem w_leS {a b : Str} (q : Q (.bl (!dB (b.cps.toList < a.cps.toList))) H) : rLeS (.str a) (.str b) H Q := ⟨a, b, rfl, rfl, q⟩
theorem w_gtS {a b : Str} (q : Q (.bl (dB (b.cps.toList < a.cps.toList))) H) : rGtS (.str a) (.str b) H Q := ⟨a, b, rfl, rfl, q⟩
theorem w_geS {a b : Str} (q : Q (.bl (!dB (a.cps.toList < b.cps.toList))) H) : rGeS (.str a) (.str b) H Q := ⟨a, b, rfl, rfl, q⟩
theorem w_addS {a b : Str} (h : a.length + b.length ≤ sizeLine) (q : Q (.str (a ++ b)) H) : rAddS (.str a) (.str b) H Q := ⟨a, b, rfl, rfl, h, q⟩
theorem w_inS {c : Nat} {w : Str} (q : Q (.bl (dB (c ∈ w.cps.toList))) H) : rInS (.str ⟨#[c]⟩) (.str w) H Q := ⟨c, w, rfl, rfl, by rw [← dB_eq]; exact q⟩
theorem w_ninS {c : Nat} {w : Str} (q : Q (.bl (!dB (c ∈ w.cps.toList))) H) : rNotInS (.str ⟨#[c]⟩) (.str w) H Q := ⟨c, w, rfl, rfl, by rw [← dB_eq]; exact q⟩
theorem w_test {Q : Bool → Hp → Prop} (q : te σ H fun x H' => ∃ k, x = .bl k ∧ Q k H') : tTest te σ H Q := q
theorem w_tB {Q : Bool → Hp → Prop} (q : te σ H fun x H' => ∃ k, x = .bl k ∧ Q k H') : tB te σ H Q := q
theorem w_tru {Q : Bool → Hp → Prop} (q : te σ H fun x H' => ∃ k, TruV K x H' k ∧ Q k H') : tTru K te σ H Q := q
theorem w_bl {P : Bool → Prop} {b : Bool} (q : P b) : ∃ k, V.bl b = .bl k ∧ P k := ⟨b, rfl, q⟩
theorem w_int {P : Int → Prop} {b : Int} (q : P b) : ∃ k, V.int b = .int k ∧ P k := ⟨b, rfl, q⟩
theorem w_ref {P : Addr → Prop} {b : Addr} (q : P b) : ∃ k, V.ref b = .ref k ∧ P k := ⟨b, rfl, q⟩
theorem w_str {P : Str → Prop} {b : Str} (q : P b) : ∃ k, V.str b = .str k ∧ P k := ⟨b, rfl, q⟩
theorem w_and {Q : Bool → Hp → Prop} (q : t σ H fun c H1 => if c = true then u σ H1 Q else Q false H1) : tAnd t u σ H Q := q
theorem w_or {Q : Bool → Hp → Prop} (q : t σ H fun c H1 => if c = true then Q true H1 else u σ H1 Q) : tOr t u σ H Q := q
theorem w_not {Q : Bool → Hp → Prop} (q : t σ H fun c H1 => Q (!c) H1) : tNot t σ H Q := q
theorem w_andV (q : ta σ H fun x H1 => ∃ c, x = .bl c ∧ if c = true then tb σ H1 Q else Q (.bl false) H1) : tAndV ta tb σ H Q := q
theorem w_orV (q : ta σ H fun x H1 => ∃ c, x = .bl c ∧ if c = true then Q (.bl true) H1 else tb σ H1 Q) : tOrV ta tb σ H Q := q
theorem w_notV (q : ta σ H fun x H1 => ∃ c, x = .bl c ∧ Q (.bl (!c)) H1) : tNotV ta σ H Q := q
theorem w_ifE (q : t σ H fun c H1 => if c = true then ta σ H1 Q else tb σ H1 Q) : tIf t ta tb σ H Q := q
theorem w_chain {r r' : R2} {tc : TE} (q : ta σ H fun x H1 => tb σ H1 fun y H2 => r x y H2 fun z H3 => ∃ k, z = .bl k ∧ (if k = true then tc σ H3 fun w' H4 => r' y w' H4 Q else Q (.bl false) H3)) : tChain r r' ta tb tc σ H Q := q
theorem w_dec {p A B : Prop} [Decidable p] (h1 : p → A) (h2 : ¬ p → B) : if dB p = true then A else B := by
  by_cases h : p
  · rw [if_pos (dB_t h)]; exact h1 h
  · rw [if_neg (by rw [dB_f h]; exact Bool.false_ne_true)]; exact h2 h
theorem w_ndec {p A B : Prop} [Decidable p] (h1 : ¬ p → A) (h2 : p → B) : if (!dB p) = true then A else B := by
  by_cases h : p
  · rw [if_neg (by rw [dB_t h]; exact Bool.false_ne_true)]; exact h2 h
  · rw [if_pos (by rw [dB_f h]; rfl)]; exact h1 h
theorem w_bool {b : Bool} {A B : Prop} (h1 : b = true → A) (h2 : b = false → B) : if b = true then A else B := by
  cases b with
  | true => exact h1 rfl
  | false => exact h2 rfl
theorem w_tt {b : Bool} {A B : Prop} (e : b = true) (h : A) : if b = true then A else B := by rw [if_pos e]; exact h
theorem w_ff {b : Bool} {A B : Prop} (e : b = false) (h : B) : if b = true then A else B := by rw [if_neg (by rw [e]; exact Bool.false_ne_true)]; exact h
theorem w_ttL {A B : Prop} (h : A) : if true = true then A else B := iteT h
theorem w_ffL {A B : Prop} (h : B) : if false = true then A else B := iteF h
theorem w_seq (q : ts { D with nx := tu D } σ H) : tSeq ts tu D σ H := q
theorem w_next (q : D.nx σ H) : tNext D σ H := q
theorem w_brk (q : D.bk σ H) : tBreak D σ H := q
theorem w_cont (q : D.ct σ H) : tCont D σ H := q
theorem w_asg (q : te σ H fun x H1 => g x σ H1 D.nx) : tAsg te g D σ H := q
theorem w_gn {Q : L2.St → Hp → Prop} (e : σ.set i (some v) = σ') (q : Q σ' H) : gName i v σ H Q := by subst e; exact q
theorem w_drop (q : te σ H fun _ H1 => D.nx σ H1) : tDrop te D σ H := q
theorem w_ret (q : te σ H D.rt) : tRet te D σ H := q
theorem w_retN (q : D.rt .non H) : tRetN D σ H := q
theorem w_ifS (q : c σ H fun b H1 => if b = true then ts D σ H1 else tu D σ H1) : tIfS c ts tu D σ H := q
theorem w_aug {ti : TIp} (h : σ[i]? = some (some x)) (q : te σ H fun y H1 => ti x y H1 fun z H2 => D.nx (σ.set i (some z)) H2) : tAug i te ti D σ H := ⟨x, h, q⟩
theorem w_ip {f : Int → Int → Int} {a b : Int} (q : Q (.int (f a b)) H) : ipI f (.int a) (.int b) H Q := ⟨a, b, rfl, rfl, q⟩
theorem w_par {ta : TA} (q : ta σ H fun vs H1 => ∃ v w, vs = [v, w] ∧ D.nx ((σ.set i (some v)).set j (some w)) H1) : tPar i j ta D σ H := q
theorem w_v2 {P : V → V → Prop} (q : P x y) : ∃ v w, [x, y] = [v, w] ∧ P v w := ⟨x, y, rfl, q⟩
theorem w_nil {Q : List V → Hp → Prop} (q : Q [] H) : tNil σ H Q := q
theorem w_cons {tr : TA} {Q : List V → Hp → Prop} (q : ta σ H fun x H1 => tr σ H1 fun xs H2 => Q (x :: xs) H2) : tCons ta tr σ H Q := q
theorem w_call {sp : Sp} {E : XK} {t : TA} (q : t σ H fun vs H1 => sp vs H1 Q E) : tCall sp [] E t σ H Q := by
  unfold tCall
  simp only [List.append_nil]
  exact q
theorem w_cb {r : List V → Hp → VK → Prop} {t : TA} (q : t σ H fun vs H1 => r vs H1 Q) : tCB r t σ H Q := q
theorem w_meth {C : Addr} {m : Str} {sp : Sp} {E : XK} {t : TA} (q : ta σ H fun x H1 => ∃ a dx fs, x = .ref a ∧ H1 a = some (.ins C dx fs) ∧ fs.lookup m = none ∧ t σ H1 fun vs H2 => sp (x :: vs) H2 Q E) : tMeth C m sp [] E ta t σ H Q := by
  unfold tMeth
  simp only [List.append_nil]
  exact q
theorem w_make {C : Addr} {sp : Sp} {E : XK} {t : TA} (q : t σ H fun vs H1 => ∀ x dx, H1 x = none → H1 dx = none → dx ≠ x → sp (.ref x :: vs) (upd (upd H1 dx (.own x)) x (.ins C dx [])) (fun v H2 => v = .non ∧ Q (.ref x) H2) E) : tMake C sp [] E t σ H Q := by
  unfold tMake
  simp only [List.append_nil]
  exact q
theorem w_int1 {a : Int} (q : Q (.int a) H) : rInt1 [.int a] H Q := .inl ⟨a, rfl, q⟩
theorem w_int1b {k : Bool} (q : Q (.int (if k then 1 else 0)) H) : rInt1 [.bl k] H Q := .inr ⟨k, rfl, q⟩
theorem w_lenStr {x : Str} (h : x.length ≤ sizeLine) (q : Q (.int (x.length : Nat)) H) : rLenStr [.str x] H Q := ⟨x, rfl, h, q⟩
theorem w_lenS {p : Addr} {xs : List V} (h : SqL K H p xs) (q : Q (.int xs.length) H) : Evl.rLenS K [.ref p] H Q := ⟨p, xs, rfl, .inl h, q⟩
theorem w_lenT {p : Addr} {xs : List V} (h : SqT K H p xs) (q : Q (.int xs.length) H) : Evl.rLenS K [.ref p] H Q := ⟨p, xs, rfl, .inr h, q⟩
theorem w_max2 {a b : Int} (q : Q (.int (if b > a then b else a)) H) : Evl.rMax2 [.int a, .int b] H Q := ⟨a, b, rfl, q⟩
theorem w_min2 {a b : Int} (q : Q (.int (if b < a then b else a)) H) : rMin2 [.int a, .int b] H Q := ⟨a, b, rfl, q⟩
theorem w_isi {c : V} {t u : Value} {b : Bool} (k : ClsV c u) (ty : TyX K H x t) (e : PySem.W.kitOne K t u = some b) (q : Q (.bl b) H) : rIsi K [x, c] H Q := ⟨x, c, t, u, b, rfl, k, ty, e, q⟩
theorem w_isiI {n : String} {b : Bool} {a : Int} (e : kitB "int" n = some b) (q : Q (.bl b) H) : rIsi K [.int a, .ty n] H Q := w_isi (.ty n) (.base (.int a)) (kit_ty e) q
theorem w_isiB {n : String} {b : Bool} {a : Bool} (e : kitB "bool" n = some b) (q : Q (.bl b) H) : rIsi K [.bl a, .ty n] H Q := w_isi (.ty n) (.base (.bl a)) (kit_ty e) q
theorem w_isiN {n : String} {b : Bool} (e : kitB "NoneType" n = some b) (q : Q (.bl b) H) : rIsi K [.non, .ty n] H Q := w_isi (.ty n) (.base .non) (kit_ty e) q
theorem w_isiS {n : String} {b : Bool} {a : Str} (e : kitB "str" n = some b) (q : Q (.bl b) H) : rIsi K [.str a, .ty n] H Q := w_isi (.ty n) (.base (.str a)) (kit_ty e) q
theorem w_isiL {n : String} {b : Bool} {p : Addr} {xs : List V} (h : H p = some (.lst xs)) (e : kitB "list" n = some b) (q : Q (.bl b) H) : rIsi K [.ref p, .ty n] H Q := w_isi (.ty n) (.base (.lst h)) (kit_ty e) q
theorem w_isiT {n : String} {b : Bool} {p : Addr} {xs : List V} (h : H p = some (.tup xs)) (e : kitB "tuple" n = some b) (q : Q (.bl b) H) : rIsi K [.ref p, .ty n] H Q := w_isi (.ty n) (.base (.tup h)) (kit_ty e) q
theorem w_tup {t : TA} (q : t σ H fun xs H1 => xs.length ≤ sizeLine ∧ ∀ p, H1 p = none → Q (.ref p) (upd H1 p (.tup xs))) : tTup t σ H Q := q
theorem w_lst {t : TA} (q : t σ H fun xs H1 => xs.length ≤ sizeLine ∧ ∀ p, H1 p = none → Q (.ref p) (upd H1 p (.lst xs))) : tLst t σ H Q := q
theorem w_sz {n : Nat} {B : Prop} (h : n ≤ sizeLine) (q : B) : n ≤ sizeLine ∧ B := ⟨h, q⟩
theorem w_dnew (q : ∀ p, H p = none → Q (.ref p) (upd H p (.dK []))) : tDNewK σ H Q := q
theorem ex_at {a : Addr} {o : HO} (e : Ex H H') (h : H a = some o) : H' a = some o := e a o h
theorem ex_sq {a : Addr} {xs : List V} (e : Ex H H') (h : SqL K H a xs) : SqL K H' a xs := Evl.ex_l e h
theorem ex_st {a : Addr} {xs : List V} (e : Ex H H') (h : SqT K H a xs) : SqT K H' a xs := Evl.ex_t e h
theorem new_ex {p : Addr} {o : HO} (h : H p = none) (e : upd H p o = H') : Ex H H' := e ▸ Evl.Ex.new h
theorem new_at {p : Addr} {o : HO} (e : upd H p o = H') : H' p = some o := e ▸ upd_same
theorem ex_free {a : Addr} (e : Ex H H') (h : H' a = none) : H a = none := Evl.fresh_back e h
theorem w_ixL {p : Addr} {xs : List V} {i : Int} (h : SqL K H p xs) (a : atI xs i = some v) (q : Q v H) : rIxL K (.ref p) (.int i) H Q := ⟨p, xs, i, v, rfl, rfl, h, a, q⟩
theorem w_ixT {p : Addr} {xs : List V} {i : Int} (h : SqT K H p xs) (a : atI xs i = some v) (q : Q v H) : rIxT K (.ref p) (.int i) H Q := ⟨p, xs, i, v, rfl, rfl, h, a, q⟩
theorem w_ixS {z : Str} {i : Int} {c : Nat} (h : z.length ≤ sizeLine) (a : atI z.cps.toList i = some c) (q : Q (.str ⟨#[c]⟩) H) : rIxS (.str z) (.int i) H Q := ⟨z, i, c, rfl, rfl, h, a, q⟩
theorem w_sl {r : V → Option Int → Option Int → Hp → VK → Prop} {tl th : TO} (q : te σ H fun x H1 => tl σ H1 fun l H2 => th σ H2 fun u H3 => r x l u H3 Q) : tSl r te tl th σ H Q := q
theorem w_noPart {Q : Option Int → Hp → Prop} (q : Q none H) : tNoPart σ H Q := q
theorem w_part {Q : Option Int → Hp → Prop} (q : te σ H fun x H1 => ∃ i, x = .int i ∧ Q (some i) H1) : tPart te σ H Q := q
theorem w_slL {p : Addr} {xs : List V} {lo hi : Option Int} (h : SqL K H p xs) (q : ∀ l, H l = none → Q (.ref l) (upd H l (.lst (cutV xs lo hi)))) : rSlL K (.ref p) lo hi H Q := ⟨p, xs, rfl, h, q⟩
theorem w_slS {z : Str} {lo hi : Option Int} (h : z.length ≤ sizeLine) (q : Q (.str (cutS z lo hi)) H) : rSlS (.str z) lo hi H Q := ⟨z, rfl, h, q⟩
theorem w_cat {l b : Addr} {xs zs : List V} (h1 : H l = some (.lst xs)) (h2 : H b = some (.lst zs)) (hl : xs.length + zs.length ≤ sizeLine) (q : ∀ p, H p = none → Q (.ref p) (upd H p (.lst (xs ++ zs)))) : rCat (.ref l) (.ref b) H Q := ⟨l, b, xs, zs, rfl, rfl, h1, h2, hl, q⟩
theorem w_for {wi : TI} (q : wi σ H fun J H1 => ∃ W : Nat → Nat → L2.St → Hp → Prop, (∃ m, W 0 m σ H1) ∧ ∀ i m σ H, W i m σ H →
  (J.stop i H ∧ D.nx σ H) ∨ (J.go i H ∧ ∃ N : L2.St → Hp → Prop, (∀ σ' H', N σ' H' → ∃ m', m' < m ∧ W (i + 1) m' σ' H') ∧ ∀ x H', J.yld i H x H' → g x σ H' fun σ2 H2 => ts { D with nx := N, ct := N, bk := D.nx } σ2 H2)) : tFor wi g ts D σ H := q
theorem w_iList {R : It → Hp → Prop} (q : te σ H fun x H1 => ∃ a, x = .ref a ∧ (∃ xs, SqL K H1 a xs) ∧ R (Itl K a) H1) : iList K te σ H R := q
theorem w_iTup {R : It → Hp → Prop} (q : te σ H fun x H1 => ∃ a, x = .ref a ∧ (∃ xs, SqT K H1 a xs) ∧ R (Itt K a) H1) : iTup K te σ H R := q
theorem w_iStr {R : It → Hp → Prop} (q : te σ H fun v H1 => ∃ x, v = .str x ∧ R (Its x) H1) : iStr te σ H R := q
theorem w_iRng1 {ta : TA} {R : It → Hp → Prop} (q : ta σ H fun vs H1 => ∃ j : Int, vs = [.int j] ∧ -(2 ^ 62) ≤ j ∧ j < 2 ^ 62 ∧ R (Itr 0 j.toNat) H1) : iRng1 ta σ H R := q
theorem w_iRng2 {ta : TA} {R : It → Hp → Prop} (q : ta σ H fun vs H1 => ∃ i j : Int, vs = [.int i, .int j] ∧ (-(2 ^ 62) ≤ i ∧ i < 2 ^ 62 ∧ -(2 ^ 62) ≤ j ∧ j < 2 ^ 62) ∧ R (Itr i (j - i).toNat) H1) : iRng2 ta σ H R := q
theorem w_v1I {P : Int → Prop} {n : Int} (q : P n) : ∃ j, [V.int n] = [.int j] ∧ P j := ⟨n, rfl, q⟩
theorem w_v2I {P : Int → Int → Prop} {n m : Int} (q : P n m) : ∃ i j, [V.int n, .int m] = [.int i, .int j] ∧ P i j := ⟨n, m, rfl, q⟩
theorem f_list {a : Addr} {xs : List V} (hx : SqL K H a xs) (Pv : Nat → L2.St → Hp → Prop) (h0 : Pv 0 σ H) (hl : ∀ i σ H, i ≤ xs.length → Pv i σ H → SqL K H a xs)
    (hs : ∀ i x σ H, xs[i]? = some x → Pv i σ H → g x σ H fun σ2 H2 => ts { D with nx := Pv (i + 1), ct := Pv (i + 1), bk := D.nx } σ2 H2) (hd : ∀ σ H, Pv xs.length σ H → D.nx σ H) :
    (∃ xs, SqL K H a xs) ∧ ∃ W : Nat → Nat → L2.St → Hp → Prop, (∃ m, W 0 m σ H) ∧ ∀ i m σ H, W i m σ H →
      ((Itl K a).stop i H ∧ D.nx σ H) ∨ ((Itl K a).go i H ∧ ∃ N : L2.St → Hp → Prop, (∀ σ' H', N σ' H' → ∃ m', m' < m ∧ W (i + 1) m' σ' H') ∧ ∀ x H', (Itl K a).yld i H x H' → g x σ H' fun σ2 H2 => ts { D with nx := N, ct := N, bk := D.nx } σ2 H2) :=
  ⟨⟨xs, hx⟩, for_list Pv h0 hl hs hd⟩
theorem f_tup {a : Addr} {xs : List V} (hx : SqT K H a xs) (Pv : Nat → L2.St → Hp → Prop) (h0 : Pv 0 σ H) (hl : ∀ i σ H, i ≤ xs.length → Pv i σ H → SqT K H a xs)
    (hs : ∀ i x σ H, xs[i]? = some x → Pv i σ H → g x σ H fun σ2 H2 => ts { D with nx := Pv (i + 1), ct := Pv (i + 1), bk := D.nx } σ2 H2) (hd : ∀ σ H, Pv xs.length σ H → D.nx σ H) :
    (∃ xs, SqT K H a xs) ∧ ∃ W : Nat → Nat → L2.St → Hp → Prop, (∃ m, W 0 m σ H) ∧ ∀ i m σ H, W i m σ H →
      ((Itt K a).stop i H ∧ D.nx σ H) ∨ ((Itt K a).go i H ∧ ∃ N : L2.St → Hp → Prop, (∀ σ' H', N σ' H' → ∃ m', m' < m ∧ W (i + 1) m' σ' H') ∧ ∀ x H', (Itt K a).yld i H x H' → g x σ H' fun σ2 H2 => ts { D with nx := N, ct := N, bk := D.nx } σ2 H2) :=
  ⟨⟨xs, hx⟩, for_tup Pv h0 hl hs hd⟩
theorem f_rng {n : Int} (h1 : 0 ≤ n) (h2 : n ≤ 1000000) (Pv : Nat → L2.St → Hp → Prop) (h0 : Pv 0 σ H)
    (hs : ∀ (i : Nat) σ H, (i : Int) < n → Pv i σ H → g (.int (i : Int)) σ H fun σ2 H2 => ts { D with nx := Pv (i + 1), ct := Pv (i + 1), bk := D.nx } σ2 H2) (hd : ∀ σ H, Pv n.toNat σ H → D.nx σ H) :
    -(2 ^ 62) ≤ n ∧ n < 2 ^ 62 ∧ ∃ W : Nat → Nat → L2.St → Hp → Prop, (∃ m, W 0 m σ H) ∧ ∀ i m σ H, W i m σ H →
      ((Itr 0 n.toNat).stop i H ∧ D.nx σ H) ∨ ((Itr 0 n.toNat).go i H ∧ ∃ N : L2.St → Hp → Prop, (∀ σ' H', N σ' H' → ∃ m', m' < m ∧ W (i + 1) m' σ' H') ∧ ∀ x H', (Itr 0 n.toNat).yld i H x H' → g x σ H' fun σ2 H2 => ts { D with nx := N, ct := N, bk := D.nx } σ2 H2) := by
  refine ⟨by omega, by omega, for_range Pv h0 (fun i σ H hi p => ?_) hd⟩
  have e : (0 : Int) + (i : Int) = (i : Int) := Int.zero_add _
  rw [e]
  exact hs i σ H (by omega) p
theorem int_item {ns : List Int} {i : Nat} {x : V} (h : (ns.map V.int)[i]? = some x) : ∃ n, x = .int n ∧ ns[i]? = some n := by
  rw [List.getElem?_map] at h
  cases e : ns[i]? with
  | none => rw [e] at h; cases h
  | some z => rw [e] at h; exact ⟨z, (Option.some.inj h).symm, rfl⟩
theorem atI_lt {xs : List V} {i : Int} (h0 : 0 ≤ i) (h1 : i < xs.length) : atI xs i = some (xs.getD i.toNat .non) := by
  have e2 : ((i.toNat : Nat) : Int) = i := by omega
  have h3 : i.toNat < xs.length := by omega
  have e3 : xs[i.toNat]? = some (xs.getD i.toNat .non) := by
    rw [List.getD_eq_getElem?_getD, List.getElem?_eq_getElem h3]
    rfl
  have e := atI_nat (xs := xs) e3
  rw [e2] at e
  exact e
theorem sIx_nat (n d k : Nat) : HT.sIx n d (some (k : Int)) = min k n := by
  unfold HT.sIx
  simp
  omega
theorem cutV_to (xs : List V) (k : Nat) : cutV xs none (some (k : Int)) = xs.take k := by
  unfold cutV
  rw [sIx_nat]
  show (xs.drop 0).take (min k xs.length - 0) = xs.take k
  rw [List.drop_zero, Nat.sub_zero]
  rcases Nat.le_total k xs.length with h | h
  · rw [Nat.min_eq_left h]
  · rw [Nat.min_eq_right h, List.take_of_length_le (Nat.le_refl _), List.take_of_length_le h]
theorem cutV_all (xs : List V) (k : Nat) (h : xs.length ≤ k) : cutV xs none (some (k : Int)) = xs := by
  rw [cutV_to, List.take_of_length_le h]
mutual
theorem dp_mono (e : Ex H H') : ∀ (d : PyData) (v : V), Dp K H v d → Dp K H' v d
  | .none, _, h => by cases h; exact .non
  | .bool b, _, h => by cases h; exact .bl b
  | .int i, _, h => by cases h; exact .int i
  | .str x, _, h => by cases h; exact .str x
  | .list ds, _, h => by
    cases h with
    | lst hs ha => exact .lst (ex_sq e hs) (dpAll_mono e ds _ ha)
  | .tuple ds, _, h => by
    cases h with
    | tup hs ha => exact .tup (ex_st e hs) (dpAll_mono e ds _ ha)
  | .dict _, _, h => by cases h
theorem dpAll_mono (e : Ex H H') : ∀ (ds : List PyData) (vs : List V), DpAll K H vs ds → DpAll K H' vs ds
  | [], _, h => by cases h; exact .nil
  | d :: ds, _, h => by
    cases h with
    | cons h1 h2 => exact .cons (dp_mono e d _ h1) (dpAll_mono e ds _ h2)
end
theorem w_eqD {d1 d2 : PyData} {b : Bool} (h1 : Dp K H x d1) (h2 : Dp K H y d2) (s1 : SeqAt.shaped d1 = true) (s2 : SeqAt.shaped d2 = true) (e : PyData.eqv d1 d2 = b) (q : Q (.bl b) H) : rEqD K x y H Q := ⟨d1, d2, h1, h2, s1, s2, e ▸ q⟩
theorem w_neD {d1 d2 : PyData} {b : Bool} (h1 : Dp K H x d1) (h2 : Dp K H y d2) (s1 : SeqAt.shaped d1 = true) (s2 : SeqAt.shaped d2 = true) (e : PyData.eqv d1 d2 = b) (q : Q (.bl (!b)) H) : rNeD K x y H Q := ⟨d1, d2, h1, h2, s1, s2, e ▸ q⟩
theorem eqv_self {d : PyData} (h : SeqAt.shaped d = true) : PyData.eqv d d = true := by
  unfold SeqAt.shaped at h
  exact SeqAt.eqv_refl d (by simp at h; exact h.1)
theorem w_lc {wi : TI} {vs : List Nat} (q : wi σ H fun J H1 => ∀ D, H1 D = none → ∃ W : Nat → Nat → Hp → Prop, (∃ m, W 0 m (upd H1 D (.lst []))) ∧ ∀ i m H, W i m H →
  (J.stop i H ∧ Q (.ref D) H) ∨ (J.go i H ∧ ∃ Nx : Hp → Prop, (∀ H', Nx H' → ∃ m', m' < m ∧ W (i + 1) m' H') ∧ ∀ x H', J.yld i H x H' → g x (wipe σ vs) H' fun σ2 H2 => wipe σ2 vs = wipe σ vs ∧ t σ2 H2 fun b H3 =>
    if b = true then te σ2 H3 fun y H4 => ∃ acc, H4 D = some (.lst acc) ∧ acc.length < sizeLine ∧ Nx (upd H4 D (.lst (acc ++ [y]))) else Nx H3)) : tLc wi g t te vs σ H Q := q
theorem lc_fil {J : It} {n : Nat} {G : Hp → Prop} {Y : Nat → Hp → V → Hp → Prop} (w : Walk J n G Y) {vs : List Nat} {H1 : Hp} {Qd : Addr → Hp → Prop} (hn : n ≤ 1000000) (f : Nat → Option V) (hG : ∀ H', Ex H1 H' → G H') (hY : ∀ i H x H', i < n → Y i H x H' → Ex H H')
    (hs : ∀ i x H H', i < n → Ex H1 H → Y i H x H' → ∀ (R : V → Hp → Prop) (S : Hp → Prop), (∀ H4, Ex H' H4 → ∀ v, f i = some v → R v H4) → (∀ H4, Ex H' H4 → f i = none → S H4) →
      g x (wipe σ vs) H' fun σ2 H2 => wipe σ2 vs = wipe σ vs ∧ t σ2 H2 fun b H3 => if b = true then te σ2 H3 R else S H3)
    (hq : ∀ D H', H1 D = none → Ex H1 H' → H' D = some (.lst ((List.range n).filterMap f)) → Qd D H') :
    ∀ D, H1 D = none → ∃ W : Nat → Nat → Hp → Prop, (∃ m, W 0 m (upd H1 D (.lst []))) ∧ ∀ i m H, W i m H →
      (J.stop i H ∧ Qd D H) ∨ (J.go i H ∧ ∃ Nx : Hp → Prop, (∀ H', Nx H' → ∃ m', m' < m ∧ W (i + 1) m' H') ∧ ∀ x H', J.yld i H x H' → g x (wipe σ vs) H' fun σ2 H2 => wipe σ2 vs = wipe σ vs ∧ t σ2 H2 fun b H3 =>
        if b = true then te σ2 H3 fun y H4 => ∃ acc, H4 D = some (.lst acc) ∧ acc.length < sizeLine ∧ Nx (upd H4 D (.lst (acc ++ [y]))) else Nx H3) := by
  intro D hD
  have hlen : ∀ i, ((List.range i).filterMap f).length ≤ i := fun i => by
    have h := List.length_filterMap_le f (List.range i)
    rwa [List.length_range] at h
  refine lc_it w (fun i H => Ex H1 H ∧ H D = some (.lst ((List.range i).filterMap f))) ⟨Evl.Ex.new hD, upd_same⟩ (fun i H _ p => hG H p.1) ?_ (fun H p => hq D H hD p.1 p.2)
  rintro i x H H' hi ⟨e, p⟩ y
  have eY := hY i H x H' hi y
  refine hs i x H H' hi e y _ _ (fun H4 e4 v hv => ⟨_, e4 _ _ (eY _ _ p), ?_, ?_⟩) fun H4 e4 hv => ?_
  · have h1 := hlen i
    rw [sizeLine_eq]
    omega
  · refine ⟨Evl.Ex.mut ((e.trans eY).trans e4) hD, ?_⟩
    rw [upd_same, List.range_succ, List.filterMap_append]
    simp [hv]
  · refine ⟨(e.trans eY).trans e4, ?_⟩
    rw [e4 _ _ (eY _ _ p), List.range_succ, List.filterMap_append]
    simp [hv]
theorem lc_map {J : It} {n : Nat} {G : Hp → Prop} {Y : Nat → Hp → V → Hp → Prop} (w : Walk J n G Y) {vs : List Nat} {H1 : Hp} {Qd : Addr → Hp → Prop} (hn : n ≤ 1000000) (f : Nat → V) (hG : ∀ H', Ex H1 H' → G H') (hY : ∀ i H x H', i < n → Y i H x H' → Ex H H')
    (hs : ∀ i x H H', i < n → Ex H1 H → Y i H x H' → ∀ (R : V → Hp → Prop), (∀ H4, Ex H' H4 → R (f i) H4) → g x (wipe σ vs) H' fun σ2 H2 => wipe σ2 vs = wipe σ vs ∧ te σ2 H2 R)
    (hq : ∀ D H', H1 D = none → Ex H1 H' → H' D = some (.lst ((List.range n).map f)) → Qd D H') (hg : ∀ x σ H (P P' : L2.St → Hp → Prop), (∀ σ H, P σ H → P' σ H) → g x σ H P → g x σ H P') :
    ∀ D, H1 D = none → ∃ W : Nat → Nat → Hp → Prop, (∃ m, W 0 m (upd H1 D (.lst []))) ∧ ∀ i m H, W i m H →
      (J.stop i H ∧ Qd D H) ∨ (J.go i H ∧ ∃ Nx : Hp → Prop, (∀ H', Nx H' → ∃ m', m' < m ∧ W (i + 1) m' H') ∧ ∀ x H', J.yld i H x H' → g x (wipe σ vs) H' fun σ2 H2 => wipe σ2 vs = wipe σ vs ∧ tYes σ2 H2 fun b H3 =>
        if b = true then te σ2 H3 fun y H4 => ∃ acc, H4 D = some (.lst acc) ∧ acc.length < sizeLine ∧ Nx (upd H4 D (.lst (acc ++ [y]))) else Nx H3) := by
  refine lc_fil w hn (fun i => some (f i)) hG hY (fun i x H H' hi e y R S hR _ => ?_) fun D H' hD e p => hq D H' hD e ?_
  · refine hg _ _ _ _ _ (fun σ2 H2 z => ?_) (hs i x H H' hi e y R fun H4 e4 => hR H4 e4 _ rfl)
    exact ⟨z.1, (iteT z.2 : if true = true then te σ2 H2 R else S H2)⟩
  · rw [p]
    congr 2
    induction n with
    | zero => rfl
    | succ n ih => simp
theorem mono_gn (i : Nat) : ∀ x σ H (P P' : L2.St → Hp → Prop), (∀ σ H, P σ H → P' σ H) → gName i x σ H P → gName i x σ H P' := fun _ _ _ _ _ h q => h _ _ q
theorem small_of {n m : Nat} (h : n ≤ m) (h2 : m ≤ 1000000) : n ≤ sizeLine := by rw [sizeLine_eq]; omega
theorem str_len_app (a b : Str) : (a ++ b).length = a.length + b.length := Array.size_append
theorem sign_len (c : Nat) : (⟨#[c]⟩ : Str).length = 1 := rfl
theorem len_toList (z : Str) : z.cps.toList.length = z.length := Array.length_toList
theorem atI_ltN {l : List Nat} {i : Int} (h0 : 0 ≤ i) (h1 : i < l.length) : atI l i = some (l.getD i.toNat 0) := by
  have e2 : ((i.toNat : Nat) : Int) = i := by omega
  have h3 : i.toNat < l.length := by omega
  have e3 : l[i.toNat]? = some (l.getD i.toNat 0) := by
    rw [List.getD_eq_getElem?_getD, List.getElem?_eq_getElem h3]
    rfl
  have e := atI_nat (xs := l) e3
  rw [e2] at e
  exact e
theorem w_ixSn {z : Str} {i : Int} (h : z.length ≤ sizeLine) (h0 : 0 ≤ i) (h1 : i < z.length) (q : Q (.str ⟨#[z.cps.toList.getD i.toNat 0]⟩) H) : rIxS (.str z) (.int i) H Q :=
  w_ixS h (atI_ltN h0 (by rw [len_toList]; exact h1)) q
def rMulS : R2 := fun x y H Q => ∃ i n, x = .str i ∧ y = .int n ∧ 0 ≤ n ∧ n ≤ 1000 ∧ i.length ≤ 1000 ∧ ∀ z : Str, z.length ≤ i.length * n.toNat → Q (.str z) H
abbrev aMulS := tOp rMulS
theorem rep_size (x : Array Nat) : ∀ (n : Nat) (a : Array Nat), ((List.replicate n x).foldl (· ++ ·) a).size = a.size + n * x.size
  | 0, a => by simp
  | n + 1, a => by
    rw [List.replicate_succ, List.foldl_cons, rep_size x n (a ++ x), Array.size_append, Nat.succ_mul]
    omega
theorem op_mulS {X : Cx} : OpR X (binaryOp .Mult) rMulS := by
  intro pins s σ H x y v u Q I rx ry h
  obtain ⟨i, n, rfl, rfl, h0, h1, hi, q⟩ := h
  obtain ⟨t, rfl⟩ := rx
  obtain ⟨t', rfl⟩ := ry
  have hm : i.length * n.toNat ≤ 1000000 := by
    have := Nat.mul_le_mul hi (show n.toNat ≤ 1000 by omega)
    omega
  refine PySem.P.mul_str ?_ ?_ ?_ ?_
  · rw [decide_eq_false (by omega), decide_eq_false (by omega)]; rfl
  · intro h2 _ h3
    have h4 : 1 ≤ n := by omega
    have h5 : (2 ^ 63 - 1) / n ≥ (2 ^ 63 - 1) / 1000 := by
      have : n * ((2 ^ 63 - 1) / 1000) ≤ 2 ^ 63 - 1 := by
        have := Int.mul_le_mul_of_nonneg_right h1 (show (0 : Int) ≤ (2 ^ 63 - 1) / 1000 by decide)
        omega
      exact (Int.le_ediv_iff_mul_le (by omega)).mpr (by rw [Int.mul_comm]; exact this)
    have h6 : ((2 ^ 63 - 1) / 1000 : Int) > 1000 := by decide
    omega
  · intro _ _
    refine decide_eq_false ?_
    have := sizeLine_eq
    omega
  · split
    · exact ⟨by decide, .str Str.empty, H, I.tok _, ⟨_, rfl⟩, q _ (Nat.zero_le _)⟩
    · split
      · rename_i h2 h3
        rcases Bool.or_eq_true_iff.mp h3 with e | e
        · have e' : n = 1 := by simpa using e
          exact ⟨.str i, H, I, ⟨_, rfl⟩, q _ (by rw [e']; show i.length ≤ i.length * 1; omega)⟩
        · have e' : i.length = 0 := by simpa using e
          exact ⟨.str i, H, I, ⟨_, rfl⟩, q _ (by rw [e']; omega)⟩
      · have e := rep_size i.cps n.toNat #[]
        have e' : (⟨(List.replicate n.toNat i.cps).foldl (· ++ ·) #[]⟩ : Str).length = i.length * n.toNat := by
          show ((List.replicate n.toNat i.cps).foldl (· ++ ·) #[]).size = i.cps.size * n.toNat
          rw [e, Nat.mul_comm]; simp
        exact ⟨by rw [e', sizeLine_eq]; omega, .str _, H, I.tok _, ⟨_, rfl⟩, q _ (Nat.le_of_eq e')⟩
theorem w_m1 {r : V → List V → Hp → VK → Prop} (q : ta σ H fun x H1 => (∃ a, x = .str a) ∧ te σ H1 fun y H2 => r x [y] H2 Q) : tM1 r ta te σ H Q := q
theorem w_isS {a : Str} {B : Prop} (q : B) : (∃ b, V.str a = .str b) ∧ B := ⟨⟨a, rfl⟩, q⟩
theorem log_small {i : Int} (h0 : 0 ≤ i) (h : i < 2 ^ 1000) : i.natAbs.log2 < 1920 := by
  by_cases e : i.natAbs = 0
  · rw [e]; decide
  · rw [Nat.log2_lt e]
    have h1 : (i.natAbs : Int) = i := by omega
    have h2 : ((2 ^ 1000 : Nat) : Int) = (2 : Int) ^ 1000 := by norm_cast
    have h3 : i.natAbs < 2 ^ 1000 := by
      have : ((i.natAbs : Nat) : Int) < ((2 ^ 1000 : Nat) : Int) := by rw [h1, h2]; exact h
      exact Int.ofNat_lt.mp this
    exact Nat.lt_of_lt_of_le h3 (Nat.pow_le_pow_right (by decide) (by decide))
theorem w_strI {i : Int} (h : i.natAbs.log2 < 1920) (q : Q (.str (toString i)) H) : rStrI [.int i] H Q := ⟨i, rfl, h, q⟩
theorem w_strL {i : Int} (h0 : 0 ≤ i) (h : i < 2 ^ 1000) (q : ∀ z : Str, z.length ≤ 1921 → Q (.str z) H) : rStrI [.int i] H Q := w_strI (log_small h0 h) (q _ (PyProof.Rows.int_text_len_1921 (log_small h0 h)))
theorem w_mulS {z : Str} {n : Int} (h0 : 0 ≤ n) (h1 : n ≤ 1000) (hi : z.length ≤ 1000) (q : ∀ y : Str, y.length ≤ z.length * n.toNat → Q (.str y) H) : rMulS (.str z) (.int n) H Q := ⟨z, n, rfl, rfl, h0, h1, hi, q⟩
end
end RT

set_option Elab.async false
set_option linter.all false
set_option maxRecDepth 100000
set_option maxHeartbeats 4000000
namespace RT
open PySem L2
local macro_rules | `(tactic| walk_at "kit") => `(tactic| first | exact kit_int_int | exact kit_int_bool | exact kit_int_str | exact kit_int_list | exact kit_int_tuple | exact kit_int_dict | exact kit_bool_int | exact kit_bool_bool | exact kit_bool_str | exact kit_bool_list | exact kit_bool_tuple | exact kit_bool_dict | exact kit_str_int | exact kit_str_bool | exact kit_str_str | exact kit_str_list | exact kit_str_tuple | exact kit_str_dict | exact kit_NoneType_int | exact kit_NoneType_bool | exact kit_NoneType_str | exact kit_NoneType_list | exact kit_NoneType_tuple | exact kit_NoneType_dict | exact kit_list_int | exact kit_list_bool | exact kit_list_str | exact kit_list_list | exact kit_list_tuple | exact kit_list_dict | exact kit_tuple_int | exact kit_tuple_bool | exact kit_tuple_str | exact kit_tuple_list | exact kit_tuple_tuple | exact kit_tuple_dict | exact kit_dict_int | exact kit_dict_bool | exact kit_dict_str | exact kit_dict_list | exact kit_dict_tuple | exact kit_dict_dict)
local macro_rules | `(tactic| walk_at "hk") => `(tactic| first | assumption | exact ex_at (by assumption) (by walk_at "hk"))
local macro_rules | `(tactic| walk_at "sq") => `(tactic| first | assumption | exact SqL.of (by walk_at "hk") | exact ex_sq (by assumption) (by walk_at "sq"))
local macro_rules | `(tactic| walk_at "st") => `(tactic| first | assumption | exact SqT.of (by walk_at "hk") | exact ex_st (by assumption) (by walk_at "st"))
local macro_rules | `(tactic| walk_at "new") => `(tactic| (intro p hp; generalize hU : upd _ p _ = H'; have e1 := new_ex hp hU; have e2 := new_at hU; clear hU))
local macro_rules | `(tactic| walk_at "set") => `(tactic| ((try simp only [List.set_cons_succ, List.set_cons_zero]); rfl))
local macro_rules | `(tactic| walk_at "small") => `(tactic| first | assumption | (rw [sizeLine_eq]; (try simp only [List.length_cons, List.length_nil, str_len_app, sign_len]); omega) | (with_unfolding_all decide))
local macro_rules | `(tactic| walk_at "sc") => `(tactic| first | assumption | decide | omega | (unfold CMul; omega) | (unfold CDiv; omega) | (unfold CPow; decide) | (unfold CDiv; decide))
local macro_rules | `(tactic| walk_at "step") => `(tactic| first
  | with_reducible refine' w_seq ?_
  | with_reducible refine' w_op ?_
  | ((with_reducible refine' w_var ?h ?_); (case h => rfl))
  | with_reducible refine' w_c ?_
  | with_reducible refine' w_i0 ?_
  | with_reducible refine' w_cons ?_
  | with_reducible refine' w_nil ?_
  | with_reducible refine' w_asg ?_
  | ((with_reducible refine' w_gn ?e ?_); (case e => walk_at "set"))
  | with_reducible refine' w_ifS ?_
  | with_reducible refine' w_test ?_
  | with_reducible refine' w_tB ?_
  | with_reducible refine' w_bl ?_
  | with_reducible refine' w_int ?_
  | with_reducible refine' w_ref ?_
  | with_reducible refine' w_str ?_
  | with_reducible refine' w_eqI ?_
  | with_reducible refine' w_neI ?_
  | with_reducible refine' w_eqS ?_
  | with_reducible refine' w_neS ?_
  | with_reducible refine' w_ret ?_
  | with_reducible refine' w_for ?_
  | with_reducible refine' w_m1 ?_
  | with_reducible refine' w_isS ?_
  | with_reducible refine' w_lc ?_
  | with_reducible refine' w_iList ?_
  | with_reducible refine' w_iTup ?_
  | with_reducible refine' w_iStr ?_
  | with_reducible refine' w_iRng1 ?_
  | with_reducible refine' w_iRng2 ?_
  | with_reducible refine' w_v1I ?_
  | with_reducible refine' w_v2I ?_
  | with_reducible refine' w_next ?_
  | with_reducible refine' w_call ?_
  | with_reducible refine' w_cb ?_
  | with_reducible refine' w_and ?_
  | with_reducible refine' w_or ?_
  | with_reducible refine' w_not ?_
  | with_reducible refine' w_andV ?_
  | with_reducible refine' w_orV ?_
  | with_reducible refine' w_notV ?_
  | with_reducible refine' w_ifE ?_
  | with_reducible refine' w_drop ?_
  | with_reducible refine' w_un ?_
  | with_reducible refine' w_u ?_
  | with_reducible refine' w_isNN ?_
  | with_reducible refine' w_isNI ?_
  | with_reducible refine' w_isNS ?_
  | with_reducible refine' w_isNR ?_
  | with_reducible refine' w_notNN ?_
  | with_reducible refine' w_notNI ?_
  | with_reducible refine' w_notNS ?_
  | with_reducible refine' w_notNR ?_
  | with_reducible refine' w_int1 ?_
  | with_reducible refine' w_int1b ?_
  | with_reducible refine' w_tup ?_
  | with_reducible refine' w_lst ?_
  | with_reducible refine' w_dnew ?_
  | with_reducible refine' w_sl ?_
  | with_reducible refine' w_noPart ?_
  | with_reducible refine' w_part ?_
  | with_reducible refine' w_retN ?_
  | with_reducible refine' w_brk ?_
  | with_reducible refine' w_cont ?_
  | with_reducible refine' w_chain ?_
  | with_reducible refine' w_lt ?_
  | with_reducible refine' w_le ?_
  | with_reducible refine' w_gt ?_
  | with_reducible refine' w_ge ?_
  | with_reducible refine' w_ltS ?_
  | with_reducible refine' w_leS ?_
  | with_reducible refine' w_gtS ?_
  | with_reducible refine' w_geS ?_
  | ((with_reducible refine' w_addS ?h ?_); (case h => walk_at "small"))
  | with_reducible refine' w_inS ?_
  | with_reducible refine' w_ninS ?_
  | with_reducible refine' w_par ?_
  | with_reducible refine' w_v2 ?_
  | with_reducible refine' w_max2 ?_
  | with_reducible refine' w_min2 ?_
  | with_reducible refine' w_tru ?_
  | with_reducible refine' w_meth ?_
  | with_reducible refine' w_make ?_
  | ((with_reducible refine' w_isiI ?h ?_); (case h => walk_at "kit"))
  | ((with_reducible refine' w_isiB ?h ?_); (case h => walk_at "kit"))
  | ((with_reducible refine' w_isiN ?h ?_); (case h => walk_at "kit"))
  | ((with_reducible refine' w_isiS ?h ?_); (case h => walk_at "kit"))
  | ((with_reducible refine' w_i ?h ?_); (case h => walk_at "sc"))
  | with_reducible refine' w_ttL ?_
  | with_reducible refine' w_ffL ?_
  | ((with_reducible refine' w_tt ?h ?_); (case h => first | exact dB_t (by decide) | exact nB_t (by decide) | decide))
  | ((with_reducible refine' w_ff ?h ?_); (case h => first | exact dB_f (by decide) | exact nB_f (by decide) | decide))
  | ((with_reducible refine' w_lenS ?h ?_); (case h => walk_at "sq"))
  | ((with_reducible refine' w_lenT ?h ?_); (case h => walk_at "st"))
  | ((with_reducible refine' w_slL ?h ?_); (case h => walk_at "sq"))
  | ((with_reducible refine' w_aug ?h ?_); (case h => rfl))
  | with_reducible refine' w_ip ?_
  | ((with_reducible refine' w_cat ?h1 ?h2 ?h3 ?_); (case h1 => walk_at "hk"); (case h2 => walk_at "hk"); (case h3 => walk_at "small"))
  | ((with_reducible refine' w_ixL ?h1 ?h2 ?_); (case h1 => walk_at "sq"); (case h2 => rfl))
  | ((with_reducible refine' w_ixT ?h1 ?h2 ?_); (case h1 => walk_at "st"); (case h2 => rfl))
  | ((with_reducible refine' w_lenStr ?h ?_); (case h => walk_at "small"))
  | ((with_reducible refine' w_slS ?h ?_); (case h => walk_at "small"))
  | ((with_reducible refine' w_sz ?h ?_); (case h => walk_at "small")))
local macro_rules | `(tactic| walk_at "go") => `(tactic| (repeat (first | walk_at "step" | walk_at "callx")))
local macro_rules | `(tactic| walk_at "goN") => `(tactic| (repeat (first | walk_at "step" | walk_at "callx" | ((with_reducible show ∀ p, _ = none → _); walk_at "new"))))
local macro_rules | `(tactic| walk_at "len") => `(tactic| first
  | (obtain ⟨rfl, _⟩ := h; rfl) | (obtain ⟨_, rfl, _⟩ := h; rfl) | (obtain ⟨_, _, rfl, _⟩ := h; rfl) | (obtain ⟨_, _, _, rfl, _⟩ := h; rfl) | (obtain ⟨_, _, _, _, rfl, _⟩ := h; rfl)
  | (obtain ⟨_, _, _, _, _, rfl, _⟩ := h; rfl) | (obtain ⟨_, _, _, _, _, _, rfl, _⟩ := h; rfl) | (obtain ⟨_, _, _, _, _, _, _, rfl, _⟩ := h; rfl) | (obtain ⟨_, _, _, _, _, _, _, _, rfl, _⟩ := h; rfl)
  | (obtain ⟨_, _, _, _, _, _, _, _, _, rfl, _⟩ := h; rfl) | (obtain ⟨_, _, _, _, _, _, _, _, _, _, rfl, _⟩ := h; rfl))
local macro_rules | `(tactic| walk_at "dec") => `(tactic| (first | with_reducible apply w_dec | with_reducible apply w_ndec | with_reducible apply w_bool) <;> intro hc)
def digC (c : Nat) : Bool := decide (48 ≤ c) && decide (c ≤ 57)
def numV (l : List Nat) : V :=
  if l.length < 1 ∨ l.length > 20 then .non else if l.all digC = false then .non else if l.getD 0 0 = 48 ∧ l.length > 1 then .non
  else if NumText.digitsVal l < 18446744073709551616 then .int (NumText.digitsVal l : Nat) else .non
def sp_number_of (_ : Ad) : Sp := fun vs H Q _ => ∃ (z : Str), vs = [.str z] ∧ z.length ≤ 10000 ∧ Q (numV z.cps.toList) H
def sp_l_whole (_ : Ad) : Sp := fun vs H Q _ => ∃ (c : Int), vs = [.int c] ∧ Q (.bl true) H
def sp_l_due (_ : Ad) : Sp := fun vs H Q _ => ∃ (z : Str), vs = [.str z] ∧ z.length ≤ 10000 ∧ Q (numV z.cps.toList) H
def sp_l_spoilt (_ : Ad) : Sp := fun vs H Q _ => ∃ (z : Str) (n : Int), vs = [.str z, .int n] ∧ z.length ≤ 2000 ∧ ∀ y : Str, y.length ≤ 5000 → Q (.str y) H
def sp_l_text (_ : Ad) : Sp := fun vs H Q _ => ∃ (n : Int), vs = [.int n] ∧ ∀ y : Str, y.length ≤ 5000 → ∀ H', Ex H H' → Q (.str y) H'
abbrev sp_law (d : Ad) : Sp := spLaw d.K
abbrev N_number_of : List Str := ["text", "sign", "number"]
def t_number_of (d : Ad) : TS :=
  (tSeq (tIfS (tOr (tTest (tOp rLt (tCB rLenStr (tCons (tVar 0) tNil)) (tC (.int 1)))) (tTest (tOp rGt (tCB rLenStr (tCons (tVar 0) tNil)) (tC (.int 20))))) (tRet (tC .non)) tNext)
  (tSeq (tFor (iStr (tVar 0)) (gName 1) (tIfS (tTest (tOp rNotInS (tVar 1) (tC (.str "0123456789")))) (tRet (tC .non)) tNext))
  (tSeq (tIfS (tAnd (tTest (tOp rEq (tOp rIxS (tVar 0) (tC (.int 0))) (tC (.str "0")))) (tTest (tOp rGt (tCB rLenStr (tCons (tVar 0) tNil)) (tC (.int 1))))) (tRet (tC .non)) tNext)
  (tSeq (tAsg (tCB rIntS (tCons (tVar 0) tNil)) (gName 2))
  (tSeq (tIfS (tTest (tOp rLt (tVar 2) (tC (.int 18446744073709551616)))) (tRet (tVar 2)) tNext)
  (tRet (tC .non)))))))
abbrev N_l_whole : List Str := ["_law_found"]
def t_l_whole (d : Ad) : TS :=
  (tRet (tAndV (tCB (rIsi d.K) (tCons (tVar 0) (tCons (tC (.ty "int")) tNil))) (tNotV (tCB (rIsi d.K) (tCons (tVar 0) (tCons (tC (.ty "bool")) tNil))))))
abbrev N_l_due : List Str := ["_law_text_here", "_law_number", "_law_sign"]
def t_l_due (d : Ad) : TS :=
  (tSeq (tIfS (tOr (tTest (tOp rEq (tVar 0) (tC (.str "")))) (tOr (tTest (tOp rGt (tCB rLenStr (tCons (tVar 0) tNil)) (tC (.int 20)))) (tAnd (tTest (tOp rEq (tOp rIxS (tVar 0) (tC (.int 0))) (tC (.str "0")))) (tTest (tOp rNe (tVar 0) (tC (.str "0"))))))) (tRet (tC .non)) tNext)
  (tSeq (tAsg (tC (.int 0)) (gName 1))
  (tSeq (tFor (iStr (tVar 0)) (gName 2) (tSeq (tIfS (tTest (tOp rNotInS (tVar 2) (tC (.str "0123456789")))) (tRet (tC .non)) tNext)
  (tAsg (aAdd (aMul (tVar 1) (tC (.int 10))) (aIndexS (tC (.str "0123456789")) (tVar 2))) (gName 1))))
  (tSeq (tIfS (tTest (tOp rLt (tVar 1) (aPow (tC (.int 2)) (tC (.int 64))))) (tRet (tVar 1)) tNext)
  (tRet (tC .non))))))
abbrev N_l_spoilt : List Str := ["_law_text_here", "_law_cell", "_law_signs", "_law_sign", "_law_at"]
def t_l_spoilt (d : Ad) : TS :=
  (tSeq (tAsg (tC (.str " !\"#$&'()*+,-./0123456789:;<=>?@ABCDEFGHIJKLMNOPQRSTUVWXYZ[\\]^_`")) (gName 2))
  (tSeq (tAsg (aAddS (tVar 2) (tC (.str "abcdefghijklmnopqrstuvwxyz{|}~0123456789"))) (gName 2))
  (tSeq (tAsg (tOp rIxS (tVar 2) (aMod (aDiv (tVar 1) (tC (.int 2))) (tCB rLenStr (tCons (tVar 2) tNil)))) (gName 3))
  (tSeq (tAsg (aMod (aDiv (tVar 1) (tC (.int 300))) (aAdd (tCB rLenStr (tCons (tVar 0) tNil)) (tC (.int 1)))) (gName 4))
  (tRet (aAddS (aAddS (tSl rSlS (tVar 0) tNoPart (tPart (tVar 4))) (tVar 3)) (tSl rSlS (tVar 0) (tPart (aAdd (tVar 4) (aMod (tVar 1) (tC (.int 2))))) tNoPart)))))))
abbrev N_l_text : List Str := ["_law_cell", "_law_way", "_law_number"]
def t_l_text (d : Ad) : TS :=
  (tSeq (tAsg (aMod (tVar 0) (tC (.int 8))) (gName 1))
  (tSeq (tAsg (aDiv (tVar 0) (tC (.int 8))) (gName 2))
  (tSeq (tIfS (tTest (tOp rEq (tVar 1) (tC (.int 0)))) (tRet (tCB rStrI (tCons (aMod (tVar 2) (tC (.int 1000))) tNil))) tNext)
  (tSeq (tIfS (tTest (tOp rEq (tVar 1) (tC (.int 1)))) (tRet (tCB rStrI (tCons (aAdd (aSub (aPow (tC (.int 2)) (tC (.int 64))) (tC (.int 5))) (aMod (tVar 2) (tC (.int 10)))) tNil))) tNext)
  (tSeq (tIfS (tTest (tOp rEq (tVar 1) (tC (.int 2)))) (tRet (tCB rStrI (tCons (aMod (tVar 2) (aPow (tC (.int 10)) (tC (.int 21)))) tNil))) tNext)
  (tSeq (tIfS (tTest (tOp rEq (tVar 1) (tC (.int 3)))) (tRet (aAddS (aMulS (tC (.str "0")) (aAdd (tC (.int 1)) (aMod (tVar 2) (tC (.int 3))))) (tCB rStrI (tCons (aMod (aDiv (tVar 2) (tC (.int 3))) (aPow (tC (.int 10)) (tC (.int 17)))) tNil)))) tNext)
  (tSeq (tIfS (tTest (tOp rEq (tVar 1) (tC (.int 4)))) (tRet (tOp (rIxL d.K) (tLst (tCons (tC (.str "")) (tCons (tC (.str "0")) (tCons (aMulS (tC (.str "9")) (tC (.int 20))) (tCons (aMulS (tC (.str "9")) (tC (.int 21))) (tCons (tC (.str "18446744073709551615")) (tCons (tC (.str "18446744073709551616")) tNil))))))) (aMod (tVar 2) (tC (.int 6))))) tNext)
  (tSeq (tIfS (tTest (tOp rEq (tVar 1) (tC (.int 5)))) (tRet (aAddS (tC (.str "1")) (aMulS (tC (.str "0")) (aMod (tVar 2) (tC (.int 21)))))) tNext)
  (tRet (tCall (sp_l_spoilt d) [] E0 (tCons (tCB rStrI (tCons (aMod (aDiv (tVar 2) (aPow (tC (.int 10)) (tC (.int 6)))) (aPow (tC (.int 10)) (tC (.int 20)))) tNil)) (tCons (aMod (tVar 2) (aPow (tC (.int 10)) (tC (.int 6)))) tNil))))))))))))
abbrev N_law : List Str := ["_law_script", "_law_cell", "_law_text_here", "_law_found", "_law_due_here"]
def t_law (d : Ad) : TS :=
  (tSeq (tFor (iList d.K (aCat (tLst (tCons (tC (.int 4)) tNil)) (tSl (rSlL d.K) (tVar 0) tNoPart (tPart (tC (.int 60)))))) (gName 1) (tSeq (tAsg (tCall (sp_l_text d) [] E0 (tCons (aMod (tVar 1) (aPow (tC (.int 10)) (tC (.int 60)))) tNil)) (gName 2))
  (tSeq (tAsg (tCall (sp_number_of d) [] E0 (tCons (tVar 2) tNil)) (gName 3))
  (tSeq (tAsg (tCall (sp_l_due d) [] E0 (tCons (tVar 2) tNil)) (gName 4))
  (tSeq (tIfS (tAnd (tTest (tOp rIsN (tVar 4) (tC .non))) (tTest (tOp rNotN (tVar 3) (tC .non)))) (tRet (tC (.bl false))) tNext)
  (tIfS (tAnd (tTest (tOp rNotN (tVar 4) (tC .non))) (tOr (tNot (tB (tCall (sp_l_whole d) [] E0 (tCons (tVar 3) tNil)))) (tTest (tOp rNe (tVar 3) (tVar 4))))) (tRet (tC (.bl false))) tNext))))))
  (tRet (tC (.bl true))))
local macro_rules | `(tactic| walk_at "callx") => `(tactic| fail)
theorem figs : ("0123456789" : Str).cps.toList = (List.range 10).map (· + 48) := by decide +kernel
theorem in_figs (c : Nat) : dB (c ∈ ("0123456789" : Str).cps.toList) = digC c := by
  rw [dB_eq]
  rw [figs]
  by_cases h : 48 ≤ c ∧ c ≤ 57
  · have h2 : digC c = true := by simp [digC, h.1, h.2]
    rw [h2]
    exact decide_eq_true (List.mem_map.mpr ⟨c - 48, List.mem_range.mpr (by omega), by omega⟩)
  · have h2 : digC c = false := by
      by_cases g : 48 ≤ c
      · simp [digC, g]; omega
      · simp [digC, g]
    rw [h2]
    refine decide_eq_false fun q => ?_
    obtain ⟨k, hk, e⟩ := List.mem_map.mp q
    have := List.mem_range.mp hk
    exact h ⟨by omega, by omega⟩
theorem all_take_succ {p : Nat → Bool} {l : List Nat} {i c : Nat} (h : l[i]? = some c) : (l.take (i + 1)).all p = ((l.take i).all p && p c) := by
  rw [List.take_succ, h]
  simp
theorem all_of_not {p : Nat → Bool} {l : List Nat} {i c : Nat} (h : l[i]? = some c) (hp : p c = false) : l.all p = false := by
  rw [List.all_eq_false]
  exact ⟨c, List.mem_of_getElem? h, by simp [hp]⟩
theorem digs_of {l : List Nat} (h : l.all digC = true) : NumText.AllDigits l := fun c hc => by
  have := List.all_eq_true.mp h c hc
  simpa [digC] using this
theorem numV_no {l : List Nat} (h : l.all digC = false) : numV l = .non := by
  unfold numV
  by_cases g : l.length < 1 ∨ l.length > 20
  · rw [if_pos g]
  · rw [if_neg g, if_pos h]
theorem one_eq (c k : Nat) : dB ((⟨#[c]⟩ : Str) = ⟨#[k]⟩) = dB (c = k) := dB_congr ⟨fun q => by injection q with q; simpa using q, fun q => by rw [q]⟩
theorem pure_number_of {d : Ad} {vs : List V} {H : Hp} {Q : VK} {E : XK} (h : sp_number_of d vs H Q E) : t_number_of d { nx := fun _ H' => Q .non H', rt := Q } (start N_number_of vs) H := by
  obtain ⟨z, rfl, hz, k⟩ := h
  have hz' := small_of hz (by decide)
  have hl := len_toList z
  show t_number_of d _ [some (.str z), none, none] H
  unfold t_number_of
  walk_at "go"
  walk_at "dec"
  · walk_at "go"
    have e : numV z.cps.toList = .non := by unfold numV; rw [if_pos (by omega)]
    rw [e] at k; exact k
  walk_at "go"
  walk_at "dec"
  · walk_at "go"
    have e : numV z.cps.toList = .non := by unfold numV; rw [if_pos (by omega)]
    rw [e] at k; exact k
  walk_at "go"
  rename_i h1 h2
  refine for_it walk_str (fun i σ H' => (∃ x, σ = [some (.str z), x, none]) ∧ H' = H ∧ (z.cps.toList.take i).all digC = true) ⟨⟨_, rfl⟩, rfl, rfl⟩ (fun _ _ _ _ _ => trivial) ?_ ?_
  · rintro i x σ H1 H2 hi ⟨⟨x2, rfl⟩, rfl, ha⟩ ⟨rfl, c, hc, rfl⟩
    have hc' : z.cps.toList[i]? = some c := by simpa using hc
    walk_at "go"
    rw [in_figs]
    cases hd : digC c with
    | true =>
      walk_at "go"
      refine ⟨⟨_, rfl⟩, rfl, ?_⟩
      rw [all_take_succ hc', ha, hd]; rfl
    | false =>
      walk_at "go"
      rw [numV_no (all_of_not hc' hd)] at k
      exact k
  · rintro σ H1 ⟨⟨x2, rfl⟩, rfl, ha⟩
    rw [List.take_of_length_le (by rw [Array.length_toList]; exact Nat.le_refl _)] at ha
    walk_at "go"
    refine w_ixSn hz' (by omega) (by omega) ?_
    walk_at "go"
    rw [show ("0" : Str) = ⟨#[48]⟩ from by decide, one_eq]
    have e0 : numV z.cps.toList = if z.cps.toList.getD 0 0 = 48 ∧ z.cps.toList.length > 1 then .non
        else if NumText.digitsVal z.cps.toList < 18446744073709551616 then .int (NumText.digitsVal z.cps.toList : Nat) else .non := by
      unfold numV
      rw [if_neg (by omega), if_neg (by rw [ha]; decide)]
    rw [e0] at k
    by_cases hh : z.cps.toList.getD 0 0 = 48 ∧ z.cps.toList.length > 1
    · rw [if_pos hh] at k
      rw [dB_t (show z.cps.toList.getD (Int.toNat 0) 0 = 48 from hh.1)]
      walk_at "go"
      refine w_tt (dB_t (by omega)) ?_
      walk_at "go"
      exact k
    · rw [if_neg hh] at k
      have hi := intText_digits (digs_of ha) (by intro e; rw [e] at hl; simp at hl; omega) (by omega)
      by_cases g1 : z.cps.toList.getD (Int.toNat 0) 0 = 48
      case' pos =>
        rw [dB_t g1]
        walk_at "go"
        refine w_ff (dB_f (by intro g2; exact hh ⟨g1, by omega⟩)) ?_
        walk_at "go"
      case' neg =>
        rw [dB_f g1]
        walk_at "go"
      all_goals
        refine ⟨z, _, rfl, hi, by omega, ?_⟩
        walk_at "go"
        walk_at "dec"
        · walk_at "go"
          rename_i g
          rw [if_pos (by omega)] at k
          exact k
        · walk_at "go"
          rename_i g
          rw [if_neg (by omega)] at k
          exact k
theorem pure_l_whole {d : Ad} {vs : List V} {H : Hp} {Q : VK} {E : XK} (h : sp_l_whole d vs H Q E) : t_l_whole d { nx := fun _ H' => Q .non H', rt := Q } (start N_l_whole vs) H := by
  obtain ⟨c, rfl, k⟩ := h
  show t_l_whole d _ [some (.int c)] H
  unfold t_l_whole
  walk_at "go"
  exact k
theorem ix10 : ∀ k, k < 10 → Builtin.Str.occurrences ("0123456789" : Str) ⟨#[48 + k]⟩ 0 ("0123456789" : Str).length 1 = [k] := by decide +kernel
theorem ix_dig {c : Nat} (h : digC c = true) : Builtin.Str.occurrences ("0123456789" : Str) ⟨#[c]⟩ 0 ("0123456789" : Str).length 1 = [c - 48] := by
  have h' : 48 ≤ c ∧ c ≤ 57 := by simpa [digC] using h
  have := ix10 (c - 48) (by omega)
  rwa [show 48 + (c - 48) = c by omega] at this
theorem val_take {l : List Nat} {i c : Nat} (h : l[i]? = some c) : NumText.digitsVal (l.take (i + 1)) = NumText.digitsVal (l.take i) * 10 + (c - 48) := by
  unfold NumText.digitsVal
  rw [List.take_succ, h, List.foldl_append]
  rfl
theorem z_empty {z : Str} : dB (z = "") = dB (z.length = 0) := by
  refine dB_congr ⟨fun q => by rw [q]; rfl, fun h => ?_⟩
  obtain ⟨⟨l⟩⟩ := z
  have h' : l.length = 0 := h
  have : l = [] := List.length_eq_zero_iff.mp h'
  subst this; rfl
theorem z_zero {z : Str} : dB (z = "0") = (dB (z.cps.toList.getD 0 0 = 48) && dB (z.length = 1)) := by
  obtain ⟨⟨l⟩⟩ := z
  show dB ((⟨⟨l⟩⟩ : Str) = ⟨#[48]⟩) = (dB (l.getD 0 0 = 48) && dB (l.length = 1))
  have e : dB ((⟨⟨l⟩⟩ : Str) = ⟨#[48]⟩) = dB (l = [48]) := dB_congr ⟨fun q => by injection q with q; injection q, fun q => by rw [q]⟩
  rw [e, dB_eq, dB_eq, dB_eq]
  match l with
  | [] => decide
  | [a] => simp
  | a :: b :: r => simp
theorem pure_l_due {d : Ad} {vs : List V} {H : Hp} {Q : VK} {E : XK} (h : sp_l_due d vs H Q E) : t_l_due d { nx := fun _ H' => Q .non H', rt := Q } (start N_l_due vs) H := by
  obtain ⟨z, rfl, hz, k⟩ := h
  have hz' := small_of hz (by decide)
  have hl := len_toList z
  show t_l_due d _ [some (.str z), none, none] H
  unfold t_l_due
  walk_at "go"
  rw [z_empty]
  walk_at "dec"
  · walk_at "go"
    have e : numV z.cps.toList = .non := by unfold numV; rw [if_pos (by omega)]
    rw [e] at k; exact k
  walk_at "go"
  walk_at "dec"
  · walk_at "go"
    have e : numV z.cps.toList = .non := by unfold numV; rw [if_pos (by omega)]
    rw [e] at k; exact k
  walk_at "go"
  refine w_ixSn hz' (by omega) (by omega) ?_
  walk_at "go"
  rename_i h1 h2
  rw [show dB ((⟨#[z.cps.toList.getD (Int.toNat 0) 0]⟩ : Str) = "0") = dB (z.cps.toList.getD 0 0 = 48) from one_eq _ _]
  have e1 : numV z.cps.toList = if z.cps.toList.all digC = false then .non else if z.cps.toList.getD 0 0 = 48 ∧ z.cps.toList.length > 1 then .non
        else if NumText.digitsVal z.cps.toList < 18446744073709551616 then .int (NumText.digitsVal z.cps.toList : Nat) else .non := by
    unfold numV
    rw [if_neg (by omega)]
  by_cases g1 : z.cps.toList.getD 0 0 = 48 ∧ z.cps.toList.length > 1
  · rw [dB_t g1.1]
    walk_at "go"
    rw [z_zero, dB_f (show ¬ z.length = 1 by omega), Bool.and_false]
    walk_at "go"
    have e2 : numV z.cps.toList = .non := by
      rw [e1]
      split <;> rfl
    rw [e2] at k
    exact k
  · rw [if_neg g1] at e1
    by_cases g2 : z.cps.toList.getD 0 0 = 48
    case' pos =>
      rw [dB_t g2]
      walk_at "go"
      rw [z_zero, dB_t (show z.length = 1 by omega), dB_t g2]
      walk_at "go"
    case' neg =>
      rw [dB_f g2]
      walk_at "go"
    all_goals
      refine for_it walk_str (fun i σ H' => (∃ x, σ = [some (.str z), some (.int (NumText.digitsVal (z.cps.toList.take i) : Nat)), x]) ∧ H' = H ∧ (z.cps.toList.take i).all digC = true) ⟨⟨_, rfl⟩, rfl, rfl⟩ (fun _ _ _ _ _ => trivial) ?_ ?_
      · rintro i x σ H1 H2 hi ⟨⟨x2, rfl⟩, rfl, ha⟩ ⟨rfl, c, hc, rfl⟩
        have hc' : z.cps.toList[i]? = some c := by simpa using hc
        walk_at "go"
        rw [in_figs]
        cases hd : digC c with
        | true =>
          walk_at "go"
          refine ⟨_, _, _, _, rfl, rfl, ix_dig hd, ?_⟩
          walk_at "go"
          refine ⟨⟨some (.str ⟨#[c]⟩), ?_⟩, rfl, ?_⟩
          · rw [val_take hc']; simp
          · rw [all_take_succ hc', ha, hd]; rfl
        | false =>
          walk_at "go"
          rw [numV_no (all_of_not hc' hd)] at k
          exact k
      · rintro σ H1 ⟨⟨x2, rfl⟩, rfl, ha⟩
        rw [List.take_of_length_le (by rw [Array.length_toList]; exact Nat.le_refl _)] at ha
        rw [List.take_of_length_le (by rw [Array.length_toList]; exact Nat.le_refl _)]
        rw [if_neg (by rw [ha]; decide)] at e1
        walk_at "go"
        rw [show (2 : Int) ^ (64 : Int).toNat = 18446744073709551616 by decide]
        rw [e1] at k
        walk_at "dec"
        · walk_at "go"
          rename_i g
          rw [if_pos (by omega)] at k
          exact k
        · walk_at "go"
          rename_i g
          rw [if_neg (by omega)] at k
          exact k
theorem pure_l_spoilt {d : Ad} {vs : List V} {H : Hp} {Q : VK} {E : XK} (h : sp_l_spoilt d vs H Q E) : t_l_spoilt d { nx := fun _ H' => Q .non H', rt := Q } (start N_l_spoilt vs) H := by
  obtain ⟨z, n, rfl, hz, k⟩ := h
  have hz' := small_of hz (by decide)
  show t_l_spoilt d _ [some (.str z), some (.int n), none, none, none] H
  unfold t_l_spoilt
  walk_at "go"
  generalize hw : ((" !\"#$&'()*+,-./0123456789:;<=>?\x40ABCDEFGHIJKLMNOPQRSTUVWXYZ[\\]^_`" : Str) ++ ("abcdefghijklmnopqrstuvwxyz{|}~0123456789" : Str)) = w
  have hw1 : w.length = 104 := by rw [← hw]; decide +kernel
  have hw2 : w.length ≤ sizeLine := by rw [sizeLine_eq]; omega
  walk_at "go"
  refine w_ixSn hw2 (by rw [hw1]; omega) (by rw [hw1]; omega) ?_
  have h1 := cutS_length z none (some (n / 300 % ((z.length : Int) + 1)))
  have h2 := cutS_length z (some (n / 300 % ((z.length : Int) + 1) + n % 2)) none
  walk_at "go"
  exact k _ (by rw [str_len_app, str_len_app, sign_len]; omega)
theorem c_spoilt {d : Ad} {z : Str} {n : Int} {H : Hp} {Q : VK} {E : XK} (h : z.length ≤ 2000) (q : ∀ y : Str, y.length ≤ 5000 → Q (.str y) H) : sp_l_spoilt d [.str z, .int n] H Q E := ⟨z, n, rfl, h, q⟩
theorem menu_item {xs : List V} {i : Int} {P : V → Prop} (h0 : 0 ≤ i) (h1 : i < xs.length) (h : ∀ x ∈ xs, P x) : ∃ v, atI xs i = some v ∧ P v :=
  ⟨_, atI_lt h0 h1, by
    rw [List.getD_eq_getElem?_getD, List.getElem?_eq_getElem (by omega)]
    exact h _ (List.getElem_mem _)⟩
theorem pure_l_text {d : Ad} {vs : List V} {H : Hp} {Q : VK} {E : XK} (h : sp_l_text d vs H Q E) : t_l_text d { nx := fun _ H' => Q .non H', rt := Q } (start N_l_text vs) H := by
  obtain ⟨n, rfl, k⟩ := h
  show t_l_text d _ [some (.int n), none, none] H
  unfold t_l_text
  have p21 : (10 : Int) ^ (21 : Int).toNat < 2 ^ 1000 := by decide +kernel
  have p17 : (10 : Int) ^ (17 : Int).toNat < 2 ^ 1000 := by decide +kernel
  have p20 : (10 : Int) ^ (20 : Int).toNat < 2 ^ 1000 := by decide +kernel
  have pw : (2 : Int) ^ (64 : Int).toNat + 100 < 2 ^ 1000 := by decide +kernel
  have q0 : (1000 : Int) < 2 ^ 1000 := by decide +kernel
  have q21 : (0 : Int) < (10 : Int) ^ (21 : Int).toNat := by decide +kernel
  have q17 : (0 : Int) < (10 : Int) ^ (17 : Int).toNat := by decide +kernel
  have q20 : (0 : Int) < (10 : Int) ^ (20 : Int).toNat := by decide +kernel
  have pww : (100 : Int) < (2 : Int) ^ (64 : Int).toNat := by decide +kernel
  walk_at "go"
  walk_at "dec"
  · walk_at "go"
    refine w_strL (by omega) (Int.lt_trans (Int.emod_lt_of_pos _ (by decide)) q0) fun y hy => ?_
    exact k y (by omega) _ (Evl.Ex.refl _)
  walk_at "go"
  walk_at "dec"
  · walk_at "go"
    generalize (2 : Int) ^ (64 : Int).toNat = W at *
    generalize h1000 : (2 : Int) ^ 1000 = X at *
    refine w_strL (by omega) (by rw [h1000]; omega) fun y hy => ?_
    exact k y (by omega) _ (Evl.Ex.refl _)
  walk_at "go"
  walk_at "dec"
  · walk_at "go"
    refine w_strL (Int.emod_nonneg _ (by omega)) (Int.lt_trans (Int.emod_lt_of_pos _ q21) p21) fun y hy => ?_
    exact k y (by omega) _ (Evl.Ex.refl _)
  walk_at "go"
  walk_at "dec"
  · walk_at "go"
    refine w_mulS (by omega) (by omega) (by decide) fun y hy => ?_
    walk_at "go"
    refine w_strL (Int.emod_nonneg _ (by omega)) (Int.lt_trans (Int.emod_lt_of_pos _ q17) p17) fun x hx => ?_
    have hy' : y.length ≤ 3 := Nat.le_trans hy (by rw [show ("0" : Str).length = 1 from rfl]; omega)
    walk_at "go"
    exact k _ (by rw [str_len_app]; omega) _ (Evl.Ex.refl _)
  walk_at "go"
  walk_at "dec"
  · walk_at "go"
    refine w_mulS (by omega) (by omega) (by decide) fun y hy => ?_
    walk_at "go"
    refine w_mulS (by omega) (by omega) (by decide) fun x hx => ?_
    walk_at "goN"
    rename_i p hp H1 e1 f1
    obtain ⟨v, hv, z, rfl, hz⟩ := menu_item (xs := [.str "", .str "0", .str y, .str x, .str "18446744073709551615", .str "18446744073709551616"]) (i := n / 8 % 6) (P := fun v => ∃ z : Str, v = .str z ∧ z.length ≤ 2000) (by omega) (by show _ < (6 : Int); omega) (by
      simp only [List.mem_cons, List.not_mem_nil, or_false, forall_eq_or_imp, forall_eq]
      have e9 : ("9" : Str).length = 1 := rfl
      rw [e9] at hx hy
      refine ⟨⟨_, rfl, by decide⟩, ⟨_, rfl, by decide⟩, ⟨_, rfl, ?_⟩, ⟨_, rfl, ?_⟩, ⟨_, rfl, by decide +kernel⟩, ⟨_, rfl, by decide +kernel⟩⟩
      · have : (20 : Int).toNat = 20 := rfl
        omega
      · have : (21 : Int).toNat = 21 := rfl
        omega)
    refine w_ixL (SqL.of f1) hv ?_
    exact k z (by omega) _ e1
  walk_at "go"
  walk_at "dec"
  · walk_at "go"
    refine w_mulS (by omega) (by omega) (by decide) fun y hy => ?_
    have hy' : y.length ≤ 21 := Nat.le_trans hy (by rw [show ("0" : Str).length = 1 from rfl]; omega)
    have h1 : ("1" : Str).length = 1 := rfl
    refine w_addS (by rw [sizeLine_eq, h1]; omega) ?_
    exact k _ (by rw [str_len_app, h1]; omega) _ (Evl.Ex.refl _)
  walk_at "go"
  refine w_strL (Int.emod_nonneg _ (by omega)) (Int.lt_trans (Int.emod_lt_of_pos _ q20) p20) fun y hy => ?_
  walk_at "go"
  refine c_spoilt (by omega) fun z hz => ?_
  exact k z hz _ (Evl.Ex.refl _)
theorem numV_is (l : List Nat) : numV l = .non ∨ ∃ n, numV l = .int n := by
  unfold numV
  repeat' split
  all_goals first | exact Or.inl rfl | exact Or.inr ⟨_, rfl⟩
theorem pure_law {d : Ad} {vs : List V} {H : Hp} {Q : VK} {E : XK} (h : sp_law d vs H Q E) : t_law d { nx := fun _ H' => Q .non H', rt := Q } (start N_law vs) H := by
  obtain ⟨a, ns, rfl, hS, hlen, k⟩ := h
  show t_law d _ [some (.ref a), none, none, none, none] H
  unfold t_law
  walk_at "goN"
  rename_i p hp H2 e2 f2 q hq H3 e3 f3
  refine w_cat (by walk_at "hk") (by walk_at "hk") (by rw [sizeLine_eq, show (60 : Int) = ((60 : Nat) : Int) from rfl, cutV_to]; simp; omega) ?_
  walk_at "goN"
  rename_i c hc H4 e4 f4
  rw [show (60 : Int) = ((60 : Nat) : Int) from rfl, cutV_to, ← List.map_take] at f4
  have f4' : H4 c = some (.lst ((4 :: ns.take 60).map V.int)) := f4
  refine f_list (SqL.of f4') (fun i σ H => (∃ x1 x2 x3 x4, σ = [some (.ref a), x1, x2, x3, x4]) ∧ Ex H4 H) ⟨⟨_, _, _, _, rfl⟩, Evl.Ex.refl _⟩ (fun i σ H _ p => SqL.of (p.2 _ _ f4')) ?_ ?_
  · rintro i x σ H5 hi ⟨⟨x1, x2, x3, x4, rfl⟩, e5⟩
    obtain ⟨n, rfl, _⟩ := int_item hi
    walk_at "go"
    refine ⟨_, rfl, fun z hz H6 e6 => ?_⟩
    walk_at "go"
    refine ⟨z, rfl, by omega, ?_⟩
    walk_at "go"
    refine ⟨z, rfl, by omega, ?_⟩
    rcases numV_is z.cps.toList with e | ⟨m, e⟩
    · rw [e]
      walk_at "go"
      exact ⟨⟨_, _, _, _, rfl⟩, e5.trans e6⟩
    · rw [e]
      walk_at "go"
      refine ⟨_, rfl, ?_⟩
      walk_at "go"
      refine w_ff (nB_f rfl) ?_
      walk_at "go"
      exact ⟨⟨_, _, _, _, rfl⟩, e5.trans e6⟩
  · rintro σ H5 ⟨⟨x1, x2, x3, x4, rfl⟩, e5⟩
    walk_at "go"
    exact k _
end RT

set_option Elab.async false
set_option linter.all false
set_option maxRecDepth 100000
set_option maxHeartbeats 2000000
namespace Row
open PySem L2 RT
local macro_rules | `(tactic| walk_at "kit") => `(tactic| first | exact kit_int_int | exact kit_int_bool | exact kit_int_str | exact kit_int_list | exact kit_int_tuple | exact kit_int_dict | exact kit_bool_int | exact kit_bool_bool | exact kit_bool_str | exact kit_bool_list | exact kit_bool_tuple | exact kit_bool_dict | exact kit_str_int | exact kit_str_bool | exact kit_str_str | exact kit_str_list | exact kit_str_tuple | exact kit_str_dict | exact kit_NoneType_int | exact kit_NoneType_bool | exact kit_NoneType_str | exact kit_NoneType_list | exact kit_NoneType_tuple | exact kit_NoneType_dict | exact kit_list_int | exact kit_list_bool | exact kit_list_str | exact kit_list_list | exact kit_list_tuple | exact kit_list_dict | exact kit_tuple_int | exact kit_tuple_bool | exact kit_tuple_str | exact kit_tuple_list | exact kit_tuple_tuple | exact kit_tuple_dict | exact kit_dict_int | exact kit_dict_bool | exact kit_dict_str | exact kit_dict_list | exact kit_dict_tuple | exact kit_dict_dict)
local macro_rules | `(tactic| walk_at "hk") => `(tactic| first | assumption | exact ex_at (by assumption) (by walk_at "hk"))
local macro_rules | `(tactic| walk_at "sq") => `(tactic| first | assumption | exact SqL.of (by walk_at "hk") | exact ex_sq (by assumption) (by walk_at "sq"))
local macro_rules | `(tactic| walk_at "st") => `(tactic| first | assumption | exact SqT.of (by walk_at "hk") | exact ex_st (by assumption) (by walk_at "st"))
local macro_rules | `(tactic| walk_at "new") => `(tactic| (intro p hp; generalize hU : upd _ p _ = H'; have e1 := new_ex hp hU; have e2 := new_at hU; clear hU))
local macro_rules | `(tactic| walk_at "set") => `(tactic| ((try simp only [List.set_cons_succ, List.set_cons_zero]); rfl))
local macro_rules | `(tactic| walk_at "small") => `(tactic| first | assumption | (rw [sizeLine_eq]; (try simp only [List.length_cons, List.length_nil, str_len_app, sign_len]); omega) | (with_unfolding_all decide))
local macro_rules | `(tactic| walk_at "sc") => `(tactic| first | assumption | decide | omega | (unfold CMul; omega) | (unfold CDiv; omega) | (unfold CPow; decide) | (unfold CDiv; decide))
local macro_rules | `(tactic| walk_at "step") => `(tactic| first
  | with_reducible refine' w_seq ?_
  | with_reducible refine' w_op ?_
  | ((with_reducible refine' w_var ?h ?_); (case h => rfl))
  | with_reducible refine' w_c ?_
  | with_reducible refine' w_i0 ?_
  | with_reducible refine' w_cons ?_
  | with_reducible refine' w_nil ?_
  | with_reducible refine' w_asg ?_
  | ((with_reducible refine' w_gn ?e ?_); (case e => walk_at "set"))
  | with_reducible refine' w_ifS ?_
  | with_reducible refine' w_test ?_
  | with_reducible refine' w_tB ?_
  | with_reducible refine' w_bl ?_
  | with_reducible refine' w_int ?_
  | with_reducible refine' w_ref ?_
  | with_reducible refine' w_str ?_
  | with_reducible refine' w_eqI ?_
  | with_reducible refine' w_neI ?_
  | with_reducible refine' w_eqS ?_
  | with_reducible refine' w_neS ?_
  | with_reducible refine' w_ret ?_
  | with_reducible refine' w_for ?_
  | with_reducible refine' w_m1 ?_
  | with_reducible refine' w_isS ?_
  | with_reducible refine' w_lc ?_
  | with_reducible refine' w_iList ?_
  | with_reducible refine' w_iTup ?_
  | with_reducible refine' w_iStr ?_
  | with_reducible refine' w_iRng1 ?_
  | with_reducible refine' w_iRng2 ?_
  | with_reducible refine' w_v1I ?_
  | with_reducible refine' w_v2I ?_
  | with_reducible refine' w_next ?_
  | with_reducible refine' w_call ?_
  | with_reducible refine' w_cb ?_
  | with_reducible refine' w_and ?_
  | with_reducible refine' w_or ?_
  | with_reducible refine' w_not ?_
  | with_reducible refine' w_andV ?_
  | with_reducible refine' w_orV ?_
  | with_reducible refine' w_notV ?_
  | with_reducible refine' w_ifE ?_
  | with_reducible refine' w_drop ?_
  | with_reducible refine' w_un ?_
  | with_reducible refine' w_u ?_
  | with_reducible refine' w_isNN ?_
  | with_reducible refine' w_isNI ?_
  | with_reducible refine' w_isNS ?_
  | with_reducible refine' w_isNR ?_
  | with_reducible refine' w_notNN ?_
  | with_reducible refine' w_notNI ?_
  | with_reducible refine' w_notNS ?_
  | with_reducible refine' w_notNR ?_
  | with_reducible refine' w_int1 ?_
  | with_reducible refine' w_int1b ?_
  | with_reducible refine' w_tup ?_
  | with_reducible refine' w_lst ?_
  | with_reducible refine' w_dnew ?_
  | with_reducible refine' w_sl ?_
  | with_reducible refine' w_noPart ?_
  | with_reducible refine' w_part ?_
  | with_reducible refine' w_retN ?_
  | with_reducible refine' w_brk ?_
  | with_reducible refine' w_cont ?_
  | with_reducible refine' w_chain ?_
  | with_reducible refine' w_lt ?_
  | with_reducible refine' w_le ?_
  | with_reducible refine' w_gt ?_
  | with_reducible refine' w_ge ?_
  | with_reducible refine' w_ltS ?_
  | with_reducible refine' w_leS ?_
  | with_reducible refine' w_gtS ?_
  | with_reducible refine' w_geS ?_
  | ((with_reducible refine' w_addS ?h ?_); (case h => walk_at "small"))
  | with_reducible refine' w_inS ?_
  | with_reducible refine' w_ninS ?_
  | with_reducible refine' w_par ?_
  | with_reducible refine' w_v2 ?_
  | with_reducible refine' w_max2 ?_
  | with_reducible refine' w_min2 ?_
  | with_reducible refine' w_tru ?_
  | with_reducible refine' w_meth ?_
  | with_reducible refine' w_make ?_
  | ((with_reducible refine' w_isiI ?h ?_); (case h => walk_at "kit"))
  | ((with_reducible refine' w_isiB ?h ?_); (case h => walk_at "kit"))
  | ((with_reducible refine' w_isiN ?h ?_); (case h => walk_at "kit"))
  | ((with_reducible refine' w_isiS ?h ?_); (case h => walk_at "kit"))
  | ((with_reducible refine' w_i ?h ?_); (case h => walk_at "sc"))
  | with_reducible refine' w_ttL ?_
  | with_reducible refine' w_ffL ?_
  | ((with_reducible refine' w_tt ?h ?_); (case h => first | exact dB_t (by decide) | exact nB_t (by decide) | decide))
  | ((with_reducible refine' w_ff ?h ?_); (case h => first | exact dB_f (by decide) | exact nB_f (by decide) | decide))
  | ((with_reducible refine' w_lenS ?h ?_); (case h => walk_at "sq"))
  | ((with_reducible refine' w_lenT ?h ?_); (case h => walk_at "st"))
  | ((with_reducible refine' w_slL ?h ?_); (case h => walk_at "sq"))
  | ((with_reducible refine' w_aug ?h ?_); (case h => rfl))
  | with_reducible refine' w_ip ?_
  | ((with_reducible refine' w_cat ?h1 ?h2 ?h3 ?_); (case h1 => walk_at "hk"); (case h2 => walk_at "hk"); (case h3 => walk_at "small"))
  | ((with_reducible refine' w_ixL ?h1 ?h2 ?_); (case h1 => walk_at "sq"); (case h2 => rfl))
  | ((with_reducible refine' w_ixT ?h1 ?h2 ?_); (case h1 => walk_at "st"); (case h2 => rfl))
  | ((with_reducible refine' w_lenStr ?h ?_); (case h => walk_at "small"))
  | ((with_reducible refine' w_slS ?h ?_); (case h => walk_at "small"))
  | ((with_reducible refine' w_sz ?h ?_); (case h => walk_at "small")))
local macro_rules | `(tactic| walk_at "go") => `(tactic| (repeat (first | walk_at "step" | walk_at "callx")))
local macro_rules | `(tactic| walk_at "goN") => `(tactic| (repeat (first | walk_at "step" | walk_at "callx" | ((with_reducible show ∀ p, _ = none → _); walk_at "new"))))
local macro_rules | `(tactic| walk_at "len") => `(tactic| first
  | (obtain ⟨rfl, _⟩ := h; rfl) | (obtain ⟨_, rfl, _⟩ := h; rfl) | (obtain ⟨_, _, rfl, _⟩ := h; rfl) | (obtain ⟨_, _, _, rfl, _⟩ := h; rfl) | (obtain ⟨_, _, _, _, rfl, _⟩ := h; rfl)
  | (obtain ⟨_, _, _, _, _, rfl, _⟩ := h; rfl) | (obtain ⟨_, _, _, _, _, _, rfl, _⟩ := h; rfl) | (obtain ⟨_, _, _, _, _, _, _, rfl, _⟩ := h; rfl) | (obtain ⟨_, _, _, _, _, _, _, _, rfl, _⟩ := h; rfl)
  | (obtain ⟨_, _, _, _, _, _, _, _, _, rfl, _⟩ := h; rfl) | (obtain ⟨_, _, _, _, _, _, _, _, _, _, rfl, _⟩ := h; rfl))
local macro_rules | `(tactic| walk_at "dec") => `(tactic| (first | with_reducible apply w_dec | with_reducible apply w_ndec | with_reducible apply w_bool) <;> intro hc)
def top (i : Nat) : Stmt := PySem.Challenge.pw_retryhall_k02_numbers_read.main.body.getD i (.Pass ⟨0, 0, 0, 0⟩)
abbrev s_number_of : Stmt := top 3
theorem sc_number_of : FnScope N_number_of ["text"] (defScope s_number_of) := ⟨rfl, rfl, rfl, by decide +kernel, rfl, by decide +kernel, by decide +kernel⟩
abbrev s_l_whole : Stmt := top 5
theorem sc_l_whole : FnScope N_l_whole ["_law_found"] (defScope s_l_whole) := ⟨rfl, rfl, rfl, by decide +kernel, rfl, by decide +kernel, by decide +kernel⟩
abbrev s_l_due : Stmt := top 6
theorem sc_l_due : FnScope N_l_due ["_law_text_here"] (defScope s_l_due) := ⟨rfl, rfl, rfl, by decide +kernel, rfl, by decide +kernel, by decide +kernel⟩
abbrev s_l_spoilt : Stmt := top 7
theorem sc_l_spoilt : FnScope N_l_spoilt ["_law_text_here", "_law_cell"] (defScope s_l_spoilt) := ⟨rfl, rfl, rfl, by decide +kernel, rfl, by decide +kernel, by decide +kernel⟩
abbrev s_l_text : Stmt := top 8
theorem sc_l_text : FnScope N_l_text ["_law_cell"] (defScope s_l_text) := ⟨rfl, rfl, rfl, by decide +kernel, rfl, by decide +kernel, by decide +kernel⟩
abbrev s_law : Stmt := top 9
theorem sc_law : FnScope N_law ["_law_script"] (defScope s_law) := ⟨rfl, rfl, rfl, by decide +kernel, rfl, by decide +kernel, by decide +kernel⟩
structure Fs where
  f_number_of : Addr
  d_number_of : FuncData
  f_l_whole : Addr
  d_l_whole : FuncData
  f_l_due : Addr
  d_l_due : FuncData
  f_l_spoilt : Addr
  d_l_spoilt : FuncData
  f_l_text : Addr
  d_l_text : FuncData
  f_law : Addr
  d_law : FuncData
  k_FIGURES : Tok
  k_WIDE : Tok
structure Txt (d : Ad) (mg : Str → Option Value) (z : Fs) : Prop where
  F_number_of : Fun d.K "number_of" "number_of" s_number_of z.f_number_of z.d_number_of
  B_number_of : Binds d.K z.d_number_of ["text"] []
  m_number_of : mg "number_of" = some (.ref z.f_number_of)
  F_l_whole : Fun d.K "_law_whole" "_law_whole" s_l_whole z.f_l_whole z.d_l_whole
  B_l_whole : Binds d.K z.d_l_whole ["_law_found"] []
  m_l_whole : mg "_law_whole" = some (.ref z.f_l_whole)
  F_l_due : Fun d.K "_law_due" "_law_due" s_l_due z.f_l_due z.d_l_due
  B_l_due : Binds d.K z.d_l_due ["_law_text_here"] []
  m_l_due : mg "_law_due" = some (.ref z.f_l_due)
  F_l_spoilt : Fun d.K "_law_spoilt" "_law_spoilt" s_l_spoilt z.f_l_spoilt z.d_l_spoilt
  B_l_spoilt : Binds d.K z.d_l_spoilt ["_law_text_here", "_law_cell"] []
  m_l_spoilt : mg "_law_spoilt" = some (.ref z.f_l_spoilt)
  F_l_text : Fun d.K "_law_text" "_law_text" s_l_text z.f_l_text z.d_l_text
  B_l_text : Binds d.K z.d_l_text ["_law_cell"] []
  m_l_text : mg "_law_text" = some (.ref z.f_l_text)
  F_law : Fun d.K "law" "law" s_law z.f_law z.d_law
  B_law : Binds d.K z.d_law ["_law_script"] []
  m_law : mg "law" = some (.ref z.f_law)
  b_bool : mg "bool" = none
  b_int : mg "int" = none
  b_isinstance : mg "isinstance" = none
  b_len : mg "len" = none
  b_str : mg "str" = none
  g_FIGURES : mg "FIGURES" = some (.str "0123456789" z.k_FIGURES)
  g_WIDE : mg "WIDE" = some (.int 18446744073709551616 z.k_WIDE)
section
variable {P : Program} {w : World} {mg : Str → Option Value} {base : Heap} {d : Ad} {z : Fs}
theorem ok_number_of (T : Txt d mg z) : FnOk P w d.K mg base CX0 1 z.f_number_of z.d_number_of ["text"] (sp_number_of d) := by
  refine T.F_number_of.ok sc_number_of (fun vs H Q E h => by first | (obtain ⟨rfl, _⟩ := h; rfl) | (obtain ⟨_, rfl, _⟩ := h; rfl) | (obtain ⟨_, _, rfl, _⟩ := h; rfl) | (obtain ⟨_, _, _, rfl, _⟩ := h; rfl) | (obtain ⟨_, _, _, _, rfl, _⟩ := h; rfl) | (obtain ⟨_, _, _, _, _, rfl, _⟩ := h; rfl) | (obtain ⟨_, _, _, _, _, _, rfl, _⟩ := h; rfl) | (obtain ⟨_, _, _, _, _, _, _, rfl, _⟩ := h; rfl) | (obtain ⟨_, _, _, _, _, _, _, _, rfl, _⟩ := h; rfl) | (obtain ⟨_, _, _, _, _, _, _, _, _, rfl, _⟩ := h; rfl) | (obtain ⟨_, _, _, _, _, _, _, _, _, _, rfl, _⟩ := h; rfl)) (fun cdv A outer s H vs Q E hr h => ⟨t_number_of d, ?_, pure_number_of  h⟩)
  exact (pss_cons (ps_if (PW.pt (pw_or (pt_cmpR o_lt (pe_callB call_len_str (by rfl) T.b_len (by decide +kernel) (pa_cons (pv 0) pa_nil)) pe_int (nomark _)) (pw_or1 (pt_cmpR o_gt (pe_callB call_len_str (by rfl) T.b_len (by decide +kernel) (pa_cons (pv 0) pa_nil)) pe_int (nomark _))))) (pss_one (ps_ret pe_non)) pss_nil)
      (pss_cons (ps_for PassesOwn.never rfl (pi_str (pv 0)) (pg_name (i := 1) sc_number_of.nd rfl (Or.inl rfl)) (pss_one (ps_if (pt_cmpR op_notIn_sign (pv 1) (pe_glob rfl T.g_FIGURES ⟨_, rfl⟩) (by rfl)) (pss_one (ps_ret pe_non)) pss_nil)))
      (pss_cons (ps_if (PW.pt (pw_and (pt_cmpR op_eq (pe_ix ix_str (pv 0) pe_int (fun _ _ => rfl)) pe_str (nomark _)) (pw_and1 (pt_cmpR o_gt (pe_callB call_len_str (by rfl) T.b_len (by decide +kernel) (pa_cons (pv 0) pa_nil)) pe_int (nomark _))))) (pss_one (ps_ret pe_non)) pss_nil)
      (pss_cons (ps_set (i := 2) sc_number_of.nd rfl (Or.inl rfl) (pe_callTy call_int_str (by rfl) T.b_int (by decide +kernel) (pa_cons (pv 0) pa_nil)))
      (pss_cons (ps_if (pt_cmpR o_lt (pv 2) (pe_glob rfl T.g_WIDE ⟨_, rfl⟩) (nomark _)) (pss_one (ps_ret (pv 2))) pss_nil)
      (pss_one (ps_ret pe_non)))))))
theorem ok_l_whole (T : Txt d mg z) : FnOk P w d.K mg base CX0 1 z.f_l_whole z.d_l_whole ["_law_found"] (sp_l_whole d) := by
  refine T.F_l_whole.ok sc_l_whole (fun vs H Q E h => by first | (obtain ⟨rfl, _⟩ := h; rfl) | (obtain ⟨_, rfl, _⟩ := h; rfl) | (obtain ⟨_, _, rfl, _⟩ := h; rfl) | (obtain ⟨_, _, _, rfl, _⟩ := h; rfl) | (obtain ⟨_, _, _, _, rfl, _⟩ := h; rfl) | (obtain ⟨_, _, _, _, _, rfl, _⟩ := h; rfl) | (obtain ⟨_, _, _, _, _, _, rfl, _⟩ := h; rfl) | (obtain ⟨_, _, _, _, _, _, _, rfl, _⟩ := h; rfl) | (obtain ⟨_, _, _, _, _, _, _, _, rfl, _⟩ := h; rfl) | (obtain ⟨_, _, _, _, _, _, _, _, _, rfl, _⟩ := h; rfl) | (obtain ⟨_, _, _, _, _, _, _, _, _, _, rfl, _⟩ := h; rfl)) (fun cdv A outer s H vs Q E hr h => ⟨t_l_whole d, ?_, pure_l_whole  h⟩)
  exact (pss_one (ps_ret (pe_and (pe_callB call_isi (by rfl) T.b_isinstance (by decide +kernel) (pa_cons (pv 0) (pa_cons (pe_bltn (v := .ty "int") (by rfl) T.b_int (by decide +kernel) rfl) pa_nil))) (pe_one (pe_not (pe_callB call_isi (by rfl) T.b_isinstance (by decide +kernel) (pa_cons (pv 0) (pa_cons (pe_bltn (v := .ty "bool") (by rfl) T.b_bool (by decide +kernel) rfl) pa_nil))))))))
theorem ok_l_due (T : Txt d mg z) : FnOk P w d.K mg base CX0 1 z.f_l_due z.d_l_due ["_law_text_here"] (sp_l_due d) := by
  refine T.F_l_due.ok sc_l_due (fun vs H Q E h => by first | (obtain ⟨rfl, _⟩ := h; rfl) | (obtain ⟨_, rfl, _⟩ := h; rfl) | (obtain ⟨_, _, rfl, _⟩ := h; rfl) | (obtain ⟨_, _, _, rfl, _⟩ := h; rfl) | (obtain ⟨_, _, _, _, rfl, _⟩ := h; rfl) | (obtain ⟨_, _, _, _, _, rfl, _⟩ := h; rfl) | (obtain ⟨_, _, _, _, _, _, rfl, _⟩ := h; rfl) | (obtain ⟨_, _, _, _, _, _, _, rfl, _⟩ := h; rfl) | (obtain ⟨_, _, _, _, _, _, _, _, rfl, _⟩ := h; rfl) | (obtain ⟨_, _, _, _, _, _, _, _, _, rfl, _⟩ := h; rfl) | (obtain ⟨_, _, _, _, _, _, _, _, _, _, rfl, _⟩ := h; rfl)) (fun cdv A outer s H vs Q E hr h => ⟨t_l_due d, ?_, pure_l_due  h⟩)
  exact (pss_cons (ps_if (PW.pt (pw_or (pt_cmpR op_eq (pv 0) pe_str (nomark _)) (pw_or (pt_cmpR o_gt (pe_callB call_len_str (by rfl) T.b_len (by decide +kernel) (pa_cons (pv 0) pa_nil)) pe_int (nomark _)) (pw_or1 (PW.pt (pw_and (pt_cmpR op_eq (pe_ix ix_str (pv 0) pe_int (fun _ _ => rfl)) pe_str (nomark _)) (pw_and1 (pt_cmpR op_ne (pv 0) pe_str (nomark _))))))))) (pss_one (ps_ret pe_non)) pss_nil)
      (pss_cons (ps_set (i := 1) sc_l_due.nd rfl (Or.inl rfl) pe_int)
      (pss_cons (ps_for PassesOwn.never rfl (pi_str (pv 0)) (pg_name (i := 2) sc_l_due.nd rfl (Or.inl rfl)) (pss_cons (ps_if (pt_cmpR op_notIn_sign (pv 2) pe_str (by rfl)) (pss_one (ps_ret pe_non)) pss_nil)
      (pss_one (ps_set (i := 1) sc_l_due.nd rfl (Or.inl rfl) (pe_op op_add (pe_op op_mul (pv 1) pe_int) (pe_m1 PySem.F.slot_str_index PySem.F.type_str_index mt_sindex pe_str (pv 2)))))))
      (pss_cons (ps_if (pt_cmpR o_lt (pv 1) (pe_op op_pow pe_int pe_int) (nomark _)) (pss_one (ps_ret (pv 1))) pss_nil)
      (pss_one (ps_ret pe_non))))))
theorem ok_l_spoilt (T : Txt d mg z) : FnOk P w d.K mg base CX0 1 z.f_l_spoilt z.d_l_spoilt ["_law_text_here", "_law_cell"] (sp_l_spoilt d) := by
  refine T.F_l_spoilt.ok sc_l_spoilt (fun vs H Q E h => by first | (obtain ⟨rfl, _⟩ := h; rfl) | (obtain ⟨_, rfl, _⟩ := h; rfl) | (obtain ⟨_, _, rfl, _⟩ := h; rfl) | (obtain ⟨_, _, _, rfl, _⟩ := h; rfl) | (obtain ⟨_, _, _, _, rfl, _⟩ := h; rfl) | (obtain ⟨_, _, _, _, _, rfl, _⟩ := h; rfl) | (obtain ⟨_, _, _, _, _, _, rfl, _⟩ := h; rfl) | (obtain ⟨_, _, _, _, _, _, _, rfl, _⟩ := h; rfl) | (obtain ⟨_, _, _, _, _, _, _, _, rfl, _⟩ := h; rfl) | (obtain ⟨_, _, _, _, _, _, _, _, _, rfl, _⟩ := h; rfl) | (obtain ⟨_, _, _, _, _, _, _, _, _, _, rfl, _⟩ := h; rfl)) (fun cdv A outer s H vs Q E hr h => ⟨t_l_spoilt d, ?_, pure_l_spoilt  h⟩)
  exact (pss_cons (ps_set (i := 2) sc_l_spoilt.nd rfl (Or.inl rfl) pe_str)
      (pss_cons (ps_set (i := 2) sc_l_spoilt.nd rfl (Or.inl rfl) (pe_op op_add_str (pv 2) pe_str))
      (pss_cons (ps_set (i := 3) sc_l_spoilt.nd rfl (Or.inl rfl) (pe_ix ix_str (pv 2) (pe_op op_mod (pe_op op_fdiv (pv 1) pe_int) (pe_callB call_len_str (by rfl) T.b_len (by decide +kernel) (pa_cons (pv 2) pa_nil))) (fun _ _ => rfl)))
      (pss_cons (ps_set (i := 4) sc_l_spoilt.nd rfl (Or.inl rfl) (pe_op op_mod (pe_op op_fdiv (pv 1) pe_int) (pe_op op_add (pe_callB call_len_str (by rfl) T.b_len (by decide +kernel) (pa_cons (pv 0) pa_nil)) pe_int)))
      (pss_one (ps_ret (pe_op op_add_str (pe_op op_add_str (pe_slice sl_str (pv 0) po_none (po_some (pv 4))) (pv 3)) (pe_slice sl_str (pv 0) (po_some (pe_op op_add (pv 4) (pe_op op_mod (pv 1) pe_int))) po_none))))))))
theorem ok_l_text (T : Txt d mg z) : FnOk P w d.K mg base CX0 2 z.f_l_text z.d_l_text ["_law_cell"] (sp_l_text d) := by
  have G_l_spoilt := ok_l_spoilt (P := P) (w := w) (base := base) T
  refine T.F_l_text.ok sc_l_text (fun vs H Q E h => by first | (obtain ⟨rfl, _⟩ := h; rfl) | (obtain ⟨_, rfl, _⟩ := h; rfl) | (obtain ⟨_, _, rfl, _⟩ := h; rfl) | (obtain ⟨_, _, _, rfl, _⟩ := h; rfl) | (obtain ⟨_, _, _, _, rfl, _⟩ := h; rfl) | (obtain ⟨_, _, _, _, _, rfl, _⟩ := h; rfl) | (obtain ⟨_, _, _, _, _, _, rfl, _⟩ := h; rfl) | (obtain ⟨_, _, _, _, _, _, _, rfl, _⟩ := h; rfl) | (obtain ⟨_, _, _, _, _, _, _, _, rfl, _⟩ := h; rfl) | (obtain ⟨_, _, _, _, _, _, _, _, _, rfl, _⟩ := h; rfl) | (obtain ⟨_, _, _, _, _, _, _, _, _, _, rfl, _⟩ := h; rfl)) (fun cdv A outer s H vs Q E hr h => ⟨t_l_text d, ?_, pure_l_text  h⟩)
  exact (pss_cons (ps_set (i := 1) sc_l_text.nd rfl (Or.inl rfl) (pe_op op_mod (pv 0) pe_int))
      (pss_cons (ps_set (i := 2) sc_l_text.nd rfl (Or.inl rfl) (pe_op op_fdiv (pv 0) pe_int))
      (pss_cons (ps_if (pt_cmpR op_eq (pv 1) pe_int (nomark _)) (pss_one (ps_ret (pe_callTy call_str_int (by rfl) T.b_str (by decide +kernel) (pa_cons (pe_op op_mod (pv 2) pe_int) pa_nil)))) pss_nil)
      (pss_cons (ps_if (pt_cmpR op_eq (pv 1) pe_int (nomark _)) (pss_one (ps_ret (pe_callTy call_str_int (by rfl) T.b_str (by decide +kernel) (pa_cons (pe_op op_add (pe_op op_sub (pe_op op_pow pe_int pe_int) pe_int) (pe_op op_mod (pv 2) pe_int)) pa_nil)))) pss_nil)
      (pss_cons (ps_if (pt_cmpR op_eq (pv 1) pe_int (nomark _)) (pss_one (ps_ret (pe_callTy call_str_int (by rfl) T.b_str (by decide +kernel) (pa_cons (pe_op op_mod (pv 2) (pe_op op_pow pe_int pe_int)) pa_nil)))) pss_nil)
      (pss_cons (ps_if (pt_cmpR op_eq (pv 1) pe_int (nomark _)) (pss_one (ps_ret (pe_op op_add_str (pe_op op_mulS pe_str (pe_op op_add pe_int (pe_op op_mod (pv 2) pe_int))) (pe_callTy call_str_int (by rfl) T.b_str (by decide +kernel) (pa_cons (pe_op op_mod (pe_op op_fdiv (pv 2) pe_int) (pe_op op_pow pe_int pe_int)) pa_nil))))) pss_nil)
      (pss_cons (ps_if (pt_cmpR op_eq (pv 1) pe_int (nomark _)) (pss_one (ps_ret (pe_ix ix_list (pe_lst (pa_cons pe_str (pa_cons pe_str (pa_cons (pe_op op_mulS pe_str pe_int) (pa_cons (pe_op op_mulS pe_str pe_int) (pa_cons pe_str (pa_cons pe_str pa_nil))))))) (pe_op op_mod (pv 2) pe_int) (fun _ _ => rfl)))) pss_nil)
      (pss_cons (ps_if (pt_cmpR op_eq (pv 1) pe_int (nomark _)) (pss_one (ps_ret (pe_op op_add_str pe_str (pe_op op_mulS pe_str (pe_op op_mod (pv 2) pe_int))))) pss_nil)
      (pss_one (ps_ret (pe_call G_l_spoilt (hr.mono (by decide)) rfl T.m_l_spoilt T.F_l_spoilt.kp T.B_l_spoilt .nil pass0 (pa_cons (pe_callTy call_str_int (by rfl) T.b_str (by decide +kernel) (pa_cons (pe_op op_mod (pe_op op_fdiv (pv 2) (pe_op op_pow pe_int pe_int)) (pe_op op_pow pe_int pe_int)) pa_nil)) (pa_cons (pe_op op_mod (pv 2) (pe_op op_pow pe_int pe_int)) pa_nil)))))))))))))
theorem ok_law (T : Txt d mg z) : FnOk P w d.K mg base CX0 3 z.f_law z.d_law ["_law_script"] (sp_law d) := by
  have G_l_text := ok_l_text (P := P) (w := w) (base := base) T
  have G_number_of := ok_number_of (P := P) (w := w) (base := base) T
  have G_l_due := ok_l_due (P := P) (w := w) (base := base) T
  have G_l_whole := ok_l_whole (P := P) (w := w) (base := base) T
  refine T.F_law.ok sc_law (fun vs H Q E h => by first | (obtain ⟨rfl, _⟩ := h; rfl) | (obtain ⟨_, rfl, _⟩ := h; rfl) | (obtain ⟨_, _, rfl, _⟩ := h; rfl) | (obtain ⟨_, _, _, rfl, _⟩ := h; rfl) | (obtain ⟨_, _, _, _, rfl, _⟩ := h; rfl) | (obtain ⟨_, _, _, _, _, rfl, _⟩ := h; rfl) | (obtain ⟨_, _, _, _, _, _, rfl, _⟩ := h; rfl) | (obtain ⟨_, _, _, _, _, _, _, rfl, _⟩ := h; rfl) | (obtain ⟨_, _, _, _, _, _, _, _, rfl, _⟩ := h; rfl) | (obtain ⟨_, _, _, _, _, _, _, _, _, rfl, _⟩ := h; rfl) | (obtain ⟨_, _, _, _, _, _, _, _, _, _, rfl, _⟩ := h; rfl)) (fun cdv A outer s H vs Q E hr h => ⟨t_law d, ?_, pure_law  h⟩)
  exact (pss_cons (ps_for PassesOwn.never rfl (pi_list (pe_op op_cat (pe_lst (pa_cons pe_int pa_nil)) (pe_slice sl_list (pv 0) po_none (po_some pe_int)))) (pg_name (i := 1) sc_law.nd rfl (Or.inl rfl)) (pss_cons (ps_set (i := 2) sc_law.nd rfl (Or.inl rfl) (pe_call G_l_text (hr.mono (by decide)) rfl T.m_l_text T.F_l_text.kp T.B_l_text .nil pass0 (pa_cons (pe_op op_mod (pv 1) (pe_op op_pow pe_int pe_int)) pa_nil)))
      (pss_cons (ps_set (i := 3) sc_law.nd rfl (Or.inl rfl) (pe_call G_number_of (hr.mono (by decide)) rfl T.m_number_of T.F_number_of.kp T.B_number_of .nil pass0 (pa_cons (pv 2) pa_nil)))
      (pss_cons (ps_set (i := 4) sc_law.nd rfl (Or.inl rfl) (pe_call G_l_due (hr.mono (by decide)) rfl T.m_l_due T.F_l_due.kp T.B_l_due .nil pass0 (pa_cons (pv 2) pa_nil)))
      (pss_cons (ps_if (PW.pt (pw_and (pt_cmpR op_isN (pv 4) pe_non (nomark _)) (pw_and1 (pt_cmpR op_notN (pv 3) pe_non (nomark _))))) (pss_one (ps_ret pe_bl)) pss_nil)
      (pss_one (ps_if (PW.pt (pw_and (pt_cmpR op_notN (pv 4) pe_non (nomark _)) (pw_and1 (PW.pt (pw_or (pt_not (pt_val (pe_call G_l_whole (hr.mono (by decide)) rfl T.m_l_whole T.F_l_whole.kp T.B_l_whole .nil pass0 (pa_cons (pv 3) pa_nil)))) (pw_or1 (pt_cmpR op_ne (pv 3) (pv 4) (nomark _)))))))) (pss_one (ps_ret pe_bl)) pss_nil)))))))
      (pss_one (ps_ret pe_bl)))
end
theorem all_mk {P : Program} {w : World} {K : PySem.W.Frag} {h : Heap} {mg : Str → Option Value} {fa : Addr} (X : K.In h) (G : h.Ns mainGlobals mg) (hfa : mg "law" = some (.ref fa))
    {f_number_of f_l_whole f_l_due f_l_spoilt f_l_text f_law : Addr} {oc_number_of kV_number_of dc_number_of pm_number_of cd_number_of ct_number_of oc_l_whole kV_l_whole dc_l_whole pm_l_whole cd_l_whole ct_l_whole oc_l_due kV_l_due dc_l_due pm_l_due cd_l_due ct_l_due oc_l_spoilt kV_l_spoilt dc_l_spoilt pm_l_spoilt cd_l_spoilt ct_l_spoilt oc_l_text kV_l_text dc_l_text pm_l_text cd_l_text ct_l_text oc_law kV_law dc_law pm_law cd_law ct_law : Value} {od_number_of an_number_of od_l_whole an_l_whole od_l_due an_l_due od_l_spoilt an_l_spoilt od_l_text an_l_text od_law an_law : Option Addr} {sl_number_of sl_l_whole sl_l_due sl_l_spoilt sl_l_text sl_law : Array (Option Value)}
    {k_FIGURES k_WIDE : Tok}
    (a_number_of : PySem.W.nsIn K mainGlobals "number_of" = some (some (.ref f_number_of)))
    (l_number_of : K.lookup f_number_of = some ⟨oc_number_of, od_number_of, .func (PySem.W.fnOf "number_of" "number_of" (defArgs s_number_of) (defBody s_number_of) (defScope s_number_of) .none kV_number_of dc_number_of pm_number_of an_number_of cd_number_of ct_number_of), sl_number_of⟩)
    (cc_number_of : PySem.W.codeIn K cd_number_of "number_of" = true)
    (kk_number_of : PySem.W.keepIn K (.ref f_number_of) = true)
    (a_l_whole : PySem.W.nsIn K mainGlobals "_law_whole" = some (some (.ref f_l_whole)))
    (l_l_whole : K.lookup f_l_whole = some ⟨oc_l_whole, od_l_whole, .func (PySem.W.fnOf "_law_whole" "_law_whole" (defArgs s_l_whole) (defBody s_l_whole) (defScope s_l_whole) .none kV_l_whole dc_l_whole pm_l_whole an_l_whole cd_l_whole ct_l_whole), sl_l_whole⟩)
    (cc_l_whole : PySem.W.codeIn K cd_l_whole "_law_whole" = true)
    (kk_l_whole : PySem.W.keepIn K (.ref f_l_whole) = true)
    (a_l_due : PySem.W.nsIn K mainGlobals "_law_due" = some (some (.ref f_l_due)))
    (l_l_due : K.lookup f_l_due = some ⟨oc_l_due, od_l_due, .func (PySem.W.fnOf "_law_due" "_law_due" (defArgs s_l_due) (defBody s_l_due) (defScope s_l_due) .none kV_l_due dc_l_due pm_l_due an_l_due cd_l_due ct_l_due), sl_l_due⟩)
    (cc_l_due : PySem.W.codeIn K cd_l_due "_law_due" = true)
    (kk_l_due : PySem.W.keepIn K (.ref f_l_due) = true)
    (a_l_spoilt : PySem.W.nsIn K mainGlobals "_law_spoilt" = some (some (.ref f_l_spoilt)))
    (l_l_spoilt : K.lookup f_l_spoilt = some ⟨oc_l_spoilt, od_l_spoilt, .func (PySem.W.fnOf "_law_spoilt" "_law_spoilt" (defArgs s_l_spoilt) (defBody s_l_spoilt) (defScope s_l_spoilt) .none kV_l_spoilt dc_l_spoilt pm_l_spoilt an_l_spoilt cd_l_spoilt ct_l_spoilt), sl_l_spoilt⟩)
    (cc_l_spoilt : PySem.W.codeIn K cd_l_spoilt "_law_spoilt" = true)
    (kk_l_spoilt : PySem.W.keepIn K (.ref f_l_spoilt) = true)
    (a_l_text : PySem.W.nsIn K mainGlobals "_law_text" = some (some (.ref f_l_text)))
    (l_l_text : K.lookup f_l_text = some ⟨oc_l_text, od_l_text, .func (PySem.W.fnOf "_law_text" "_law_text" (defArgs s_l_text) (defBody s_l_text) (defScope s_l_text) .none kV_l_text dc_l_text pm_l_text an_l_text cd_l_text ct_l_text), sl_l_text⟩)
    (cc_l_text : PySem.W.codeIn K cd_l_text "_law_text" = true)
    (kk_l_text : PySem.W.keepIn K (.ref f_l_text) = true)
    (a_law : PySem.W.nsIn K mainGlobals "law" = some (some (.ref f_law)))
    (l_law : K.lookup f_law = some ⟨oc_law, od_law, .func (PySem.W.fnOf "law" "law" (defArgs s_law) (defBody s_law) (defScope s_law) .none kV_law dc_law pm_law an_law cd_law ct_law), sl_law⟩)
    (cc_law : PySem.W.codeIn K cd_law "law" = true)
    (kk_law : PySem.W.keepIn K (.ref f_law) = true)
    (b_bool : PySem.W.nsIn K mainGlobals "bool" = some none)
    (b_int : PySem.W.nsIn K mainGlobals "int" = some none)
    (b_isinstance : PySem.W.nsIn K mainGlobals "isinstance" = some none)
    (b_len : PySem.W.nsIn K mainGlobals "len" = some none)
    (b_str : PySem.W.nsIn K mainGlobals "str" = some none)
    (g_FIGURES : PySem.W.nsIn K mainGlobals "FIGURES" = some (some (.str "0123456789" k_FIGURES)))
    (g_WIDE : PySem.W.nsIn K mainGlobals "WIDE" = some (some (.int 18446744073709551616 k_WIDE)))
    : ∃ fd : FuncData, (∀ (s : Shared) (v : Value), BindsTo s fd ⟨[v], []⟩ [("_law_script", v)]) ∧ ∀ base : Heap, K.In base → base.Ns mainGlobals mg → FnOk P w K mg base CX0 3 fa fd ["_law_script"] (spLaw K) := by
  have e := hfa.symm.trans (PySem.W.mg_of X G a_law)
  cases e
  have F_number_of := fun_mk (st := s_number_of) l_number_of cc_number_of kk_number_of
  have F_l_whole := fun_mk (st := s_l_whole) l_l_whole cc_l_whole kk_l_whole
  have F_l_due := fun_mk (st := s_l_due) l_l_due cc_l_due kk_l_due
  have F_l_spoilt := fun_mk (st := s_l_spoilt) l_l_spoilt cc_l_spoilt kk_l_spoilt
  have F_l_text := fun_mk (st := s_l_text) l_l_text cc_l_text kk_l_text
  have F_law := fun_mk (st := s_law) l_law cc_law kk_law
  let d : Ad := { K := K }
  have T : Txt d mg { f_number_of := f_number_of, d_number_of := _, f_l_whole := f_l_whole, d_l_whole := _, f_l_due := f_l_due, d_l_due := _, f_l_spoilt := f_l_spoilt, d_l_spoilt := _, f_l_text := f_l_text, d_l_text := _, f_law := fa, d_law := _, k_FIGURES := k_FIGURES, k_WIDE := k_WIDE } :=
    { F_number_of := F_number_of
      B_number_of := F_number_of.binds (ps := ["text"]) fun _ _ _ _ _ _ us hl => match us, hl with | [_], _ => rfl
      m_number_of := PySem.W.mg_of X G a_number_of
      F_l_whole := F_l_whole
      B_l_whole := F_l_whole.binds (ps := ["_law_found"]) fun _ _ _ _ _ _ us hl => match us, hl with | [_], _ => rfl
      m_l_whole := PySem.W.mg_of X G a_l_whole
      F_l_due := F_l_due
      B_l_due := F_l_due.binds (ps := ["_law_text_here"]) fun _ _ _ _ _ _ us hl => match us, hl with | [_], _ => rfl
      m_l_due := PySem.W.mg_of X G a_l_due
      F_l_spoilt := F_l_spoilt
      B_l_spoilt := F_l_spoilt.binds (ps := ["_law_text_here", "_law_cell"]) fun _ _ _ _ _ _ us hl => match us, hl with | [_, _], _ => rfl
      m_l_spoilt := PySem.W.mg_of X G a_l_spoilt
      F_l_text := F_l_text
      B_l_text := F_l_text.binds (ps := ["_law_cell"]) fun _ _ _ _ _ _ us hl => match us, hl with | [_], _ => rfl
      m_l_text := PySem.W.mg_of X G a_l_text
      F_law := F_law
      B_law := F_law.binds (ps := ["_law_script"]) fun _ _ _ _ _ _ us hl => match us, hl with | [_], _ => rfl
      m_law := PySem.W.mg_of X G a_law
      b_bool := PySem.W.mg_none_of X G b_bool
      b_int := PySem.W.mg_none_of X G b_int
      b_isinstance := PySem.W.mg_none_of X G b_isinstance
      b_len := PySem.W.mg_none_of X G b_len
      b_str := PySem.W.mg_none_of X G b_str
      g_FIGURES := PySem.W.mg_of X G g_FIGURES
      g_WIDE := PySem.W.mg_of X G g_WIDE }
  exact ⟨PySem.W.fnOf "law" "law" (defArgs s_law) (defBody s_law) (defScope s_law) .none kV_law dc_law pm_law an_law cd_law ct_law, fun s v => .of_eq rfl, fun base _ _ => ok_law T⟩
theorem walk {l : PySem.W.OpenLaw} {q : Program} {loose : List Str} {XP : (Str → Option Value) → Heap → Prop} {YP : World → Heap → Prop} {d : DefRec} {K : Params → PySem.W.Frag} (hn : l.most = some 63) (hdf : d.params.defaults = [])
    (hY : ∀ (w : World) (h : Heap), YP w h → (K w.params).In h)
    (F : ∀ (w : World) (mg : Str → Option Value) (fa : Addr) (h : Heap), (K w.params).In h → h.Ns mainGlobals mg → mg d.name = some (.ref fa) →
      ∃ fd : FuncData, (∀ (s : Shared) (u : Value), BindsTo s fd ⟨[u], []⟩ [("_law_script", u)]) ∧ ∀ base : Heap, (K w.params).In base → base.Ns mainGlobals mg → FnOk l.prog w (K w.params) mg base CX0 3 fa fd ["_law_script"] (spLaw (K w.params))) :
    PySem.W.WalkO q loose XP YP l.row.toRowW d [] (fun f vs => PySem.call f vs) :=
  L2.walk_of (n := 63) (k := 3) (x := "_law_script") (CX := fun _ => CX0) (sp := fun w => spLaw (K w.params)) hn (by decide) hdf ⟨rfl, by decide, by decide⟩ hY F (fun _ _ a ns hl _ hS => ⟨a, ns, rfl, hS, hl, fun _ => rfl⟩) fun _ _ _ _ _ z => z
end Row
open PySem PySem.W PyProof.Rows
set_option maxRecDepth 100000 in
set_option maxHeartbeats 0 in
theorem PySem.Challenge.cw_retryhall_k02_numbers_read_holds : PySem.Challenge.rw_retryhall_k02_numbers_read.Holds := by
  w_on; o_law; k_head; (case hw => w_witness2)
  k_fill
  refine Row.walk (l := PySem.Challenge.rw_retryhall_k02_numbers_read) rfl rfl (fun w h Y => PySem.W.kIn_of Y) ?F
  case F =>
    intro w mg fa h KX G hmg
    refine' Row.all_mk KX G hmg ?a_number_of ?l_number_of ?cc_number_of ?kk_number_of ?a_l_whole ?l_l_whole ?cc_l_whole ?kk_l_whole ?a_l_due ?l_l_due ?cc_l_due ?kk_l_due ?a_l_spoilt ?l_l_spoilt ?cc_l_spoilt ?kk_l_spoilt ?a_l_text ?l_l_text ?cc_l_text ?kk_l_text ?a_law ?l_law ?cc_law ?kk_law ?b_bool ?b_int ?b_isinstance ?b_len ?b_str ?g_FIGURES ?g_WIDE
    (case a_number_of => k_is)
    (case l_number_of => k_is)
    (case cc_number_of => k_is)
    (case kk_number_of => k_is)
    (case a_l_whole => k_is)
    (case l_l_whole => k_is)
    (case cc_l_whole => k_is)
    (case kk_l_whole => k_is)
    (case a_l_due => k_is)
    (case l_l_due => k_is)
    (case cc_l_due => k_is)
    (case kk_l_due => k_is)
    (case a_l_spoilt => k_is)
    (case l_l_spoilt => k_is)
    (case cc_l_spoilt => k_is)
    (case kk_l_spoilt => k_is)
    (case a_l_text => k_is)
    (case l_l_text => k_is)
    (case cc_l_text => k_is)
    (case kk_l_text => k_is)
    (case a_law => k_is)
    (case l_law => k_is)
    (case cc_law => k_is)
    (case kk_law => k_is)
    (case b_bool => k_is)
    (case b_int => k_is)
    (case b_isinstance => k_is)
    (case b_len => k_is)
    (case b_str => k_is)
    (case g_FIGURES => k_is)
    (case g_WIDE => k_is)
#print axioms PySem.Challenge.cw_retryhall_k02_numbers_read_holds

