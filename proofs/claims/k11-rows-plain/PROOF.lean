import PyProof.Rows.All
import Wide.All
import OpenK.AllK
import Wide.FinOn
import HandS.ForMost
import HandS.Exc
import HandS.TryOnly
import HandS.ExcOwn
import HandS.WordsExc
import HandS.Evl
import HandS.Steps
import HandS.More
import HandS.IsInst
import HandS.Codes
import HandS.Conv
import HandS.Walk
import HandS.Zip
import HandS.Replace
import KE.RegKIsAll
import PySem.Challenge.RW_retryhall_k11_rows_plain
set_option Elab.async false
set_option linter.all false
set_option maxRecDepth 100000
set_option maxHeartbeats 2000000
namespace RT
open PySem L2
abbrev Ex := Evl.Ex
structure Ad where
  K : PySem.W.Frag
  cPart : Addr := 0
  cLet : Addr := 0
  cReckon : Addr := 0
  cTake : Addr := 0
  cPut : Addr := 0
  cIf : Addr := 0
  cEither : Addr := 0
  cTry : Addr := 0
  cThrow : Addr := 0
  cWait : Addr := 0
  cLog : Addr := 0
  cDoer : Addr := 0
  cHand : Addr := 0
  cHall : Addr := 0
  cDesk : Addr := 0
  cHallError : Addr := 0
  cNoDeed : Addr := 0
  cNoBoxes : Addr := 0
  cNoHands : Addr := 0
  cNoHand : Addr := 0
  cNoRow : Addr := 0
  aSUMS : Addr := 0
def spLaw (K : PySem.W.Frag) : Sp := fun vs H Q _ => ∃ (a : Addr) (ns : List Int), vs = [.ref a] ∧ SqL K H a (ns.map V.int) ∧ ns.length ≤ 63 ∧ ∀ H', Q (.bl true) H'
@[irreducible] def dB (p : Prop) [Decidable p] : Bool := decide p
theorem dB_eq (p : Prop) [Decidable p] : dB p = decide p := by unfold dB; rfl
theorem dB_t {p : Prop} [Decidable p] (h : p) : dB p = true := by rw [dB_eq]; exact decide_eq_true h
theorem dB_f {p : Prop} [Decidable p] (h : ¬ p) : dB p = false := by rw [dB_eq]; exact decide_eq_false h
theorem dB_congr {p q : Prop} [Decidable p] [Decidable q] (h : p ↔ q) : dB p = dB q := by rw [dB_eq, dB_eq]; exact decide_eq_decide.mpr h
theorem of_dB {p : Prop} [Decidable p] (h : dB p = true) : p := by rw [dB_eq] at h; exact of_decide_eq_true h
theorem of_dB_f {p : Prop} [Decidable p] (h : dB p = false) : ¬ p := by rw [dB_eq] at h; exact of_decide_eq_false h
theorem nB_t {p : Prop} [Decidable p] (h : ¬ p) : (!dB p) = true := by rw [dB_f h]; rfl
theorem nB_f {p : Prop} [Decidable p] (h : p) : (!dB p) = false := by rw [dB_t h]; rfl
theorem dB_iff {p : Prop} [Decidable p] : dB p = true ↔ p := ⟨of_dB, dB_t⟩
theorem dB_iff_f {p : Prop} [Decidable p] : dB p = false ↔ ¬ p := ⟨of_dB_f, dB_f⟩
abbrev aAdd := tOp (rI0 fun i j => V.int (i + j))
abbrev aSub := tOp (rI0 fun i j => V.int (i - j))
abbrev aMul := tOp (rI CMul fun i j => V.int (i * j))
abbrev aMod := tOp (rI (fun _ j => 0 < j) fun i j => V.int (i % j))
abbrev aDiv := tOp (rI CDiv fun i j => V.int (i / j))
abbrev aPow := tOp (rI CPow fun i j => V.int (i ^ j.toNat))
abbrev aNeg := tUn (rU fun i => V.int (-i))
def rAddS : R2 := fun x y H Q => ∃ i j, x = .str i ∧ y = .str j ∧ i.length + j.length ≤ sizeLine ∧ Q (.str (i ++ j)) H
abbrev aAddS := tOp rAddS
abbrev aCat := tOp rCat
abbrev aCatT (K : PySem.W.Frag) := tOp (rCatT K)
abbrev aRep := tOp rRep
def rLt : R2 := rI0 fun i j => V.bl (dB (i < j))
def rLe : R2 := rI0 fun i j => V.bl (dB (i ≤ j))
def rGt : R2 := rI0 fun i j => V.bl (dB (j < i))
def rGe : R2 := rI0 fun i j => V.bl (dB (j ≤ i))
def rLtS : R2 := fun x y H Q => ∃ i j, x = .str i ∧ y = .str j ∧ Q (.bl (dB (i.cps.toList < j.cps.toList))) H
def rLeS : R2 := fun x y H Q => ∃ i j, x = .str i ∧ y = .str j ∧ Q (.bl (!dB (j.cps.toList < i.cps.toList))) H
def rGtS : R2 := fun x y H Q => ∃ i j, x = .str i ∧ y = .str j ∧ Q (.bl (dB (j.cps.toList < i.cps.toList))) H
def rGeS : R2 := fun x y H Q => ∃ i j, x = .str i ∧ y = .str j ∧ Q (.bl (!dB (i.cps.toList < j.cps.toList))) H
def rLenStr : List V → Hp → VK → Prop := fun xs H Q => ∃ x, xs = [.str x] ∧ x.length ≤ sizeLine ∧ Q (.int (x.length : Nat)) H
def rLenD : List V → Hp → VK → Prop := fun xs H Q => ∃ a kvs, xs = [V.ref a] ∧ H a = some (.dK kvs) ∧ Q (.int kvs.length) H
def rIntS : List V → Hp → VK → Prop := fun xs H Q => ∃ a n, xs = [.str a] ∧ PySem.intText? a = some n ∧ a.length ≤ 640 ∧ Q (.int n) H
def rInt1 : List V → Hp → VK → Prop := fun xs H Q => (∃ i, xs = [.int i] ∧ Q (.int i) H) ∨ ∃ k, xs = [.bl k] ∧ Q (.int (if k then 1 else 0)) H
def rStrI : List V → Hp → VK → Prop := fun xs H Q => ∃ i, xs = [.int i] ∧ i.natAbs.log2 < 1920 ∧ Q (.str (toString i)) H
def rMin2 : List V → Hp → VK → Prop := fun xs H Q => ∃ i j, xs = [.int i, .int j] ∧ Q (.int (if j < i then j else i)) H
def rListOf (K : PySem.W.Frag) : List V → Hp → VK → Prop := fun xs H Q => ∃ p ys, xs = [.ref p] ∧ (SqL K H p ys ∨ SqT K H p ys) ∧ ∀ l, H l = none → Q (.ref l) (upd H l (.lst ys))
def rTupleOf (K : PySem.W.Frag) : List V → Hp → VK → Prop := fun xs H Q => ∃ p ys, xs = [.ref p] ∧ ((SqL K H p ys ∧ ∀ l, H l = none → Q (.ref l) (upd H l (.tup ys))) ∨ (SqT K H p ys ∧ Q (.ref p) H))
def rSortedD : List V → Hp → VK → Prop := fun xs H Q => ∃ (a : Addr) (kvs : List (Key × V)) (ks : List Int), xs = [.ref a] ∧ Rd H a (.dK kvs) ∧ kvs.map (·.1) = ks.map Sum.inl ∧ ks.length < 64 ∧
    ∀ (ys : List Int) (p : Addr), ys.Perm ks → ys.Pairwise (· ≤ ·) → H p = none → Q (.ref p) (upd H p (.lst (ys.map V.int)))
def rJoin (K : PySem.W.Frag) : V → List V → Hp → VK → Prop := (fun x xs H Q => ∃ a p, ∃ ys : List Str, x = .str a ∧ xs = [.ref p] ∧ (SqL K H p (ys.map V.str) ∨ SqT K H p (ys.map V.str)) ∧ (ys.map (·.length)).sum + ys.length * a.length ≤ 16777216 ∧ Q (.str (Txt.join a ys)) H)
abbrev aJoin (K : PySem.W.Frag) := tM1 (rJoin K)
def rSplit : V → List V → Hp → VK → Prop := (fun x xs H Q => ∃ a b, x = .str a ∧ xs = [.str b] ∧ (b.length == 0) = false ∧ a.length + 2 ≤ sizeLine ∧ rNewStrs (Txt.split a b) H Q)
abbrev aSplit := tM1 rSplit
def rIndexS : V → List V → Hp → VK → Prop := (fun x xs H Q => ∃ a b i rest, x = .str a ∧ xs = [.str b] ∧ Builtin.Str.occurrences a b 0 a.length 1 = i :: rest ∧ Q (.int (i : Nat)) H)
abbrev aIndexS := tM1 rIndexS
def rFindS : V → List V → Hp → VK → Prop := (fun x xs H Q => ∃ a b, x = .str a ∧ xs = [.str b] ∧ Q (.int (Txt.find a b)) H)
abbrev aFind := tM1 rFindS
section
variable {X : Cx}
theorem o_lt : OpR X (compareOp .Lt) rLt := by unfold rLt; simp only [dB_eq]; exact op_lt
theorem o_le : OpR X (compareOp .LtE) rLe := by unfold rLe; simp only [dB_eq]; exact op_le
theorem o_gt : OpR X (compareOp .Gt) rGt := by unfold rGt; simp only [dB_eq]; exact op_gt
theorem o_ge : OpR X (compareOp .GtE) rGe := by unfold rGe; simp only [dB_eq]; exact op_ge
theorem o_lt_str : OpR X (compareOp .Lt) rLtS := by unfold rLtS; simp only [dB_eq]; exact op_lt_str
theorem o_le_str : OpR X (compareOp .LtE) rLeS := by unfold rLeS; simp only [dB_eq]; exact op_le_str
theorem o_gt_str : OpR X (compareOp .Gt) rGtS := by unfold rGtS; simp only [dB_eq]; exact op_gt_str
theorem o_ge_str : OpR X (compareOp .GtE) rGeS := by unfold rGeS; simp only [dB_eq]; exact op_ge_str
end
theorem kit_int_int : kitB "int" "int" = some true := by decide +kernel
theorem kit_int_bool : kitB "int" "bool" = some false := by decide +kernel
theorem kit_int_str : kitB "int" "str" = some false := by decide +kernel
theorem kit_int_list : kitB "int" "list" = some false := by decide +kernel
theorem kit_int_tuple : kitB "int" "tuple" = some false := by decide +kernel
theorem kit_int_dict : kitB "int" "dict" = some false := by decide +kernel
theorem kit_bool_int : kitB "bool" "int" = some true := by decide +kernel
theorem kit_bool_bool : kitB "bool" "bool" = some true := by decide +kernel
theorem kit_bool_str : kitB "bool" "str" = some false := by decide +kernel
theorem kit_bool_list : kitB "bool" "list" = some false := by decide +kernel
theorem kit_bool_tuple : kitB "bool" "tuple" = some false := by decide +kernel
theorem kit_bool_dict : kitB "bool" "dict" = some false := by decide +kernel
theorem kit_str_int : kitB "str" "int" = some false := by decide +kernel
theorem kit_str_bool : kitB "str" "bool" = some false := by decide +kernel
theorem kit_str_str : kitB "str" "str" = some true := by decide +kernel
theorem kit_str_list : kitB "str" "list" = some false := by decide +kernel
theorem kit_str_tuple : kitB "str" "tuple" = some false := by decide +kernel
theorem kit_str_dict : kitB "str" "dict" = some false := by decide +kernel
theorem kit_NoneType_int : kitB "NoneType" "int" = some false := by decide +kernel
theorem kit_NoneType_bool : kitB "NoneType" "bool" = some false := by decide +kernel
theorem kit_NoneType_str : kitB "NoneType" "str" = some false := by decide +kernel
theorem kit_NoneType_list : kitB "NoneType" "list" = some false := by decide +kernel
theorem kit_NoneType_tuple : kitB "NoneType" "tuple" = some false := by decide +kernel
theorem kit_NoneType_dict : kitB "NoneType" "dict" = some false := by decide +kernel
theorem kit_list_int : kitB "list" "int" = some false := by decide +kernel
theorem kit_list_bool : kitB "list" "bool" = some false := by decide +kernel
theorem kit_list_str : kitB "list" "str" = some false := by decide +kernel
theorem kit_list_list : kitB "list" "list" = some true := by decide +kernel
theorem kit_list_tuple : kitB "list" "tuple" = some false := by decide +kernel
theorem kit_list_dict : kitB "list" "dict" = some false := by decide +kernel
theorem kit_tuple_int : kitB "tuple" "int" = some false := by decide +kernel
theorem kit_tuple_bool : kitB "tuple" "bool" = some false := by decide +kernel
theorem kit_tuple_str : kitB "tuple" "str" = some false := by decide +kernel
theorem kit_tuple_list : kitB "tuple" "list" = some false := by decide +kernel
theorem kit_tuple_tuple : kitB "tuple" "tuple" = some true := by decide +kernel
theorem kit_tuple_dict : kitB "tuple" "dict" = some false := by decide +kernel
theorem kit_dict_int : kitB "dict" "int" = some false := by decide +kernel
theorem kit_dict_bool : kitB "dict" "bool" = some false := by decide +kernel
theorem kit_dict_str : kitB "dict" "str" = some false := by decide +kernel
theorem kit_dict_list : kitB "dict" "list" = some false := by decide +kernel
theorem kit_dict_tuple : kitB "dict" "tuple" = some false := by decide +kernel
theorem kit_dict_dict : kitB "dict" "dict" = some true := by decide +kernel
section
variable {K : PySem.W.Frag} {σ σ' : L2.St} {H H' : Hp} {ta tb te tx : TE} {x y z v : V} {r : R2} {Q : VK} {D : Ends} {t u c : TT} {ts tu tw : TS} {g : TG} {i j : Nat}
theorem w_var (h : σ[i]? = some (some v)) (q : Q v H) : tVar i σ H Q := ⟨v, h, q⟩
theorem w_c (q : Q v H) : tC v σ H Q := q
theorem w_op (q : ta σ H fun x H1 => tb σ H1 fun y H2 => r x y H2 Q) : tOp r ta tb σ H Q := q
theorem w_un {r : V → Hp → VK → Prop} (q : ta σ H fun x H1 => r x H1 Q) : tUn r ta σ H Q := q
theorem w_i0 {f : Int → Int → V} {a b : Int} (q : Q (f a b) H) : rI0 f (.int a) (.int b) H Q := ⟨a, b, rfl, rfl, q⟩
theorem w_i {C : Int → Int → Prop} {f : Int → Int → V} {a b : Int} (hc : C a b) (q : Q (f a b) H) : rI C f (.int a) (.int b) H Q := ⟨a, b, rfl, rfl, hc, q⟩
theorem w_u {f : Int → V} {a : Int} (q : Q (f a) H) : rU f (.int a) H Q := ⟨a, rfl, q⟩
theorem w_eqI {a b : Int} (q : Q (.bl (dB (a = b))) H) : rEq (.int a) (.int b) H Q := ⟨rfl, by simpa [dB_eq] using q⟩
theorem w_neI {a b : Int} (q : Q (.bl (!dB (a = b))) H) : rNe (.int a) (.int b) H Q := ⟨rfl, by simpa [dB_eq] using q⟩
theorem w_eqS {a b : Str} (q : Q (.bl (dB (a = b))) H) : rEq (.str a) (.str b) H Q := ⟨rfl, by simpa [dB_eq] using q⟩
theorem w_neS {a b : Str} (q : Q (.bl (!dB (a = b))) H) : rNe (.str a) (.str b) H Q := ⟨rfl, by simpa [dB_eq] using q⟩
theorem w_eq (h : scal x y = true) (q : Q (.bl (dB (x = y))) H) : rEq x y H Q := ⟨h, by rw [← dB_eq]; exact q⟩
theorem w_ne (h : scal x y = true) (q : Q (.bl (!dB (x = y))) H) : rNe x y H Q := ⟨h, by rw [← dB_eq]; exact q⟩
theorem w_isNN (q : Q (.bl true) H) : rIsN .non .non H Q := ⟨rfl, q⟩
theorem w_isNI {a : Int} (q : Q (.bl false) H) : rIsN (.int a) .non H Q := ⟨rfl, q⟩
theorem w_isNS {a : Str} (q : Q (.bl false) H) : rIsN (.str a) .non H Q := ⟨rfl, q⟩
theorem w_isNR {a : Addr} (q : Q (.bl false) H) : rIsN (.ref a) .non H Q := ⟨rfl, q⟩
theorem w_notNN (q : Q (.bl false) H) : rNotN .non .non H Q := ⟨rfl, q⟩
theorem w_notNI {a : Int} (q : Q (.bl true) H) : rNotN (.int a) .non H Q := ⟨rfl, q⟩
theorem w_notNS {a : Str} (q : Q (.bl true) H) : rNotN (.str a) .non H Q := ⟨rfl, q⟩
theorem w_notNR {a : Addr} (q : Q (.bl true) H) : rNotN (.ref a) .non H Q := ⟨rfl, q⟩

theorem w_i0B {p : Int → Int → Prop} [∀ i j, Decidable (p i j)] {a b : Int} (q : Q (.bl (dB (p a b))) H) : rI0 (fun i j => V.bl (dB (p i j))) (.int a) (.int b) H Q := ⟨a, b, rfl, rfl, q⟩
theorem w_lt {a b : Int} (q : Q (.bl (dB (a < b))) H) : rLt (.int a) (.int b) H Q := ⟨a, b, rfl, rfl, q⟩
theorem w_le {a b : Int} (q : Q (.bl (dB (a ≤ b))) H) : rLe (.int a) (.int b) H Q := ⟨a, b, rfl, rfl, q⟩
theorem w_gt {a b : Int} (q : Q (.bl (dB (b < a))) H) : rGt (.int a) (.int b) H Q := ⟨a, b, rfl, rfl, q⟩
theorem w_ge {a b : Int} (q : Q (.bl (dB (b ≤ a))) H) : rGe (.int a) (.int b) H Q := ⟨a, b, rfl, rfl, q⟩
theorem w_ltS {a b : Str} (q : Q (.bl (dB (a.cps.toList < b.cps.toList))) H) : rLtS (.str a) (.str b) H Q := ⟨a, b, rfl, rfl, q⟩
theorem w_leS {a b : Str} (q : Q (.bl (!dB (b.cps.toList < a.cps.toList))) H) : rLeS (.str a) (.str b) H Q := ⟨a, b, rfl, rfl, q⟩
theorem w_gtS {a b : Str} (q : Q (.bl (dB (b.cps.toList < a.cps.toList))) H) : rGtS (.str a) (.str b) H Q := ⟨a, b, rfl, rfl, q⟩
theorem w_geS {a b : Str} (q : Q (.bl (!dB (a.cps.toList < b.cps.toList))) H) : rGeS (.str a) (.str b) H Q := ⟨a, b, rfl, rfl, q⟩
theorem w_addS {a b : Str} (h : a.length + b.length ≤ sizeLine) (q : Q (.str (a ++ b)) H) : rAddS (.str a) (.str b) H Q := ⟨a, b, rfl, rfl, h, q⟩
theorem w_inS {c : Nat} {w : Str} (q : Q (.bl (dB (c ∈ w.cps.toList))) H) : rInS (.str ⟨#[c]⟩) (.str w) H Q := ⟨c, w, rfl, rfl, by rw [← dB_eq]; exact q⟩
theorem w_ninS {c : Nat} {w : Str} (q : Q (.bl (!dB (c ∈ w.cps.toList))) H) : rNotInS (.str ⟨#[c]⟩) (.str w) H Q := ⟨c, w, rfl, rfl, by rw [← dB_eq]; exact q⟩
theorem w_test {Q : Bool → Hp → Prop} (q : te σ H fun x H' => ∃ k, x = .bl k ∧ Q k H') : tTest te σ H Q := q
theorem w_tB {Q : Bool → Hp → Prop} (q : te σ H fun x H' => ∃ k, x = .bl k ∧ Q k H') : tB te σ H Q := q
theorem w_tru {Q : Bool → Hp → Prop} (q : te σ H fun x H' => ∃ k, TruV K x H' k ∧ Q k H') : tTru K te σ H Q := q
theorem w_bl {P : Bool → Prop} {b : Bool} (q : P b) : ∃ k, V.bl b = .bl k ∧ P k := ⟨b, rfl, q⟩
theorem w_int {P : Int → Prop} {b : Int} (q : P b) : ∃ k, V.int b = .int k ∧ P k := ⟨b, rfl, q⟩
theorem w_ref {P : Addr → Prop} {b : Addr} (q : P b) : ∃ k, V.ref b = .ref k ∧ P k := ⟨b, rfl, q⟩
theorem w_str {P : Str → Prop} {b : Str} (q : P b) : ∃ k, V.str b = .str k ∧ P k := ⟨b, rfl, q⟩
theorem w_and {Q : Bool → Hp → Prop} (q : t σ H fun c H1 => if c = true then u σ H1 Q else Q false H1) : tAnd t u σ H Q := q
theorem w_or {Q : Bool → Hp → Prop} (q : t σ H fun c H1 => if c = true then Q true H1 else u σ H1 Q) : tOr t u σ H Q := q
theorem w_not {Q : Bool → Hp → Prop} (q : t σ H fun c H1 => Q (!c) H1) : tNot t σ H Q := q
theorem w_andV (q : ta σ H fun x H1 => ∃ c, x = .bl c ∧ if c = true then tb σ H1 Q else Q (.bl false) H1) : tAndV ta tb σ H Q := q
theorem w_orV (q : ta σ H fun x H1 => ∃ c, x = .bl c ∧ if c = true then Q (.bl true) H1 else tb σ H1 Q) : tOrV ta tb σ H Q := q
theorem w_notV (q : ta σ H fun x H1 => ∃ c, x = .bl c ∧ Q (.bl (!c)) H1) : tNotV ta σ H Q := q
theorem w_ifE (q : t σ H fun c H1 => if c = true then ta σ H1 Q else tb σ H1 Q) : tIf t ta tb σ H Q := q
theorem w_chain {r r' : R2} {tc : TE} (q : ta σ H fun x H1 => tb σ H1 fun y H2 => r x y H2 fun z H3 => ∃ k, z = .bl k ∧ (if k = true then tc σ H3 fun w' H4 => r' y w' H4 Q else Q (.bl false) H3)) : tChain r r' ta tb tc σ H Q := q
theorem w_dec {p A B : Prop} [Decidable p] (h1 : p → A) (h2 : ¬ p → B) : if dB p = true then A else B := by
  by_cases h : p
  · rw [if_pos (dB_t h)]; exact h1 h
  · rw [if_neg (by rw [dB_f h]; exact Bool.false_ne_true)]; exact h2 h
theorem w_ndec {p A B : Prop} [Decidable p] (h1 : ¬ p → A) (h2 : p → B) : if (!dB p) = true then A else B := by
  by_cases h : p
  · rw [if_neg (by rw [dB_t h]; exact Bool.false_ne_true)]; exact h2 h
  · rw [if_pos (by rw [dB_f h]; rfl)]; exact h1 h
theorem w_bool {b : Bool} {A B : Prop} (h1 : b = true → A) (h2 : b = false → B) : if b = true then A else B := by
  cases b with
  | true => exact h1 rfl
  | false => exact h2 rfl
theorem w_tt {b : Bool} {A B : Prop} (e : b = true) (h : A) : if b = true then A else B := by rw [if_pos e]; exact h
theorem w_ff {b : Bool} {A B : Prop} (e : b = false) (h : B) : if b = true then A else B := by rw [if_neg (by rw [e]; exact Bool.false_ne_true)]; exact h
theorem w_ttL {A B : Prop} (h : A) : if true = true then A else B := iteT h
theorem w_ffL {A B : Prop} (h : B) : if false = true then A else B := iteF h
theorem w_seq (q : ts { D with nx := tu D } σ H) : tSeq ts tu D σ H := q
theorem w_cut (Mid : L2.St → Hp → Prop) (h : ts { D with nx := Mid } σ H) (k : ∀ σ' H', Mid σ' H' → tu D σ' H') : Evl.tCut ts tu D σ H := ⟨Mid, h, k⟩
theorem w_next (q : D.nx σ H) : tNext D σ H := q
theorem w_brk (q : D.bk σ H) : tBreak D σ H := q
theorem w_cont (q : D.ct σ H) : tCont D σ H := q
theorem w_asg (q : te σ H fun x H1 => g x σ H1 D.nx) : tAsg te g D σ H := q
theorem w_gn {Q : L2.St → Hp → Prop} (e : σ.set i (some v) = σ') (q : Q σ' H) : gName i v σ H Q := by subst e; exact q
theorem w_drop (q : te σ H fun _ H1 => D.nx σ H1) : tDrop te D σ H := q
theorem w_ret (q : te σ H D.rt) : tRet te D σ H := q
theorem w_retN (q : D.rt .non H) : tRetN D σ H := q
theorem w_ifS (q : c σ H fun b H1 => if b = true then ts D σ H1 else tu D σ H1) : tIfS c ts tu D σ H := q
theorem w_aug {ti : TIp} (h : σ[i]? = some (some x)) (q : te σ H fun y H1 => ti x y H1 fun z H2 => D.nx (σ.set i (some z)) H2) : tAug i te ti D σ H := ⟨x, h, q⟩
theorem w_ip {f : Int → Int → Int} {a b : Int} (q : Q (.int (f a b)) H) : ipI f (.int a) (.int b) H Q := ⟨a, b, rfl, rfl, q⟩
theorem w_par {ta : TA} (q : ta σ H fun vs H1 => ∃ v w, vs = [v, w] ∧ D.nx ((σ.set i (some v)).set j (some w)) H1) : tPar i j ta D σ H := q
theorem w_v2 {P : V → V → Prop} (q : P x y) : ∃ v w, [x, y] = [v, w] ∧ P v w := ⟨x, y, rfl, q⟩
theorem w_nil {Q : List V → Hp → Prop} (q : Q [] H) : tNil σ H Q := q
theorem w_cons {tr : TA} {Q : List V → Hp → Prop} (q : ta σ H fun x H1 => tr σ H1 fun xs H2 => Q (x :: xs) H2) : tCons ta tr σ H Q := q
theorem w_call {sp : Sp} {E : XK} {t : TA} (q : t σ H fun vs H1 => sp vs H1 Q E) : tCall sp [] E t σ H Q := by
  unfold tCall
  simp only [List.append_nil]
  exact q
theorem w_cb {r : List V → Hp → VK → Prop} {t : TA} (q : t σ H fun vs H1 => r vs H1 Q) : tCB r t σ H Q := q
def rMeth (C : Addr) (m : Str) (sp : Sp) (E : XK) (t : TA) (σ : L2.St) (x : V) (H : Hp) (Q : VK) : Prop := ∃ a dx fs, x = .ref a ∧ H a = some (.ins C dx fs) ∧ fs.lookup m = none ∧ t σ H fun vs H2 => sp (x :: vs) H2 Q E
theorem w_meth {C : Addr} {m : Str} {sp : Sp} {E : XK} {t : TA} (q : ta σ H fun x H1 => rMeth C m sp E t σ x H1 Q) : tMeth C m sp [] E ta t σ H Q := by
  unfold tMeth
  simp only [List.append_nil]
  exact q
theorem w_meth1 {C p dx : Addr} {m : Str} {sp : Sp} {E : XK} {t : TA} {fs : List (Str × V)} (h : H p = some (.ins C dx fs)) (l : fs.lookup m = none) (q : t σ H fun vs H2 => sp (.ref p :: vs) H2 Q E) : rMeth C m sp E t σ (.ref p) H Q := ⟨p, dx, fs, rfl, h, l, q⟩
theorem w_make {C : Addr} {sp : Sp} {E : XK} {t : TA} (q : t σ H fun vs H1 => ∀ x dx, H1 x = none → H1 dx = none → dx ≠ x → sp (.ref x :: vs) (upd (upd H1 dx (.own x)) x (.ins C dx [])) (fun v H2 => v = .non ∧ Q (.ref x) H2) E) : tMake C sp [] E t σ H Q := by
  unfold tMake
  simp only [List.append_nil]
  exact q
theorem w_int1 {a : Int} (q : Q (.int a) H) : rInt1 [.int a] H Q := .inl ⟨a, rfl, q⟩
theorem w_int1b {k : Bool} (q : Q (.int (if k then 1 else 0)) H) : rInt1 [.bl k] H Q := .inr ⟨k, rfl, q⟩
theorem w_lenStr {x : Str} (h : x.length ≤ sizeLine) (q : Q (.int (x.length : Nat)) H) : rLenStr [.str x] H Q := ⟨x, rfl, h, q⟩
theorem w_lenS {p : Addr} {xs : List V} (h : SqL K H p xs) (q : Q (.int xs.length) H) : Evl.rLenS K [.ref p] H Q := ⟨p, xs, rfl, .inl h, q⟩
theorem w_lenT {p : Addr} {xs : List V} (h : SqT K H p xs) (q : Q (.int xs.length) H) : Evl.rLenS K [.ref p] H Q := ⟨p, xs, rfl, .inr h, q⟩
theorem w_max2 {a b : Int} (q : Q (.int (if b > a then b else a)) H) : Evl.rMax2 [.int a, .int b] H Q := ⟨a, b, rfl, q⟩
theorem w_min2 {a b : Int} (q : Q (.int (if b < a then b else a)) H) : rMin2 [.int a, .int b] H Q := ⟨a, b, rfl, q⟩
theorem w_isi {c : V} {t u : Value} {b : Bool} (k : ClsV c u) (ty : TyX K H x t) (e : PySem.W.kitOne K t u = some b) (q : Q (.bl b) H) : rIsi K [x, c] H Q := ⟨x, c, t, u, b, rfl, k, ty, e, q⟩
theorem w_isiI {n : String} {b : Bool} {a : Int} (e : kitB "int" n = some b) (q : Q (.bl b) H) : rIsi K [.int a, .ty n] H Q := w_isi (.ty n) (.base (.int a)) (kit_ty e) q
theorem w_isiB {n : String} {b : Bool} {a : Bool} (e : kitB "bool" n = some b) (q : Q (.bl b) H) : rIsi K [.bl a, .ty n] H Q := w_isi (.ty n) (.base (.bl a)) (kit_ty e) q
theorem w_isiN {n : String} {b : Bool} (e : kitB "NoneType" n = some b) (q : Q (.bl b) H) : rIsi K [.non, .ty n] H Q := w_isi (.ty n) (.base .non) (kit_ty e) q
theorem w_isiS {n : String} {b : Bool} {a : Str} (e : kitB "str" n = some b) (q : Q (.bl b) H) : rIsi K [.str a, .ty n] H Q := w_isi (.ty n) (.base (.str a)) (kit_ty e) q
theorem w_isiL {n : String} {b : Bool} {p : Addr} {xs : List V} (h : H p = some (.lst xs)) (e : kitB "list" n = some b) (q : Q (.bl b) H) : rIsi K [.ref p, .ty n] H Q := w_isi (.ty n) (.base (.lst h)) (kit_ty e) q
theorem w_isiT {n : String} {b : Bool} {p : Addr} {xs : List V} (h : H p = some (.tup xs)) (e : kitB "tuple" n = some b) (q : Q (.bl b) H) : rIsi K [.ref p, .ty n] H Q := w_isi (.ty n) (.base (.tup h)) (kit_ty e) q
theorem w_tup {t : TA} (q : t σ H fun xs H1 => xs.length ≤ sizeLine ∧ ∀ p, H1 p = none → Q (.ref p) (upd H1 p (.tup xs))) : tTup t σ H Q := q
theorem w_lst {t : TA} (q : t σ H fun xs H1 => xs.length ≤ sizeLine ∧ ∀ p, H1 p = none → Q (.ref p) (upd H1 p (.lst xs))) : tLst t σ H Q := q
theorem w_sz {n : Nat} {B : Prop} (h : n ≤ sizeLine) (q : B) : n ≤ sizeLine ∧ B := ⟨h, q⟩
theorem w_dnew (q : ∀ p, H p = none → Q (.ref p) (upd H p (.dK []))) : tDNewK σ H Q := q
theorem ex_at {a : Addr} {o : HO} (e : Ex H H') (h : H a = some o) : H' a = some o := e a o h
theorem ex_sq {a : Addr} {xs : List V} (e : Ex H H') (h : SqL K H a xs) : SqL K H' a xs := Evl.ex_l e h
theorem ex_st {a : Addr} {xs : List V} (e : Ex H H') (h : SqT K H a xs) : SqT K H' a xs := Evl.ex_t e h
theorem new_ex {p : Addr} {o : HO} (h : H p = none) (e : upd H p o = H') : Ex H H' := e ▸ Evl.Ex.new h
theorem new_at {p : Addr} {o : HO} (e : upd H p o = H') : H' p = some o := e ▸ upd_same
theorem ex_free {a : Addr} (e : Ex H H') (h : H' a = none) : H a = none := Evl.fresh_back e h
theorem w_ixL {p : Addr} {xs : List V} {i : Int} (h : SqL K H p xs) (a : atI xs i = some v) (q : Q v H) : rIxL K (.ref p) (.int i) H Q := ⟨p, xs, i, v, rfl, rfl, h, a, q⟩
theorem w_ixT {p : Addr} {xs : List V} {i : Int} (h : SqT K H p xs) (a : atI xs i = some v) (q : Q v H) : rIxT K (.ref p) (.int i) H Q := ⟨p, xs, i, v, rfl, rfl, h, a, q⟩
theorem w_ixS {z : Str} {i : Int} {c : Nat} (h : z.length ≤ sizeLine) (a : atI z.cps.toList i = some c) (q : Q (.str ⟨#[c]⟩) H) : rIxS (.str z) (.int i) H Q := ⟨z, i, c, rfl, rfl, h, a, q⟩
theorem w_sl {r : V → Option Int → Option Int → Hp → VK → Prop} {tl th : TO} (q : te σ H fun x H1 => tl σ H1 fun l H2 => th σ H2 fun u H3 => r x l u H3 Q) : tSl r te tl th σ H Q := q
theorem w_noPart {Q : Option Int → Hp → Prop} (q : Q none H) : tNoPart σ H Q := q
theorem w_part {Q : Option Int → Hp → Prop} (q : te σ H fun x H1 => ∃ i, x = .int i ∧ Q (some i) H1) : tPart te σ H Q := q
theorem w_slL {p : Addr} {xs : List V} {lo hi : Option Int} (h : SqL K H p xs) (q : ∀ l, H l = none → Q (.ref l) (upd H l (.lst (cutV xs lo hi)))) : rSlL K (.ref p) lo hi H Q := ⟨p, xs, rfl, h, q⟩
theorem w_slS {z : Str} {lo hi : Option Int} (h : z.length ≤ sizeLine) (q : Q (.str (cutS z lo hi)) H) : rSlS (.str z) lo hi H Q := ⟨z, rfl, h, q⟩
theorem w_cat {l b : Addr} {xs zs : List V} (h1 : H l = some (.lst xs)) (h2 : H b = some (.lst zs)) (hl : xs.length + zs.length ≤ sizeLine) (q : ∀ p, H p = none → Q (.ref p) (upd H p (.lst (xs ++ zs)))) : rCat (.ref l) (.ref b) H Q := ⟨l, b, xs, zs, rfl, rfl, h1, h2, hl, q⟩
theorem w_for {wi : TI} (q : wi σ H fun J H1 => ∃ W : Nat → Nat → L2.St → Hp → Prop, (∃ m, W 0 m σ H1) ∧ ∀ i m σ H, W i m σ H →
  (J.stop i H ∧ D.nx σ H) ∨ (J.go i H ∧ ∃ N : L2.St → Hp → Prop, (∀ σ' H', N σ' H' → ∃ m', m' < m ∧ W (i + 1) m' σ' H') ∧ ∀ x H', J.yld i H x H' → g x σ H' fun σ2 H2 => ts { D with nx := N, ct := N, bk := D.nx } σ2 H2)) : tFor wi g ts D σ H := q
theorem w_iList {R : It → Hp → Prop} (q : te σ H fun x H1 => ∃ a, x = .ref a ∧ (∃ xs, SqL K H1 a xs) ∧ R (Itl K a) H1) : iList K te σ H R := q
theorem w_iTup {R : It → Hp → Prop} (q : te σ H fun x H1 => ∃ a, x = .ref a ∧ (∃ xs, SqT K H1 a xs) ∧ R (Itt K a) H1) : iTup K te σ H R := q
theorem w_iStr {R : It → Hp → Prop} (q : te σ H fun v H1 => ∃ x, v = .str x ∧ R (Its x) H1) : iStr te σ H R := q
theorem w_iRng1 {ta : TA} {R : It → Hp → Prop} (q : ta σ H fun vs H1 => ∃ j : Int, vs = [.int j] ∧ -(2 ^ 62) ≤ j ∧ j < 2 ^ 62 ∧ R (Itr 0 j.toNat) H1) : iRng1 ta σ H R := q
theorem w_iRng2 {ta : TA} {R : It → Hp → Prop} (q : ta σ H fun vs H1 => ∃ i j : Int, vs = [.int i, .int j] ∧ (-(2 ^ 62) ≤ i ∧ i < 2 ^ 62 ∧ -(2 ^ 62) ≤ j ∧ j < 2 ^ 62) ∧ R (Itr i (j - i).toNat) H1) : iRng2 ta σ H R := q
theorem w_v1I {P : Int → Prop} {n : Int} (q : P n) : ∃ j, [V.int n] = [.int j] ∧ P j := ⟨n, rfl, q⟩
theorem w_v2I {P : Int → Int → Prop} {n m : Int} (q : P n m) : ∃ i j, [V.int n, .int m] = [.int i, .int j] ∧ P i j := ⟨n, m, rfl, q⟩
theorem f_list {a : Addr} {xs : List V} (hx : SqL K H a xs) (Pv : Nat → L2.St → Hp → Prop) (h0 : Pv 0 σ H) (hl : ∀ i σ H, i ≤ xs.length → Pv i σ H → SqL K H a xs)
    (hs : ∀ i x σ H, xs[i]? = some x → Pv i σ H → g x σ H fun σ2 H2 => ts { D with nx := Pv (i + 1), ct := Pv (i + 1), bk := D.nx } σ2 H2) (hd : ∀ σ H, Pv xs.length σ H → D.nx σ H) :
    (∃ xs, SqL K H a xs) ∧ ∃ W : Nat → Nat → L2.St → Hp → Prop, (∃ m, W 0 m σ H) ∧ ∀ i m σ H, W i m σ H →
      ((Itl K a).stop i H ∧ D.nx σ H) ∨ ((Itl K a).go i H ∧ ∃ N : L2.St → Hp → Prop, (∀ σ' H', N σ' H' → ∃ m', m' < m ∧ W (i + 1) m' σ' H') ∧ ∀ x H', (Itl K a).yld i H x H' → g x σ H' fun σ2 H2 => ts { D with nx := N, ct := N, bk := D.nx } σ2 H2) :=
  ⟨⟨xs, hx⟩, for_list Pv h0 hl hs hd⟩
theorem f_tup {a : Addr} {xs : List V} (hx : SqT K H a xs) (Pv : Nat → L2.St → Hp → Prop) (h0 : Pv 0 σ H) (hl : ∀ i σ H, i ≤ xs.length → Pv i σ H → SqT K H a xs)
    (hs : ∀ i x σ H, xs[i]? = some x → Pv i σ H → g x σ H fun σ2 H2 => ts { D with nx := Pv (i + 1), ct := Pv (i + 1), bk := D.nx } σ2 H2) (hd : ∀ σ H, Pv xs.length σ H → D.nx σ H) :
    (∃ xs, SqT K H a xs) ∧ ∃ W : Nat → Nat → L2.St → Hp → Prop, (∃ m, W 0 m σ H) ∧ ∀ i m σ H, W i m σ H →
      ((Itt K a).stop i H ∧ D.nx σ H) ∨ ((Itt K a).go i H ∧ ∃ N : L2.St → Hp → Prop, (∀ σ' H', N σ' H' → ∃ m', m' < m ∧ W (i + 1) m' σ' H') ∧ ∀ x H', (Itt K a).yld i H x H' → g x σ H' fun σ2 H2 => ts { D with nx := N, ct := N, bk := D.nx } σ2 H2) :=
  ⟨⟨xs, hx⟩, for_tup Pv h0 hl hs hd⟩
theorem f_rng {n : Int} (h1 : 0 ≤ n) (h2 : n ≤ 1000000) (Pv : Nat → L2.St → Hp → Prop) (h0 : Pv 0 σ H)
    (hs : ∀ (i : Nat) σ H, (i : Int) < n → Pv i σ H → g (.int (i : Int)) σ H fun σ2 H2 => ts { D with nx := Pv (i + 1), ct := Pv (i + 1), bk := D.nx } σ2 H2) (hd : ∀ σ H, Pv n.toNat σ H → D.nx σ H) :
    -(2 ^ 62) ≤ n ∧ n < 2 ^ 62 ∧ ∃ W : Nat → Nat → L2.St → Hp → Prop, (∃ m, W 0 m σ H) ∧ ∀ i m σ H, W i m σ H →
      ((Itr 0 n.toNat).stop i H ∧ D.nx σ H) ∨ ((Itr 0 n.toNat).go i H ∧ ∃ N : L2.St → Hp → Prop, (∀ σ' H', N σ' H' → ∃ m', m' < m ∧ W (i + 1) m' σ' H') ∧ ∀ x H', (Itr 0 n.toNat).yld i H x H' → g x σ H' fun σ2 H2 => ts { D with nx := N, ct := N, bk := D.nx } σ2 H2) := by
  refine ⟨by omega, by omega, for_range Pv h0 (fun i σ H hi p => ?_) hd⟩
  have e : (0 : Int) + (i : Int) = (i : Int) := Int.zero_add _
  rw [e]
  exact hs i σ H (by omega) p
theorem int_item {ns : List Int} {i : Nat} {x : V} (h : (ns.map V.int)[i]? = some x) : ∃ n, x = .int n ∧ ns[i]? = some n := by
  rw [List.getElem?_map] at h
  cases e : ns[i]? with
  | none => rw [e] at h; cases h
  | some z => rw [e] at h; exact ⟨z, (Option.some.inj h).symm, rfl⟩
theorem atI_lt {xs : List V} {i : Int} (h0 : 0 ≤ i) (h1 : i < xs.length) : atI xs i = some (xs.getD i.toNat .non) := by
  have e2 : ((i.toNat : Nat) : Int) = i := by omega
  have h3 : i.toNat < xs.length := by omega
  have e3 : xs[i.toNat]? = some (xs.getD i.toNat .non) := by
    rw [List.getD_eq_getElem?_getD, List.getElem?_eq_getElem h3]
    rfl
  have e := atI_nat (xs := xs) e3
  rw [e2] at e
  exact e
theorem sIx_nat (n d k : Nat) : HT.sIx n d (some (k : Int)) = min k n := by
  unfold HT.sIx
  simp
  omega
theorem cutV_to (xs : List V) (k : Nat) : cutV xs none (some (k : Int)) = xs.take k := by
  unfold cutV
  rw [sIx_nat]
  show (xs.drop 0).take (min k xs.length - 0) = xs.take k
  rw [List.drop_zero, Nat.sub_zero]
  rcases Nat.le_total k xs.length with h | h
  · rw [Nat.min_eq_left h]
  · rw [Nat.min_eq_right h, List.take_of_length_le (Nat.le_refl _), List.take_of_length_le h]
theorem cutV_all (xs : List V) (k : Nat) (h : xs.length ≤ k) : cutV xs none (some (k : Int)) = xs := by
  rw [cutV_to, List.take_of_length_le h]
mutual
theorem dp_mono (e : Ex H H') : ∀ (d : PyData) (v : V), Dp K H v d → Dp K H' v d
  | .none, _, h => by cases h; exact .non
  | .bool b, _, h => by cases h; exact .bl b
  | .int i, _, h => by cases h; exact .int i
  | .str x, _, h => by cases h; exact .str x
  | .list ds, _, h => by
    cases h with
    | lst hs ha => exact .lst (ex_sq e hs) (dpAll_mono e ds _ ha)
  | .tuple ds, _, h => by
    cases h with
    | tup hs ha => exact .tup (ex_st e hs) (dpAll_mono e ds _ ha)
  | .dict _, _, h => by cases h
theorem dpAll_mono (e : Ex H H') : ∀ (ds : List PyData) (vs : List V), DpAll K H vs ds → DpAll K H' vs ds
  | [], _, h => by cases h; exact .nil
  | d :: ds, _, h => by
    cases h with
    | cons h1 h2 => exact .cons (dp_mono e d _ h1) (dpAll_mono e ds _ h2)
end
theorem w_eqD {d1 d2 : PyData} {b : Bool} (h1 : Dp K H x d1) (h2 : Dp K H y d2) (s1 : SeqAt.shaped d1 = true) (s2 : SeqAt.shaped d2 = true) (e : PyData.eqv d1 d2 = b) (q : Q (.bl b) H) : rEqD K x y H Q := ⟨d1, d2, h1, h2, s1, s2, e ▸ q⟩
theorem w_neD {d1 d2 : PyData} {b : Bool} (h1 : Dp K H x d1) (h2 : Dp K H y d2) (s1 : SeqAt.shaped d1 = true) (s2 : SeqAt.shaped d2 = true) (e : PyData.eqv d1 d2 = b) (q : Q (.bl (!b)) H) : rNeD K x y H Q := ⟨d1, d2, h1, h2, s1, s2, e ▸ q⟩
theorem eqv_self {d : PyData} (h : SeqAt.shaped d = true) : PyData.eqv d d = true := by
  unfold SeqAt.shaped at h
  exact SeqAt.eqv_refl d (by simp at h; exact h.1)
theorem w_lc {wi : TI} {vs : List Nat} (q : wi σ H fun J H1 => ∀ D, H1 D = none → ∃ W : Nat → Nat → Hp → Prop, (∃ m, W 0 m (upd H1 D (.lst []))) ∧ ∀ i m H, W i m H →
  (J.stop i H ∧ Q (.ref D) H) ∨ (J.go i H ∧ ∃ Nx : Hp → Prop, (∀ H', Nx H' → ∃ m', m' < m ∧ W (i + 1) m' H') ∧ ∀ x H', J.yld i H x H' → g x (wipe σ vs) H' fun σ2 H2 => wipe σ2 vs = wipe σ vs ∧ t σ2 H2 fun b H3 =>
    if b = true then te σ2 H3 fun y H4 => ∃ acc, H4 D = some (.lst acc) ∧ acc.length < sizeLine ∧ Nx (upd H4 D (.lst (acc ++ [y]))) else Nx H3)) : tLc wi g t te vs σ H Q := q
theorem lc_fil {J : It} {n : Nat} {G : Hp → Prop} {Y : Nat → Hp → V → Hp → Prop} (w : Walk J n G Y) {vs : List Nat} {H1 : Hp} {Qd : Addr → Hp → Prop} (hn : n ≤ 1000000) (f : Nat → Option V) (hG : ∀ H', Ex H1 H' → G H') (hY : ∀ i H x H', i < n → Y i H x H' → Ex H H')
    (hs : ∀ i x H H', i < n → Ex H1 H → Y i H x H' → ∀ (R : V → Hp → Prop) (S : Hp → Prop), (∀ H4, Ex H' H4 → ∀ v, f i = some v → R v H4) → (∀ H4, Ex H' H4 → f i = none → S H4) →
      g x (wipe σ vs) H' fun σ2 H2 => wipe σ2 vs = wipe σ vs ∧ t σ2 H2 fun b H3 => if b = true then te σ2 H3 R else S H3)
    (hq : ∀ D H', H1 D = none → Ex H1 H' → H' D = some (.lst ((List.range n).filterMap f)) → Qd D H') :
    ∀ D, H1 D = none → ∃ W : Nat → Nat → Hp → Prop, (∃ m, W 0 m (upd H1 D (.lst []))) ∧ ∀ i m H, W i m H →
      (J.stop i H ∧ Qd D H) ∨ (J.go i H ∧ ∃ Nx : Hp → Prop, (∀ H', Nx H' → ∃ m', m' < m ∧ W (i + 1) m' H') ∧ ∀ x H', J.yld i H x H' → g x (wipe σ vs) H' fun σ2 H2 => wipe σ2 vs = wipe σ vs ∧ t σ2 H2 fun b H3 =>
        if b = true then te σ2 H3 fun y H4 => ∃ acc, H4 D = some (.lst acc) ∧ acc.length < sizeLine ∧ Nx (upd H4 D (.lst (acc ++ [y]))) else Nx H3) := by
  intro D hD
  have hlen : ∀ i, ((List.range i).filterMap f).length ≤ i := fun i => by
    have h := List.length_filterMap_le f (List.range i)
    rwa [List.length_range] at h
  refine lc_it w (fun i H => Ex H1 H ∧ H D = some (.lst ((List.range i).filterMap f))) ⟨Evl.Ex.new hD, upd_same⟩ (fun i H _ p => hG H p.1) ?_ (fun H p => hq D H hD p.1 p.2)
  rintro i x H H' hi ⟨e, p⟩ y
  have eY := hY i H x H' hi y
  refine hs i x H H' hi e y _ _ (fun H4 e4 v hv => ⟨_, e4 _ _ (eY _ _ p), ?_, ?_⟩) fun H4 e4 hv => ?_
  · have h1 := hlen i
    rw [sizeLine_eq]
    omega
  · refine ⟨Evl.Ex.mut ((e.trans eY).trans e4) hD, ?_⟩
    rw [upd_same, List.range_succ, List.filterMap_append]
    simp [hv]
  · refine ⟨(e.trans eY).trans e4, ?_⟩
    rw [e4 _ _ (eY _ _ p), List.range_succ, List.filterMap_append]
    simp [hv]
theorem lc_map {J : It} {n : Nat} {G : Hp → Prop} {Y : Nat → Hp → V → Hp → Prop} (w : Walk J n G Y) {vs : List Nat} {H1 : Hp} {Qd : Addr → Hp → Prop} (hn : n ≤ 1000000) (f : Nat → V) (hG : ∀ H', Ex H1 H' → G H') (hY : ∀ i H x H', i < n → Y i H x H' → Ex H H')
    (hs : ∀ i x H H', i < n → Ex H1 H → Y i H x H' → ∀ (R : V → Hp → Prop), (∀ H4, Ex H' H4 → R (f i) H4) → g x (wipe σ vs) H' fun σ2 H2 => wipe σ2 vs = wipe σ vs ∧ te σ2 H2 R)
    (hq : ∀ D H', H1 D = none → Ex H1 H' → H' D = some (.lst ((List.range n).map f)) → Qd D H') (hg : ∀ x σ H (P P' : L2.St → Hp → Prop), (∀ σ H, P σ H → P' σ H) → g x σ H P → g x σ H P') :
    ∀ D, H1 D = none → ∃ W : Nat → Nat → Hp → Prop, (∃ m, W 0 m (upd H1 D (.lst []))) ∧ ∀ i m H, W i m H →
      (J.stop i H ∧ Qd D H) ∨ (J.go i H ∧ ∃ Nx : Hp → Prop, (∀ H', Nx H' → ∃ m', m' < m ∧ W (i + 1) m' H') ∧ ∀ x H', J.yld i H x H' → g x (wipe σ vs) H' fun σ2 H2 => wipe σ2 vs = wipe σ vs ∧ tYes σ2 H2 fun b H3 =>
        if b = true then te σ2 H3 fun y H4 => ∃ acc, H4 D = some (.lst acc) ∧ acc.length < sizeLine ∧ Nx (upd H4 D (.lst (acc ++ [y]))) else Nx H3) := by
  refine lc_fil w hn (fun i => some (f i)) hG hY (fun i x H H' hi e y R S hR _ => ?_) fun D H' hD e p => hq D H' hD e ?_
  · refine hg _ _ _ _ _ (fun σ2 H2 z => ?_) (hs i x H H' hi e y R fun H4 e4 => hR H4 e4 _ rfl)
    exact ⟨z.1, (iteT z.2 : if true = true then te σ2 H2 R else S H2)⟩
  · rw [p]
    congr 2
    induction n with
    | zero => rfl
    | succ n ih => simp
theorem mono_gn (i : Nat) : ∀ x σ H (P P' : L2.St → Hp → Prop), (∀ σ H, P σ H → P' σ H) → gName i x σ H P → gName i x σ H P' := fun _ _ _ _ _ h q => h _ _ q
theorem small_of {n m : Nat} (h : n ≤ m) (h2 : m ≤ 1000000) : n ≤ sizeLine := by rw [sizeLine_eq]; omega
theorem str_len_app (a b : Str) : (a ++ b).length = a.length + b.length := Array.size_append
theorem sign_len (c : Nat) : (⟨#[c]⟩ : Str).length = 1 := rfl
theorem len_toList (z : Str) : z.cps.toList.length = z.length := Array.length_toList
theorem atI_ltN {l : List Nat} {i : Int} (h0 : 0 ≤ i) (h1 : i < l.length) : atI l i = some (l.getD i.toNat 0) := by
  have e2 : ((i.toNat : Nat) : Int) = i := by omega
  have h3 : i.toNat < l.length := by omega
  have e3 : l[i.toNat]? = some (l.getD i.toNat 0) := by
    rw [List.getD_eq_getElem?_getD, List.getElem?_eq_getElem h3]
    rfl
  have e := atI_nat (xs := l) e3
  rw [e2] at e
  exact e
theorem w_ixSn {z : Str} {i : Int} (h : z.length ≤ sizeLine) (h0 : 0 ≤ i) (h1 : i < z.length) (q : Q (.str ⟨#[z.cps.toList.getD i.toNat 0]⟩) H) : rIxS (.str z) (.int i) H Q :=
  w_ixS h (atI_ltN h0 (by rw [len_toList]; exact h1)) q
def rMulS : R2 := fun x y H Q => ∃ i n, x = .str i ∧ y = .int n ∧ 0 ≤ n ∧ n ≤ 1000 ∧ i.length ≤ 1000 ∧ ∀ z : Str, z.length ≤ i.length * n.toNat → Q (.str z) H
abbrev aMulS := tOp rMulS
theorem rep_size (x : Array Nat) : ∀ (n : Nat) (a : Array Nat), ((List.replicate n x).foldl (· ++ ·) a).size = a.size + n * x.size
  | 0, a => by simp
  | n + 1, a => by
    rw [List.replicate_succ, List.foldl_cons, rep_size x n (a ++ x), Array.size_append, Nat.succ_mul]
    omega
theorem op_mulS {X : Cx} : OpR X (binaryOp .Mult) rMulS := by
  intro pins s σ H x y v u Q I rx ry h
  obtain ⟨i, n, rfl, rfl, h0, h1, hi, q⟩ := h
  obtain ⟨t, rfl⟩ := rx
  obtain ⟨t', rfl⟩ := ry
  have hm : i.length * n.toNat ≤ 1000000 := by
    have := Nat.mul_le_mul hi (show n.toNat ≤ 1000 by omega)
    omega
  refine PySem.P.mul_str ?_ ?_ ?_ ?_
  · rw [decide_eq_false (by omega), decide_eq_false (by omega)]; rfl
  · intro h2 _ h3
    have h4 : 1 ≤ n := by omega
    have h5 : (2 ^ 63 - 1) / n ≥ (2 ^ 63 - 1) / 1000 := by
      have : n * ((2 ^ 63 - 1) / 1000) ≤ 2 ^ 63 - 1 := by
        have := Int.mul_le_mul_of_nonneg_right h1 (show (0 : Int) ≤ (2 ^ 63 - 1) / 1000 by decide)
        omega
      exact (Int.le_ediv_iff_mul_le (by omega)).mpr (by rw [Int.mul_comm]; exact this)
    have h6 : ((2 ^ 63 - 1) / 1000 : Int) > 1000 := by decide
    omega
  · intro _ _
    refine decide_eq_false ?_
    have := sizeLine_eq
    omega
  · split
    · exact ⟨by decide, .str Str.empty, H, I.tok _, ⟨_, rfl⟩, q _ (Nat.zero_le _)⟩
    · split
      · rename_i h2 h3
        rcases Bool.or_eq_true_iff.mp h3 with e | e
        · have e' : n = 1 := by simpa using e
          exact ⟨.str i, H, I, ⟨_, rfl⟩, q _ (by rw [e']; show i.length ≤ i.length * 1; omega)⟩
        · have e' : i.length = 0 := by simpa using e
          exact ⟨.str i, H, I, ⟨_, rfl⟩, q _ (by rw [e']; omega)⟩
      · have e := rep_size i.cps n.toNat #[]
        have e' : (⟨(List.replicate n.toNat i.cps).foldl (· ++ ·) #[]⟩ : Str).length = i.length * n.toNat := by
          show ((List.replicate n.toNat i.cps).foldl (· ++ ·) #[]).size = i.cps.size * n.toNat
          rw [e, Nat.mul_comm]; simp
        exact ⟨by rw [e', sizeLine_eq]; omega, .str _, H, I.tok _, ⟨_, rfl⟩, q _ (Nat.le_of_eq e')⟩
theorem w_m1 {r : V → List V → Hp → VK → Prop} (q : ta σ H fun x H1 => (∃ a, x = .str a) ∧ te σ H1 fun y H2 => r x [y] H2 Q) : tM1 r ta te σ H Q := q
theorem w_isS {a : Str} {B : Prop} (q : B) : (∃ b, V.str a = .str b) ∧ B := ⟨⟨a, rfl⟩, q⟩
theorem log_small {i : Int} (h0 : 0 ≤ i) (h : i < 2 ^ 1000) : i.natAbs.log2 < 1920 := by
  by_cases e : i.natAbs = 0
  · rw [e]; decide
  · rw [Nat.log2_lt e]
    have h1 : (i.natAbs : Int) = i := by omega
    have h2 : ((2 ^ 1000 : Nat) : Int) = (2 : Int) ^ 1000 := by norm_cast
    have h3 : i.natAbs < 2 ^ 1000 := by
      have : ((i.natAbs : Nat) : Int) < ((2 ^ 1000 : Nat) : Int) := by rw [h1, h2]; exact h
      exact Int.ofNat_lt.mp this
    exact Nat.lt_of_lt_of_le h3 (Nat.pow_le_pow_right (by decide) (by decide))
theorem w_strI {i : Int} (h : i.natAbs.log2 < 1920) (q : Q (.str (toString i)) H) : rStrI [.int i] H Q := ⟨i, rfl, h, q⟩
theorem w_strL {i : Int} (h0 : 0 ≤ i) (h : i < 2 ^ 1000) (q : ∀ z : Str, z.length ≤ 1921 → Q (.str z) H) : rStrI [.int i] H Q := w_strI (log_small h0 h) (q _ (PyProof.Rows.int_text_len_1921 (log_small h0 h)))
theorem w_mulS {z : Str} {n : Int} (h0 : 0 ≤ n) (h1 : n ≤ 1000) (hi : z.length ≤ 1000) (q : ∀ y : Str, y.length ≤ z.length * n.toNat → Q (.str y) H) : rMulS (.str z) (.int n) H Q := ⟨z, n, rfl, rfl, h0, h1, hi, q⟩
def rFld (K : PySem.W.Frag) (f : Str) (x : V) (H : Hp) (Q : VK) : Prop := ∃ a C dx fs v, x = .ref a ∧ H a = some (.ins C dx fs) ∧ Cls K C ∧ NoAttr K C f ∧ fs.lookup f = some v ∧ Q v H
theorem w_tFld {f : Str} (q : ta σ H fun x H1 => rFld K f x H1 Q) : tFld K ta f σ H Q := q
theorem w_fld {f : Str} {p C dx : Addr} {fs : List (Str × V)} (h : H p = some (.ins C dx fs)) (c : Cls K C) (n : NoAttr K C f) (l : fs.lookup f = some v) (q : Q v H) : rFld K f (.ref p) H Q := ⟨p, C, dx, fs, v, rfl, h, c, n, l, q⟩
def rSFld (K : PySem.W.Frag) (f : Str) (y x : V) (H : Hp) (R : Hp → Prop) : Prop := ∃ a C dx fs, x = .ref a ∧ H a = some (.ins C dx fs) ∧ Cls K C ∧ NoAttr K C f ∧ fs.length < 1000 ∧ R (upd H a (.ins C dx (putF f y fs)))
theorem w_sFld {f : Str} {tv : TE} (q : tv σ H fun y H1 => ta σ H1 fun x H2 => rSFld K f y x H2 fun H3 => D.nx σ H3) : sFld K ta tv f D σ H := q
theorem w_rsFld {f : Str} {p C dx : Addr} {fs fs' : List (Str × V)} {R : Hp → Prop} (h : H p = some (.ins C dx fs)) (c : Cls K C) (n : NoAttr K C f) (l : fs.length < 1000) (e : putF f y fs = fs') (q : R (upd H p (.ins C dx fs'))) : rSFld K f y (.ref p) H R :=
  ⟨p, C, dx, fs, rfl, h, c, n, l, e ▸ q⟩
def rDGet (x y : V) (H : Hp) (Q : VK) : Prop := ∃ a v, x = .ref a ∧ DGet H a y (some v) ∧ Q v H
theorem w_tDGet {td ty : TE} (q : td σ H fun x H1 => ty σ H1 fun y H2 => rDGet x y H2 Q) : tDGet td ty σ H Q := q
theorem w_dgetI {p : Addr} {kvs : List (Key × V)} {k : Int} (h : H p = some (.dK kvs)) (e : valV kvs (.inl k) = some v) (q : Q v H) : rDGet (.ref p) (.int k) H Q := ⟨p, v, rfl, e ▸ DGet.k (k := .inl k) h, q⟩
theorem w_dgetS {p : Addr} {kvs : List (Key × V)} {k : Str} (h : H p = some (.dK kvs)) (e : valV kvs (.inr k) = some v) (q : Q v H) : rDGet (.ref p) (.str k) H Q := ⟨p, v, rfl, e ▸ DGet.k (k := .inr k) h, q⟩
def rDIn (y x : V) (H : Hp) (Q : VK) : Prop := ∃ a o, x = .ref a ∧ DGet H a y o ∧ Q (.bl o.isSome) H
theorem w_tDIn {td ty : TE} (q : ty σ H fun y H1 => td σ H1 fun x H2 => rDIn y x H2 Q) : tDIn ty td σ H Q := q
theorem w_dinI {p : Addr} {kvs : List (Key × V)} {k : Int} (h : H p = some (.dK kvs)) (q : Q (.bl (valV kvs (.inl k)).isSome) H) : rDIn (.int k) (.ref p) H Q := ⟨p, _, rfl, DGet.k (k := .inl k) h, q⟩
def rDNotIn (y x : V) (H : Hp) (Q : VK) : Prop := ∃ a o, x = .ref a ∧ DGet H a y o ∧ Q (.bl (!o.isSome)) H
theorem w_tDNotIn {td ty : TE} (q : ty σ H fun y H1 => td σ H1 fun x H2 => rDNotIn y x H2 Q) : tDNotIn ty td σ H Q := q
def rDPut (v x y : V) (H : Hp) (R : Hp → Prop) : Prop := ∃ a H4, x = .ref a ∧ DPut H a y v H4 ∧ R H4
theorem w_sDPut {td ty tv : TE} (q : tv σ H fun v H1 => td σ H1 fun x H2 => ty σ H2 fun y H3 => rDPut v x y H3 fun H4 => D.nx σ H4) : sDPut td ty tv D σ H := q
theorem w_dputI {p : Addr} {kvs : List (Key × V)} {k : Int} {R : Hp → Prop} (h : H p = some (.dK kvs)) (l : kvs.length < sizeLine) (q : R (upd H p (.dK (putK kvs (.inl k) v)))) : rDPut v (.ref p) (.int k) H R := ⟨p, _, rfl, DPut.k (k := .inl k) h l, q⟩
theorem w_dputS {p : Addr} {kvs : List (Key × V)} {k : Str} {R : Hp → Prop} (h : H p = some (.dK kvs)) (l : kvs.length < sizeLine) (q : R (upd H p (.dK (putK kvs (.inr k) v)))) : rDPut v (.ref p) (.str k) H R := ⟨p, _, rfl, DPut.k (k := .inr k) h l, q⟩
theorem w_bm {T : String} {r : V → List V → Hp → VK → Prop} {t : TA} (q : te σ H fun x H1 => tyV K T x H1 ∧ t σ H1 fun xs H2 => r x xs H2 Q) : tBM K T r te t σ H Q := q
theorem w_bm0 {T : String} {r : V → List V → Hp → VK → Prop} (q : te σ H fun x H1 => tyV K T x H1 ∧ r x [] H1 Q) : tBM0 K T r te σ H Q := q
theorem w_tyL {p : Addr} {xs : List V} {B : Prop} (h : SqL K H p xs) (q : B) : tyV K "list" (.ref p) H ∧ B := ⟨.inl ⟨rfl, xs, h⟩, q⟩
theorem w_app {l : Addr} {xs : List V} (h : H l = some (.lst xs)) (hl : xs.length < sizeLine) (q : Q .non (upd H l (.lst (xs ++ [y])))) : rAppend (.ref l) [y] H Q := ⟨l, xs, y, rfl, rfl, h, hl, q⟩
theorem w_pop {l : Addr} {xs : List V} (h : H l = some (.lst (xs ++ [y]))) (q : Q y (upd H l (.lst xs))) : rPop (.ref l) [] H Q := ⟨l, xs ++ [y], y, rfl, rfl, h, by simp, by rw [List.dropLast_concat]; exact q⟩
theorem w_ext {l b : Addr} {xs zs : List V} (h : H l = some (.lst xs)) (hb : H b = some (.lst zs)) (hl : xs.length + zs.length ≤ sizeLine) (q : Q .non (upd H l (.lst (xs ++ zs)))) : rExtend (.ref l) [.ref b] H Q := ⟨l, b, xs, zs, rfl, rfl, h, hb, hl, q⟩
theorem w_clr {l : Addr} {xs : List V} (h : H l = some (.lst xs)) (q : Q .non (upd H l (.lst []))) : rClear (.ref l) [] H Q := ⟨l, xs, rfl, rfl, h, q⟩
def rRev (K : PySem.W.Frag) (vs : List V) (H : Hp) (R : It → Hp → Prop) : Prop := ∃ (a : Addr) (xs : List V), vs = [.ref a] ∧ SqL K H a xs ∧ R (Itv K a xs.length) H
theorem w_iRev {ta : TA} {R : It → Hp → Prop} (q : ta σ H fun vs H1 => rRev K vs H1 R) : iRev K ta σ H R := q
theorem w_rev1 {p : Addr} {xs : List V} {R : It → Hp → Prop} (h : SqL K H p xs) (q : R (Itv K p xs.length) H) : rRev K [.ref p] H R := ⟨p, xs, rfl, h, q⟩
def rItems (x : V) (H : Hp) (R : It → Hp → Prop) : Prop := ∃ d o kvs, x = .ref d ∧ H d = some (.frz o (.dK kvs)) ∧ R (Iti d o kvs) H
theorem w_iItems {R : It → Hp → Prop} (q : te σ H fun x H1 => rItems x H1 R) : iItems te σ H R := q
theorem w_items1 {p : Addr} {o : Obj} {kvs : List (Key × V)} {R : It → Hp → Prop} (h : H p = some (.frz o (.dK kvs))) (q : R (Iti p o kvs) H) : rItems (.ref p) H R := ⟨p, o, kvs, rfl, h, q⟩
def rKeys (x : V) (H : Hp) (R : It → Hp → Prop) : Prop := ∃ d o, x = .ref d ∧ ((∃ kvs, H d = some (.frz o (.dK kvs)) ∧ R (Itk d o kvs) H) ∨ ∃ kvs, H d = some (.frz o (.dT kvs)) ∧ R (Itkt d o kvs) H)
theorem w_iKeys {R : It → Hp → Prop} (q : te σ H fun x H1 => rKeys x H1 R) : iKeys te σ H R := q
theorem w_keys1 {p : Addr} {o : Obj} {kvs : List (Key × V)} {R : It → Hp → Prop} (h : H p = some (.frz o (.dK kvs))) (q : R (Itk p o kvs) H) : rKeys (.ref p) H R := ⟨p, o, rfl, .inl ⟨kvs, h, q⟩⟩
def rRng3 (vs : List V) (H : Hp) (R : It → Hp → Prop) : Prop := ∃ (i j c : Int) (n : Nat), vs = [.int i, .int j, .int c] ∧ RgC i j c n ∧ R (Itc i c n) H
theorem w_iRng3 {ta : TA} {R : It → Hp → Prop} (q : ta σ H fun vs H1 => rRng3 vs H1 R) : iRng3 ta σ H R := q
def rZip (K : PySem.W.Frag) (vs : List V) (H : Hp) (R : It → Hp → Prop) : Prop := ∃ a b xs ys, vs = [.ref a, .ref b] ∧ SqL K H a xs ∧ SqL K H b ys ∧ R (Itz K a b) H
theorem w_iZip {ta : TA} {R : It → Hp → Prop} (q : ta σ H fun vs H1 => rZip K vs H1 R) : iZip K ta σ H R := q
theorem w_zip1 {p q : Addr} {xs ys : List V} {R : It → Hp → Prop} (h : SqL K H p xs) (h2 : SqL K H q ys) (k : R (Itz K p q) H) : rZip K [.ref p, .ref q] H R := ⟨p, q, xs, ys, rfl, h, h2, k⟩
theorem w_gCons {u : TGs} {x : V} {xs : List V} {Q : L2.St → Hp → Prop} (q : g x σ H fun σ' H' => u xs σ' H' Q) : gCons g u (x :: xs) σ H Q := ⟨x, xs, rfl, q⟩
theorem w_gNil {Q : L2.St → Hp → Prop} (q : Q σ H) : gNil [] σ H Q := ⟨rfl, q⟩
theorem w_gTup {n : Nat} {u : TGs} {p : Addr} {xs : List V} {Q : L2.St → Hp → Prop} (h : SqT K H p xs) (l : xs.length = n) (q : u xs σ H Q) : gTup K n u (.ref p) σ H Q := ⟨p, xs, rfl, h, l, q⟩
theorem w_sortD {p : Addr} {kvs : List (Key × V)} {ks : List Int} (h : H p = some (.dK kvs)) (e : kvs.map (·.1) = ks.map Sum.inl) (l : ks.length < 64) (q : ∀ (ys : List Int) (p : Addr), ys.Perm ks → ys.Pairwise (· ≤ ·) → H p = none → Q (.ref p) (upd H p (.lst (ys.map V.int)))) : rSortedD [.ref p] H Q :=
  ⟨p, kvs, ks, rfl, .inl h, e, l, q⟩
theorem w_lock (q : ∃ d u, H d = some u ∧ Mut (some u) ∧ ∀ od, ts ⟨fun σ' H' => H' d = some (.frz od u) ∧ D.nx σ' (upd H' d u), fun v H' => H' d = some (.frz od u) ∧ D.rt v (upd H' d u), fun σ' H' => H' d = some (.frz od u) ∧ D.bk σ' (upd H' d u), fun σ' H' => H' d = some (.frz od u) ∧ D.ct σ' (upd H' d u)⟩ σ (upd H d (.frz od u))) : tLock ts D σ H := q
def del (H : Hp) (p : Addr) : Hp := fun a => if a = p then none else H a
theorem del_same {p : Addr} : del H p p = none := by unfold del; rw [if_pos rfl]
theorem del_ne {p a : Addr} (h : a ≠ p) : del H p a = H a := by unfold del; rw [if_neg h]
theorem del_ex {p : Addr} : Ex (del H p) H := fun a o h => by
  by_cases e : a = p
  · subst e; rw [del_same] at h; cases h
  · rwa [del_ne e] at h
theorem del_mono {p : Addr} (e : Ex H H') : Ex (del H p) (del H' p) := fun a o h => by
  by_cases q : a = p
  · subst q; rw [del_same] at h; cases h
  · rw [del_ne q] at h ⊢; exact e a o h
theorem del_upd {p : Addr} {o : HO} : del (upd H p o) p = del H p := by
  funext a
  by_cases q : a = p
  · subst q; rw [del_same, del_same]
  · rw [del_ne q, del_ne q, upd_ne q]
theorem ex_del {p : Addr} (e : Ex H H') (h : H p = none) : Ex H (del H' p) := fun a o q => by
  rw [del_ne (ne_of_none q h)]; exact e a o q
theorem lc_relF {J : It} {n : Nat} {G : Hp → Prop} {Y : Nat → Hp → V → Hp → Prop} (w : Walk J n G Y) {vs : List Nat} {H1 : Hp} {Qd : Addr → Hp → Prop} (hn : n ≤ 1000000) (p : Nat → Bool) (Rl : Nat → V → Hp → Prop) (mono : ∀ i v H H', Ex H H' → Rl i v H → Rl i v H')
    (hG : ∀ H', Ex H1 H' → G H') (hY : ∀ i H x H', i < n → Y i H x H' → Ex H H')
    (hs : ∀ D i x H H', H1 D = none → i < n → Ex H1 (del H D) → (∃ o, H D = some o) → Y i H x H' → ∀ (R : V → Hp → Prop) (S : Hp → Prop), (∀ v H4, Ex H' H4 → p i = true → Rl i v (del H4 D) → R v H4) → (∀ H4, Ex H' H4 → p i = false → S H4) →
      g x (wipe σ vs) H' fun σ2 H2 => wipe σ2 vs = wipe σ vs ∧ t σ2 H2 fun b H3 => if b = true then te σ2 H3 R else S H3)
    (hq : ∀ D H' xs, H1 D = none → Ex H1 H' → H' D = some (.lst xs) → xs.length = ((List.range n).filter p).length → (∀ (j : Nat) (v : V) (i : Nat), xs[j]? = some v → ((List.range n).filter p)[j]? = some i → Rl i v (del H' D)) → Qd D H') :
    ∀ D, H1 D = none → ∃ W : Nat → Nat → Hp → Prop, (∃ m, W 0 m (upd H1 D (.lst []))) ∧ ∀ i m H, W i m H →
      (J.stop i H ∧ Qd D H) ∨ (J.go i H ∧ ∃ Nx : Hp → Prop, (∀ H', Nx H' → ∃ m', m' < m ∧ W (i + 1) m' H') ∧ ∀ x H', J.yld i H x H' → g x (wipe σ vs) H' fun σ2 H2 => wipe σ2 vs = wipe σ vs ∧ t σ2 H2 fun b H3 =>
        if b = true then te σ2 H3 fun y H4 => ∃ acc, H4 D = some (.lst acc) ∧ acc.length < sizeLine ∧ Nx (upd H4 D (.lst (acc ++ [y]))) else Nx H3) := by
  intro D hD
  have hlen : ∀ i, ((List.range i).filter p).length ≤ i := fun i => by
    have h := List.length_filter_le p (List.range i)
    rwa [List.length_range] at h
  refine lc_it w (fun i H => Ex H1 (del H D) ∧ ∃ xs, H D = some (.lst xs) ∧ xs.length = ((List.range i).filter p).length ∧ ∀ (j : Nat) (v : V) (k : Nat), xs[j]? = some v → ((List.range i).filter p)[j]? = some k → Rl k v (del H D)) ⟨ex_del (Evl.Ex.new hD) hD, [], upd_same, rfl, fun j v k h => by simp at h⟩ (fun i H _ q => hG H (q.1.trans del_ex)) ?_
    (fun H q => by obtain ⟨e, xs, h1, h2, h3⟩ := q; exact hq D H xs hD (e.trans del_ex) h1 h2 h3)
  rintro i x H H' hi ⟨e, xs, h1, h2, h3⟩ y
  have eY := hY i H x H' hi y
  have hl := hlen i
  refine hs D i x H H' hD hi e ⟨_, h1⟩ y _ _ (fun v H4 e4 hp hv => ?_) fun H4 e4 hp => ?_
  · have er : (List.range (i + 1)).filter p = (List.range i).filter p ++ [i] := by rw [List.range_succ, List.filter_append]; simp [hp]
    refine ⟨xs, e4 _ _ (eY _ _ h1), by rw [sizeLine_eq]; omega, by rw [del_upd]; exact e.trans (del_mono (eY.trans e4)), xs ++ [v], upd_same, by rw [er]; simp [h2], fun j v' k hj hk => ?_⟩
    rw [del_upd]
    rw [er] at hk
    by_cases q : j < xs.length
    · rw [List.getElem?_append_left q] at hj
      rw [List.getElem?_append_left (by omega)] at hk
      exact mono k v' _ _ (del_mono (eY.trans e4)) (h3 j v' k hj hk)
    · have q2 : j = xs.length := by
        have := (List.getElem?_eq_some_iff.mp hj).1
        simp at this; omega
      subst q2
      have e5 : v = v' := by simpa using hj
      rw [h2] at hk
      have e6 : i = k := by simpa using hk
      subst e5 e6
      exact hv
  · have er : (List.range (i + 1)).filter p = (List.range i).filter p := by rw [List.range_succ, List.filter_append]; simp [hp]
    refine ⟨e.trans (del_mono (eY.trans e4)), xs, e4 _ _ (eY _ _ h1), by rw [er]; exact h2, fun j v' k hj hk => ?_⟩
    rw [er] at hk
    exact mono k v' _ _ (del_mono (eY.trans e4)) (h3 j v' k hj hk)
theorem filter_yes (n : Nat) : (List.range n).filter (fun _ => true) = List.range n := List.filter_eq_self.mpr fun _ _ => rfl
theorem lc_rel {J : It} {n : Nat} {G : Hp → Prop} {Y : Nat → Hp → V → Hp → Prop} (w : Walk J n G Y) {vs : List Nat} {H1 : Hp} {Qd : Addr → Hp → Prop} (hn : n ≤ 1000000) (Rl : Nat → V → Hp → Prop) (mono : ∀ i v H H', Ex H H' → Rl i v H → Rl i v H')
    (hG : ∀ H', Ex H1 H' → G H') (hY : ∀ i H x H', i < n → Y i H x H' → Ex H H')
    (hs : ∀ D i x H H', H1 D = none → i < n → Ex H1 (del H D) → (∃ o, H D = some o) → Y i H x H' → ∀ (R : V → Hp → Prop), (∀ v H4, Ex H' H4 → Rl i v (del H4 D) → R v H4) → g x (wipe σ vs) H' fun σ2 H2 => wipe σ2 vs = wipe σ vs ∧ te σ2 H2 R)
    (hq : ∀ D H' xs, H1 D = none → Ex H1 H' → H' D = some (.lst xs) → xs.length = n → (∀ (i : Nat) (v : V), xs[i]? = some v → Rl i v (del H' D)) → Qd D H') (hg : ∀ x σ H (P P' : L2.St → Hp → Prop), (∀ σ H, P σ H → P' σ H) → g x σ H P → g x σ H P') :
    ∀ D, H1 D = none → ∃ W : Nat → Nat → Hp → Prop, (∃ m, W 0 m (upd H1 D (.lst []))) ∧ ∀ i m H, W i m H →
      (J.stop i H ∧ Qd D H) ∨ (J.go i H ∧ ∃ Nx : Hp → Prop, (∀ H', Nx H' → ∃ m', m' < m ∧ W (i + 1) m' H') ∧ ∀ x H', J.yld i H x H' → g x (wipe σ vs) H' fun σ2 H2 => wipe σ2 vs = wipe σ vs ∧ tYes σ2 H2 fun b H3 =>
        if b = true then te σ2 H3 fun y H4 => ∃ acc, H4 D = some (.lst acc) ∧ acc.length < sizeLine ∧ Nx (upd H4 D (.lst (acc ++ [y]))) else Nx H3) := by
  refine lc_relF w hn (fun _ => true) Rl mono hG hY (fun D i x H H' h1 hi e hD y R S hR _ => ?_) fun D H' xs hD e h1 h2 h3 => ?_
  · refine hg _ _ _ _ _ (fun σ2 H2 z => ?_) (hs D i x H H' h1 hi e hD y R fun v H4 e4 hv => hR v H4 e4 rfl hv)
    exact ⟨z.1, iteT (B := S H2) z.2⟩
  · rw [filter_yes, List.length_range] at h2
    refine hq D H' xs hD e h1 h2 fun i v hv => h3 i v i hv ?_
    have := (List.getElem?_eq_some_iff.mp hv).1
    rw [filter_yes]
    exact List.getElem?_range (by omega)
theorem ne2 {a b : Addr} {o : HO} (h' : H b = none) (h : H a = some o) : a ≠ b := ne_of_none h h'
theorem ne2s {a b : Addr} {o : HO} (h' : H b = none) (h : H a = some o) : b ≠ a := Ne.symm (ne_of_none h h')
theorem up_ne {a b : Addr} {o u : HO} (h : b ≠ a) (h2 : H b = some u) : upd H a o b = some u := by rw [upd_ne h]; exact h2
theorem ne_head {a b : Addr} {l : List Addr} (h : a ∉ b :: l) : a ≠ b := fun e => h (e ▸ List.mem_cons_self)
theorem not_tail {a b : Addr} {l : List Addr} (h : a ∉ b :: l) : a ∉ l := fun m => h (List.mem_cons_of_mem _ m)
theorem putF_nil {f : Str} : putF f v [] = [(f, v)] := rfl
theorem putF_hit {f : Str} {w : V} {r : List (Str × V)} : putF f v ((f, w) :: r) = (f, v) :: r := by
  show (if f = f then _ else _) = _
  rw [if_pos rfl]
theorem putF_miss {f k : Str} {w : V} {r r' : List (Str × V)} (h : ¬ k = f) (e : putF f v r = r') : putF f v ((k, w) :: r) = (k, w) :: r' := by
  show (if k = f then _ else (k, w) :: putF f v r) = _
  rw [if_neg h, e]
theorem ty_list {p : Addr} {xs : List V} (h : SqL K H p xs) : TyX K H (.ref p) (.type "list") := by
  rcases h with (h | ⟨o, h⟩) | ⟨o, its, n, hk, hc, _⟩
  · exact .base (.lst h)
  · exact .base (.frz h)
  · exact .kList hk hc
theorem ty_tup {p : Addr} {xs : List V} (h : SqT K H p xs) : TyX K H (.ref p) (.type "tuple") := by
  rcases h with (h | ⟨o, h⟩) | ⟨o, its, n, hk, hc, _⟩
  · exact .base (.tup h)
  · exact .fTuple h
  · exact .kTuple hk hc
theorem w_isiSL {n : String} {b : Bool} {p : Addr} {xs : List V} (h : SqL K H p xs) (e : kitB "list" n = some b) (q : Q (.bl b) H) : rIsi K [.ref p, .ty n] H Q := w_isi (.ty n) (ty_list h) (kit_ty e) q
theorem w_isiST {n : String} {b : Bool} {p : Addr} {xs : List V} (h : SqT K H p xs) (e : kitB "tuple" n = some b) (q : Q (.bl b) H) : rIsi K [.ref p, .ty n] H Q := w_isi (.ty n) (ty_tup h) (kit_ty e) q
theorem w_ixAL {p : Addr} {xs : List V} {i : Int} (h : SqL K H p xs) (a : atI xs i = some v) (q : Q v H) : rIx K (.ref p) (.int i) H Q := .inl (w_ixL h a q)
theorem w_ixAT {p : Addr} {xs : List V} {i : Int} (h : SqT K H p xs) (a : atI xs i = some v) (q : Q v H) : rIx K (.ref p) (.int i) H Q := .inr (.inl (w_ixT h a q))
theorem fnok_no {P : Program} {w : World} {mg : Str → Option Value} {base : Heap} {CX : CXT} {k : Nat} {f : Addr} {fd : FuncData} {ps : List Str} {sp : Sp} (h : ∀ vs H Q E, ¬ sp vs H Q E) : FnOk P w K mg base CX k f fd ps sp :=
  ⟨fun vs H Q E q => (h vs H Q E q).elim, fun _ _ _ H _ _ vs Q E _ _ _ _ q => (h vs H Q E q).elim⟩
theorem menu_item {xs : List V} {i : Int} {P : V → Prop} (h0 : 0 ≤ i) (h1 : i < xs.length) (h : ∀ x ∈ xs, P x) : ∃ v, atI xs i = some v ∧ P v :=
  ⟨_, atI_lt h0 h1, by
    rw [List.getD_eq_getElem?_getD, List.getElem?_eq_getElem (by omega)]
    exact h _ (List.getElem_mem _)⟩
end
end RT

set_option Elab.async false
set_option linter.all false
set_option maxRecDepth 100000
set_option maxHeartbeats 4000000
set_option autoImplicit false
namespace RT
open PySem L2
structure Chg (F F' : List Addr) (H H' : Hp) : Prop where
  keep : ∀ a o, H a = some o → a ∉ F → H' a = some o
  grow : ∀ a, a ∈ F' → a ∈ F ∨ H a = none
theorem Chg.refl (F : List Addr) (H : Hp) : Chg F F H H := ⟨fun _ _ h _ => h, fun _ h => .inl h⟩
theorem Chg.of_ex {F : List Addr} {H H' : Hp} (e : Ex H H') : Chg F F H H' := ⟨fun a o h _ => e a o h, fun _ h => .inl h⟩
theorem Chg.trans {F F1 F2 : List Addr} {H H1 H2 : Hp} (a : Chg F F1 H H1) (b : Chg F1 F2 H1 H2) : Chg F F2 H H2 := by
  refine ⟨fun x o h n => b.keep x o (a.keep x o h n) fun m => ?_, fun x m => ?_⟩
  · rcases a.grow x m with q | q
    · exact n q
    · rw [h] at q; cases q
  · rcases b.grow x m with q | q
    · exact a.grow x q
    · by_cases n : x ∈ F
      · exact .inl n
      · refine .inr ?_
        cases e : H x with
        | none => rfl
        | some o => rw [a.keep x o e n] at q; cases q
theorem Chg.ex {F F' : List Addr} {S H H' : Hp} (c : Chg F F' H H') (e : Ex S H) (h : ∀ a ∈ F, S a = none) : Ex S H' := fun a o q =>
  c.keep a o (e a o q) fun m => by rw [h a m] at q; cases q
theorem Chg.free {F F' : List Addr} {S H H' : Hp} (c : Chg F F' H H') (e : Ex S H) (h : ∀ a ∈ F, S a = none) : ∀ a ∈ F', S a = none := fun a m => by
  rcases c.grow a m with q | q
  · exact h a q
  · exact Evl.fresh_back e q
def hide (M : List Addr) (H : Hp) : Hp := fun a => if a ∈ M then none else H a
section
variable {M M' F F' G : List Addr} {H H' : Hp} {a : Addr} {o : HO}
theorem hide_in (h : a ∈ M) : hide M H a = none := by unfold hide; rw [if_pos h]
theorem hide_out (h : a ∉ M) : hide M H a = H a := by unfold hide; rw [if_neg h]
theorem hide_at (h : H a = some o) (n : a ∉ M) : hide M H a = some o := by rw [hide_out n]; exact h
theorem hide_ex : Ex (hide M H) H := fun a o h => by
  by_cases q : a ∈ M
  · rw [hide_in q] at h; cases h
  · rwa [hide_out q] at h
theorem hide_chg (c : Chg M M' H H') : Ex (hide M H) (hide M' H') := fun a o h => by
  by_cases q : a ∈ M
  · rw [hide_in q] at h; cases h
  · rw [hide_out q] at h
    refine hide_at (c.keep a o h q) fun m => ?_
    rcases c.grow a m with z | z
    · exact q z
    · rw [h] at z; cases z
theorem Chg.frame (c : Chg F F' H H') (G : List Addr) : Chg (F ++ G) (F' ++ G) H H' :=
  ⟨fun a o h n => c.keep a o h fun m => n (List.mem_append_left _ m), fun a m => by
    rcases List.mem_append.mp m with m | m
    · rcases c.grow a m with z | z
      · exact .inl (List.mem_append_left _ z)
      · exact .inr z
    · exact .inl (List.mem_append_right _ m)⟩
theorem Chg.framel (c : Chg F F' H H') (G : List Addr) : Chg (G ++ F) (G ++ F') H H' :=
  ⟨fun a o h n => c.keep a o h fun m => n (List.mem_append_right _ m), fun a m => by
    rcases List.mem_append.mp m with m | m
    · exact .inl (List.mem_append_left _ m)
    · rcases c.grow a m with z | z
      · exact .inl (List.mem_append_right _ z)
      · exact .inr z⟩
theorem Chg.wr (h : a ∈ F) : Chg F F H (upd H a o) := ⟨fun b u e n => by rw [upd_ne (by rintro rfl; exact n h)]; exact e, fun _ m => .inl m⟩
theorem Chg.new (e : Ex H H') (h : H a = none) : Chg F (a :: F) H H' := ⟨fun b u q _ => e b u q, fun b m => by
  rcases List.mem_cons.mp m with rfl | m
  · exact .inr h
  · exact .inl m⟩
theorem made {C x dx : Addr} (hx : H x = none) (hdx : H dx = none) (c : Chg [x] F' (upd (upd H dx (.own x)) x (.ins C dx [])) H') : Chg [] F' H H' := by
  refine ⟨fun a o h _ => c.keep a o ?_ ?_, fun a m => .inr ?_⟩
  · rw [upd_ne (ne_of_none h hx), upd_ne (ne_of_none h hdx)]; exact h
  · intro q
    rw [List.mem_singleton.mp q, hx] at h
    cases h
  · rcases c.grow a m with q | q
    · rw [List.mem_singleton.mp q]; exact hx
    · by_cases e : a = x
      · rw [e]; exact hx
      · rw [upd_ne e] at q
        by_cases e2 : a = dx
        · rw [e2]; exact hdx
        · rw [upd_ne e2] at q; exact q
end
end RT

set_option Elab.async false
set_option linter.all false
set_option maxRecDepth 100000
set_option maxHeartbeats 1000000
set_option autoImplicit false
namespace RT
open PySem L2
local macro_rules | `(tactic| walk_at "putf") => `(tactic| first | exact putF_nil | exact putF_hit | exact putF_miss (by decide) (by walk_at "putf"))
local macro_rules | `(tactic| walk_at "ne") => `(tactic| first | assumption | exact Ne.symm (by assumption) | ((refine' ne2 ?h1 ?h2); (case h1 => assumption); (case h2 => walk_at "hk")) | ((refine' ne2s ?h1 ?h2); (case h1 => assumption); (case h2 => walk_at "hk")) | exact ne_head (by assumption) | exact ne_of (by assumption) (by assumption) (by intro z; cases z))
local macro_rules | `(tactic| walk_at "hk") => `(tactic| first | assumption | with_reducible exact upd_same | ((with_reducible refine' up_ne ?h1 ?h2); (case h1 => walk_at "ne"); (case h2 => walk_at "hk")) | ((with_reducible refine' ex_at ?h1 ?h2); (case h1 => assumption); (case h2 => walk_at "hk")))
local macro_rules | `(tactic| walk_at "kit") => `(tactic| first | exact kit_int_int | exact kit_int_bool | exact kit_int_str | exact kit_int_list | exact kit_int_tuple | exact kit_int_dict | exact kit_bool_int | exact kit_bool_bool | exact kit_bool_str | exact kit_bool_list | exact kit_bool_tuple | exact kit_bool_dict | exact kit_str_int | exact kit_str_bool | exact kit_str_str | exact kit_str_list | exact kit_str_tuple | exact kit_str_dict | exact kit_NoneType_int | exact kit_NoneType_bool | exact kit_NoneType_str | exact kit_NoneType_list | exact kit_NoneType_tuple | exact kit_NoneType_dict | exact kit_list_int | exact kit_list_bool | exact kit_list_str | exact kit_list_list | exact kit_list_tuple | exact kit_list_dict | exact kit_tuple_int | exact kit_tuple_bool | exact kit_tuple_str | exact kit_tuple_list | exact kit_tuple_tuple | exact kit_tuple_dict | exact kit_dict_int | exact kit_dict_bool | exact kit_dict_str | exact kit_dict_list | exact kit_dict_tuple | exact kit_dict_dict)
local macro_rules | `(tactic| walk_at "sq") => `(tactic| first | assumption | ((with_reducible refine' SqL.of ?h); (case h => walk_at "hk")) | ((with_reducible refine' ex_sq ?h1 ?h2); (case h1 => assumption); (case h2 => walk_at "sq")))
local macro_rules | `(tactic| walk_at "st") => `(tactic| first | assumption | ((with_reducible refine' SqT.of ?h); (case h => walk_at "hk")) | ((with_reducible refine' ex_st ?h1 ?h2); (case h1 => assumption); (case h2 => walk_at "st")))
local macro_rules | `(tactic| walk_at "new") => `(tactic| (intro p hp; generalize hU : upd _ p _ = H'; have e1 := new_ex hp hU; have e2 := new_at hU; clear hU))
local macro_rules | `(tactic| walk_at "set") => `(tactic| ((try simp only [List.set_cons_succ, List.set_cons_zero]); rfl))
local macro_rules | `(tactic| walk_at "small") => `(tactic| first | assumption | (rw [sizeLine_eq]; (try simp only [List.length_cons, List.length_nil, str_len_app, sign_len]); omega) | (with_unfolding_all decide))
local macro_rules | `(tactic| walk_at "sc") => `(tactic| first | assumption | decide | omega | (unfold CMul; omega) | (unfold CDiv; omega) | (unfold CPow; decide) | (unfold CDiv; decide))
local macro_rules | `(tactic| walk_at "step") => `(tactic| first
  | with_reducible refine' w_seq ?_
  | with_reducible refine' w_op ?_
  | ((with_reducible refine' w_var ?h ?_); (case h => rfl))
  | with_reducible refine' w_c ?_
  | with_reducible refine' w_i0 ?_
  | with_reducible refine' w_cons ?_
  | with_reducible refine' w_nil ?_
  | with_reducible refine' w_asg ?_
  | ((with_reducible refine' w_gn ?e ?_); (case e => walk_at "set"))
  | with_reducible refine' w_ifS ?_
  | with_reducible refine' w_test ?_
  | with_reducible refine' w_tB ?_
  | with_reducible refine' w_bl ?_
  | with_reducible refine' w_int ?_
  | with_reducible refine' w_ref ?_
  | with_reducible refine' w_str ?_
  | with_reducible refine' w_eqI ?_
  | with_reducible refine' w_neI ?_
  | with_reducible refine' w_eqS ?_
  | with_reducible refine' w_neS ?_
  | with_reducible refine' w_ret ?_
  | with_reducible refine' w_for ?_
  | with_reducible refine' w_tFld ?_
  | ((with_reducible refine' w_fld ?h ?c ?n ?l ?_); (case h => walk_at "hk"); (case c => assumption); (case n => assumption); (case l => rfl))
  | with_reducible refine' w_sFld ?_
  | ((with_reducible refine' w_rsFld ?h ?c ?n ?l ?e ?_); (case h => walk_at "hk"); (case c => assumption); (case n => assumption); (case e => walk_at "putf"); (case l => (simp only [List.length_cons, List.length_nil]; omega)))
  | with_reducible refine' w_tDGet ?_
  | with_reducible refine' w_tDIn ?_
  | with_reducible refine' w_tDNotIn ?_
  | ((with_reducible refine' w_dinI ?h ?_); (case h => walk_at "hk"))
  | with_reducible refine' w_sDPut ?_
  | with_reducible refine' w_bm ?_
  | with_reducible refine' w_bm0 ?_
  | ((with_reducible refine' w_tyL ?h ?_); (case h => walk_at "sq"))
  | with_reducible refine' w_iRev ?_
  | ((with_reducible refine' w_rev1 ?h ?_); (case h => walk_at "sq"))
  | with_reducible refine' w_iItems ?_
  | with_reducible refine' w_iKeys ?_
  | with_reducible refine' w_iRng3 ?_
  | with_reducible refine' w_iZip ?_
  | with_reducible refine' w_gCons ?_
  | with_reducible refine' w_gNil ?_
  | ((with_reducible refine' w_gTup ?h ?l ?_); (case h => walk_at "st"); (case l => rfl))
  | with_reducible refine' w_m1 ?_
  | with_reducible refine' w_isS ?_
  | with_reducible refine' w_lc ?_
  | with_reducible refine' w_iList ?_
  | with_reducible refine' w_iTup ?_
  | with_reducible refine' w_iStr ?_
  | with_reducible refine' w_iRng1 ?_
  | with_reducible refine' w_iRng2 ?_
  | with_reducible refine' w_v1I ?_
  | with_reducible refine' w_v2I ?_
  | with_reducible refine' w_next ?_
  | with_reducible refine' w_call ?_
  | with_reducible refine' w_cb ?_
  | with_reducible refine' w_and ?_
  | with_reducible refine' w_or ?_
  | with_reducible refine' w_not ?_
  | with_reducible refine' w_andV ?_
  | with_reducible refine' w_orV ?_
  | with_reducible refine' w_notV ?_
  | with_reducible refine' w_ifE ?_
  | with_reducible refine' w_drop ?_
  | with_reducible refine' w_un ?_
  | with_reducible refine' w_u ?_
  | with_reducible refine' w_isNN ?_
  | with_reducible refine' w_isNI ?_
  | with_reducible refine' w_isNS ?_
  | with_reducible refine' w_isNR ?_
  | with_reducible refine' w_notNN ?_
  | with_reducible refine' w_notNI ?_
  | with_reducible refine' w_notNS ?_
  | with_reducible refine' w_notNR ?_
  | with_reducible refine' w_int1 ?_
  | with_reducible refine' w_int1b ?_
  | with_reducible refine' w_tup ?_
  | with_reducible refine' w_lst ?_
  | with_reducible refine' w_dnew ?_
  | with_reducible refine' w_sl ?_
  | with_reducible refine' w_noPart ?_
  | with_reducible refine' w_part ?_
  | with_reducible refine' w_retN ?_
  | with_reducible refine' w_brk ?_
  | with_reducible refine' w_cont ?_
  | with_reducible refine' w_chain ?_
  | with_reducible refine' w_lt ?_
  | with_reducible refine' w_le ?_
  | with_reducible refine' w_gt ?_
  | with_reducible refine' w_ge ?_
  | with_reducible refine' w_ltS ?_
  | with_reducible refine' w_leS ?_
  | with_reducible refine' w_gtS ?_
  | with_reducible refine' w_geS ?_
  | ((with_reducible refine' w_addS ?h ?_); (case h => walk_at "small"))
  | with_reducible refine' w_inS ?_
  | with_reducible refine' w_ninS ?_
  | with_reducible refine' w_par ?_
  | with_reducible refine' w_v2 ?_
  | with_reducible refine' w_max2 ?_
  | with_reducible refine' w_min2 ?_
  | with_reducible refine' w_tru ?_
  | with_reducible refine' w_meth ?_
  | ((with_reducible refine' w_meth1 ?h ?l ?_); (case h => walk_at "hk"); (case l => rfl))
  | with_reducible refine' w_make ?_
  | ((with_reducible refine' w_isiI ?h ?_); (case h => walk_at "kit"))
  | ((with_reducible refine' w_isiB ?h ?_); (case h => walk_at "kit"))
  | ((with_reducible refine' w_isiN ?h ?_); (case h => walk_at "kit"))
  | ((with_reducible refine' w_isiS ?h ?_); (case h => walk_at "kit"))
  | ((with_reducible refine' w_isiSL ?h ?e ?_); (case h => walk_at "sq"); (case e => walk_at "kit"))
  | ((with_reducible refine' w_isiST ?h ?e ?_); (case h => walk_at "st"); (case e => walk_at "kit"))
  | ((with_reducible refine' w_i ?h ?_); (case h => walk_at "sc"))
  | with_reducible refine' w_ttL ?_
  | with_reducible refine' w_ffL ?_
  | ((with_reducible refine' w_tt ?h ?_); (case h => first | exact dB_t (by decide) | exact nB_t (by decide) | decide))
  | ((with_reducible refine' w_ff ?h ?_); (case h => first | exact dB_f (by decide) | exact nB_f (by decide) | decide))
  | ((with_reducible refine' w_lenS ?h ?_); (case h => walk_at "sq"))
  | ((with_reducible refine' w_lenT ?h ?_); (case h => walk_at "st"))
  | ((with_reducible refine' w_slL ?h ?_); (case h => walk_at "sq"))
  | ((with_reducible refine' w_aug ?h ?_); (case h => rfl))
  | with_reducible refine' w_ip ?_
  | ((with_reducible refine' w_cat ?h1 ?h2 ?h3 ?_); (case h1 => walk_at "hk"); (case h2 => walk_at "hk"); (case h3 => walk_at "small"))
  | ((with_reducible refine' w_ixL ?h1 ?h2 ?_); (case h1 => walk_at "sq"); (case h2 => rfl))
  | ((with_reducible refine' w_ixT ?h1 ?h2 ?_); (case h1 => walk_at "st"); (case h2 => rfl))
  | ((with_reducible refine' w_lenStr ?h ?_); (case h => walk_at "small"))
  | ((with_reducible refine' w_slS ?h ?_); (case h => walk_at "small"))
  | ((with_reducible refine' w_sz ?h ?_); (case h => walk_at "small")))
local macro_rules | `(tactic| walk_at "go") => `(tactic| (repeat (first | walk_at "step" | walk_at "callx")))
local macro_rules | `(tactic| walk_at "goN") => `(tactic| (repeat (first | walk_at "step" | walk_at "callx" | ((with_reducible show ∀ p, _ = none → _); walk_at "new"))))
local macro_rules | `(tactic| walk_at "len") => `(tactic| first
  | (obtain ⟨rfl, _⟩ := h; rfl) | (obtain ⟨_, rfl, _⟩ := h; rfl) | (obtain ⟨_, _, rfl, _⟩ := h; rfl) | (obtain ⟨_, _, _, rfl, _⟩ := h; rfl) | (obtain ⟨_, _, _, _, rfl, _⟩ := h; rfl)
  | (obtain ⟨_, _, _, _, _, rfl, _⟩ := h; rfl) | (obtain ⟨_, _, _, _, _, _, rfl, _⟩ := h; rfl) | (obtain ⟨_, _, _, _, _, _, _, rfl, _⟩ := h; rfl) | (obtain ⟨_, _, _, _, _, _, _, _, rfl, _⟩ := h; rfl)
  | (obtain ⟨_, _, _, _, _, _, _, _, _, rfl, _⟩ := h; rfl) | (obtain ⟨_, _, _, _, _, _, _, _, _, _, rfl, _⟩ := h; rfl))
local macro_rules | `(tactic| walk_at "dec") => `(tactic| (first | with_reducible apply w_dec | with_reducible apply w_ndec | with_reducible apply w_bool) <;> intro hc)
def tMakeO (C : Addr) : TE := fun _ H Q => ∀ x dx, H x = none → H dx = none → dx ≠ x → Q (.ref x) (upd (upd H dx (.own x)) x (.ins C dx []))
structure MkO (K : PySem.W.Frag) (C : Addr) : Prop where
  makes : PySem.W.makesIn K C = true
  init : PySem.W.findIn K (.ref C) "__init__" = some (some (.builtin "object.__init__"))
  kp : PySem.W.keepIn K (.ref C) = true
section
open PySem.W PyProof.Rows PySem.Spec
variable {X : Cx} {C : Addr} {x : Str} {p pos : Pos}
theorem pe_makeO (M : MkO X.K C) (hg : Gl X x) (hm : X.mg x = some (.ref C)) (hdb : (x == ("__debug__" : Str)) = false := by decide) : PE X (.Call (.Name x p) [] [] pos) (tMakeO C) := by
  refine ⟨fun pins s σ H Q I h => ?_⟩
  refine wpAny_Call_Name_kw (ld_glob I hg hm ?_ hdb)
  refine PySem.W.callWith_K0 I.kIn M.kp ?_
  have I2 := Inv.made (C := C) I
  have z : EP X pins σ Q (.ref (s.heap.objs.size + 1)) { s with heap := (s.heap.push PySem.W.emptyDict).push (PySem.W.instObj C s.heap.objs.size) } :=
    ⟨V.ref (s.heap.objs.size + 1), _, I2, rfl, h _ _ (I.hok.fresh (Nat.le_succ _)) (I.hok.fresh (Nat.le_refl _)) (Nat.ne_of_lt (Nat.lt_succ_self _))⟩
  have X0 := I.kIn
  have e2 : ((s.heap.push PySem.W.emptyDict).push (PySem.W.instObj C s.heap.objs.size)).get? (s.heap.objs.size + 1) = some (PySem.W.instObj C s.heap.objs.size) := by
    have := Heap.get?_push_size (s.heap.push PySem.W.emptyDict) (o := PySem.W.instObj C s.heap.objs.size) rfl
    rwa [Heap.size_push] at this
  have Y := makes_of (M := model X.prog X.w) X0 M.makes
  have t1 : Looks (model X.prog X.w) ((s.heap.push emptyDict).push (instObj C s.heap.objs.size)) (typeOf (.ref (s.heap.objs.size + 1))) (.ref C) := (Looks.ld e2).andThen .now
  have t2 : Looks (model X.prog X.w) ((s.heap.push emptyDict).push (instObj C s.heap.objs.size)) (isInstance (.ref (s.heap.objs.size + 1)) (.type "object")) true := t1.andThen (Y.top.keeps fun b o e => Heap.get?_push_of_some _ (Heap.get?_push_of_some _ e))
  refine wpAny_call (make_map0 X0 M.makes M.init (fun self => Looks.of_pure (oi_bind self)) ?_)
  refine codeAny_call_builtin oi_plain entry_oi (@check_slot (model X.prog X.w) _ _ _ "object.__init__" "object" "__init__" (.ref (s.heap.objs.size + 1)) [] [] _ oi_kind oi_split t2 (oi_args (.ref (s.heap.objs.size + 1))) ?_)
  rw [oi_run]
  exact wpAny_pure (And.intro rfl z)
end
inductive Kd | let_ | rk | take | put | iff | eith | tryy | throw | wait
deriving DecidableEq
def cOf (d : Ad) : Kd → Addr
  | .let_ => d.cLet | .rk => d.cReckon | .take => d.cTake | .put => d.cPut | .iff => d.cIf | .eith => d.cEither | .tryy => d.cTry | .throw => d.cThrow | .wait => d.cWait
def atK : Kd → List Str
  | .let_ => ["slot", "number"] | .rk => ["word", "slot", "one", "other"] | .take => ["slot", "place"] | .put => ["place", "slot"] | .iff => ["slot", "parts", "others"] | .eith => ["parts", "others"] | .tryy => ["parts", "name", "slot", "others"] | .throw => ["name", "slot"] | .wait => []
structure TParts (d : Ad) : Prop where
  cl : ∀ k, Cls d.K (cOf d k)
  cc : ∀ k, PySem.W.findIn d.K (.ref (cOf d k)) "__class__" = some (some (.builtin "object.__class__"))
  mo : ∀ k, PySem.W.mroIn d.K (cOf d k) (.type "object") = some true
  gs : PySem.W.specialIn d.K (.builtin "object.__class__") "__get__" = some (some (.builtin "getset_descriptor.__get__"))
  tk : PySem.W.takesIn d.K (.builtin "object.__class__") = some true
  kit : ∀ k j, PySem.W.kitOne d.K (.ref (cOf d k)) (.ref (cOf d j)) = some (decide (k = j))
  na : ∀ k n, n ∈ atK k → NoAttr d.K (cOf d k) n
section
variable {d : Ad} {H : Hp} {Q : VK} {a dx : Addr} {fs : List (Str × V)}
theorem ty_part (T : TParts d) {k : Kd} (h : H a = some (.ins (cOf d k) dx fs)) : TyX d.K H (.ref a) (.ref (cOf d k)) := .base (.ins h (T.cl k) (T.cc k) T.gs T.tk (T.mo k))
theorem w_isiO (T : TParts d) {k j : Kd} {b : Bool} (h : H a = some (.ins (cOf d k) dx fs)) (e : decide (k = j) = b) (q : Q (.bl b) H) : rIsi d.K [.ref a, .ref (cOf d j)] H Q :=
  w_isi (.own _) (ty_part T h) (by rw [T.kit, e]) q
theorem made_ex {H' : Hp} {x : Addr} {o u : HO} (hx : H x = none) (hdx : H dx = none) (e : Ex (del (upd (upd H dx u) x o) x) H') : Ex H H' := fun b v hb => by
  refine e b v ?_
  rw [del_ne (ne_of_none hb hx), upd_ne (ne_of_none hb hx), upd_ne (ne_of_none hb hdx)]
  exact hb
end
inductive Pt
  | let_ (s : Str) (n : Int) | rk (w s o t : Str) | take (s p : Str) | put (p s : Str) | iff (s : Str) (ps os : List Pt) | eith (ps os : List Pt) | tryy (ps : List Pt) (n s : Str) (os : List Pt) | throw (n s : Str) | wait
mutual
inductive PtAt (d : Ad) (S : Hp) : Addr → Pt → Prop
  | let_ {a dx s n} (h : S a = some (.ins d.cLet dx [("slot", .str s), ("number", .int n)])) : PtAt d S a (.let_ s n)
  | rk {a dx w s o t} (h : S a = some (.ins d.cReckon dx [("word", .str w), ("slot", .str s), ("one", .str o), ("other", .str t)])) : PtAt d S a (.rk w s o t)
  | take {a dx s p} (h : S a = some (.ins d.cTake dx [("slot", .str s), ("place", .str p)])) : PtAt d S a (.take s p)
  | put {a dx p s} (h : S a = some (.ins d.cPut dx [("place", .str p), ("slot", .str s)])) : PtAt d S a (.put p s)
  | iff {a dx s l m as bs ps os} (h : S a = some (.ins d.cIf dx [("slot", .str s), ("parts", .ref l), ("others", .ref m)])) (hl : S l = some (.lst (as.map V.ref))) (hm : S m = some (.lst (bs.map V.ref))) (h1 : PtsAt d S as ps) (h2 : PtsAt d S bs os) : PtAt d S a (.iff s ps os)
  | eith {a dx l m as bs ps os} (h : S a = some (.ins d.cEither dx [("parts", .ref l), ("others", .ref m)])) (hl : S l = some (.lst (as.map V.ref))) (hm : S m = some (.lst (bs.map V.ref))) (h1 : PtsAt d S as ps) (h2 : PtsAt d S bs os) : PtAt d S a (.eith ps os)
  | tryy {a dx n s l m as bs ps os} (h : S a = some (.ins d.cTry dx [("parts", .ref l), ("name", .str n), ("slot", .str s), ("others", .ref m)])) (hl : S l = some (.lst (as.map V.ref))) (hm : S m = some (.lst (bs.map V.ref))) (h1 : PtsAt d S as ps) (h2 : PtsAt d S bs os) : PtAt d S a (.tryy ps n s os)
  | throw {a dx n s} (h : S a = some (.ins d.cThrow dx [("name", .str n), ("slot", .str s)])) : PtAt d S a (.throw n s)
  | wait {a dx} (h : S a = some (.ins d.cWait dx [])) : PtAt d S a .wait
inductive PtsAt (d : Ad) (S : Hp) : List Addr → List Pt → Prop
  | nil : PtsAt d S [] []
  | cons {a as p ps} (h : PtAt d S a p) (t : PtsAt d S as ps) : PtsAt d S (a :: as) (p :: ps)
end
mutual
theorem PtAt.mono {d : Ad} {S S' : Hp} (e : Ex S S') : ∀ {a : Addr} {p : Pt}, PtAt d S a p → PtAt d S' a p
  | _, _, .let_ h => .let_ (e _ _ h)
  | _, _, .rk h => .rk (e _ _ h)
  | _, _, .take h => .take (e _ _ h)
  | _, _, .put h => .put (e _ _ h)
  | _, _, .iff h hl hm h1 h2 => .iff (e _ _ h) (e _ _ hl) (e _ _ hm) (PtsAt.mono e h1) (PtsAt.mono e h2)
  | _, _, .eith h hl hm h1 h2 => .eith (e _ _ h) (e _ _ hl) (e _ _ hm) (PtsAt.mono e h1) (PtsAt.mono e h2)
  | _, _, .tryy h hl hm h1 h2 => .tryy (e _ _ h) (e _ _ hl) (e _ _ hm) (PtsAt.mono e h1) (PtsAt.mono e h2)
  | _, _, .throw h => .throw (e _ _ h)
  | _, _, .wait h => .wait (e _ _ h)
theorem PtsAt.mono {d : Ad} {S S' : Hp} (e : Ex S S') : ∀ {as : List Addr} {ps : List Pt}, PtsAt d S as ps → PtsAt d S' as ps
  | _, _, .nil => .nil
  | _, _, .cons h t => .cons (PtAt.mono e h) (PtsAt.mono e t)
end
def sp_Let_init (d : Ad) : Sp := fun vs H Q _ => ∃ (p dx : Addr) (s : Str) (n : Int), vs = [.ref p, .str s, .int n] ∧ H p = some (.ins d.cLet dx []) ∧ ∀ H', Ex (del H p) H' → H' p = some (.ins d.cLet dx [("slot", .str s), ("number", .int n)]) → Q .non H'
def sp_Reckon_init (d : Ad) : Sp := fun vs H Q _ => ∃ (p dx : Addr) (w s o t : Str), vs = [.ref p, .str w, .str s, .str o, .str t] ∧ H p = some (.ins d.cReckon dx []) ∧ ∀ H', Ex (del H p) H' → H' p = some (.ins d.cReckon dx [("word", .str w), ("slot", .str s), ("one", .str o), ("other", .str t)]) → Q .non H'
def sp_Take_init (d : Ad) : Sp := fun vs H Q _ => ∃ (p dx : Addr) (s t : Str), vs = [.ref p, .str s, .str t] ∧ H p = some (.ins d.cTake dx []) ∧ ∀ H', Ex (del H p) H' → H' p = some (.ins d.cTake dx [("slot", .str s), ("place", .str t)]) → Q .non H'
def sp_Put_init (d : Ad) : Sp := fun vs H Q _ => ∃ (p dx : Addr) (s t : Str), vs = [.ref p, .str s, .str t] ∧ H p = some (.ins d.cPut dx []) ∧ ∀ H', Ex (del H p) H' → H' p = some (.ins d.cPut dx [("place", .str s), ("slot", .str t)]) → Q .non H'
def sp_Throw_init (d : Ad) : Sp := fun vs H Q _ => ∃ (p dx : Addr) (s t : Str), vs = [.ref p, .str s, .str t] ∧ H p = some (.ins d.cThrow dx []) ∧ ∀ H', Ex (del H p) H' → H' p = some (.ins d.cThrow dx [("name", .str s), ("slot", .str t)]) → Q .non H'
def sp_If_init (d : Ad) : Sp := fun vs H Q _ => ∃ (p dx : Addr) (s : Str) (l m : Addr) (xs ys : List V), vs = [.ref p, .str s, .ref l, .ref m] ∧ H p = some (.ins d.cIf dx []) ∧ SqL d.K (del H p) l xs ∧ SqL d.K (del H p) m ys ∧
  ∀ l' m' H', H l' = none → H m' = none → Ex (del H p) H' → H' p = some (.ins d.cIf dx [("slot", .str s), ("parts", .ref l'), ("others", .ref m')]) → H' l' = some (.lst xs) → H' m' = some (.lst ys) → Q .non H'
def sp_Either_init (d : Ad) : Sp := fun vs H Q _ => ∃ (p dx l m : Addr) (xs ys : List V), vs = [.ref p, .ref l, .ref m] ∧ H p = some (.ins d.cEither dx []) ∧ SqL d.K (del H p) l xs ∧ SqL d.K (del H p) m ys ∧
  ∀ l' m' H', H l' = none → H m' = none → Ex (del H p) H' → H' p = some (.ins d.cEither dx [("parts", .ref l'), ("others", .ref m')]) → H' l' = some (.lst xs) → H' m' = some (.lst ys) → Q .non H'
def sp_Try_init (d : Ad) : Sp := fun vs H Q _ => ∃ (p dx : Addr) (n s : Str) (l m : Addr) (xs ys : List V), vs = [.ref p, .ref l, .str n, .str s, .ref m] ∧ H p = some (.ins d.cTry dx []) ∧ SqL d.K (del H p) l xs ∧ SqL d.K (del H p) m ys ∧
  ∀ l' m' H', H l' = none → H m' = none → Ex (del H p) H' → H' p = some (.ins d.cTry dx [("parts", .ref l'), ("name", .str n), ("slot", .str s), ("others", .ref m')]) → H' l' = some (.lst xs) → H' m' = some (.lst ys) → Q .non H'
abbrev N_Let_init : List Str := ["self", "slot", "number"]
def t_Let_init (d : Ad) : TS :=
  (tSeq (sFld d.K (tVar 0) (tVar 1) "slot")
  (sFld d.K (tVar 0) (tVar 2) "number"))
abbrev N_Reckon_init : List Str := ["self", "word", "slot", "one", "other"]
def t_Reckon_init (d : Ad) : TS :=
  (tSeq (sFld d.K (tVar 0) (tVar 1) "word")
  (tSeq (sFld d.K (tVar 0) (tVar 2) "slot")
  (tSeq (sFld d.K (tVar 0) (tVar 3) "one")
  (sFld d.K (tVar 0) (tVar 4) "other"))))
abbrev N_Take_init : List Str := ["self", "slot", "place"]
def t_Take_init (d : Ad) : TS :=
  (tSeq (sFld d.K (tVar 0) (tVar 1) "slot")
  (sFld d.K (tVar 0) (tVar 2) "place"))
abbrev N_Put_init : List Str := ["self", "place", "slot"]
def t_Put_init (d : Ad) : TS :=
  (tSeq (sFld d.K (tVar 0) (tVar 1) "place")
  (sFld d.K (tVar 0) (tVar 2) "slot"))
abbrev N_If_init : List Str := ["self", "slot", "parts", "others"]
def t_If_init (d : Ad) : TS :=
  (tSeq (sFld d.K (tVar 0) (tVar 1) "slot")
  (tSeq (sFld d.K (tVar 0) (tCB (rListOf d.K) (tCons (tVar 2) tNil)) "parts")
  (sFld d.K (tVar 0) (tCB (rListOf d.K) (tCons (tVar 3) tNil)) "others")))
abbrev N_Either_init : List Str := ["self", "parts", "others"]
def t_Either_init (d : Ad) : TS :=
  (tSeq (sFld d.K (tVar 0) (tCB (rListOf d.K) (tCons (tVar 1) tNil)) "parts")
  (sFld d.K (tVar 0) (tCB (rListOf d.K) (tCons (tVar 2) tNil)) "others"))
abbrev N_Try_init : List Str := ["self", "parts", "name", "slot", "others"]
def t_Try_init (d : Ad) : TS :=
  (tSeq (sFld d.K (tVar 0) (tCB (rListOf d.K) (tCons (tVar 1) tNil)) "parts")
  (tSeq (sFld d.K (tVar 0) (tVar 2) "name")
  (tSeq (sFld d.K (tVar 0) (tVar 3) "slot")
  (sFld d.K (tVar 0) (tCB (rListOf d.K) (tCons (tVar 4) tNil)) "others"))))
abbrev N_Throw_init : List Str := ["self", "name", "slot"]
def t_Throw_init (d : Ad) : TS :=
  (tSeq (sFld d.K (tVar 0) (tVar 1) "name")
  (sFld d.K (tVar 0) (tVar 2) "slot"))
local macro_rules | `(tactic| walk_at "callx") => `(tactic| fail)
section
variable {d : Ad} {vs : List V} {H : Hp} {Q : VK} {E : XK}
theorem del_w {p : Addr} {o : HO} {H' : Hp} (e : Ex (del H p) H') : Ex (del H p) (upd H' p o) := fun a u h => by
  have n : a ≠ p := fun q => by rw [q, del_same] at h; cases h
  rw [upd_ne n]; exact e a u h
theorem pure_Let_init (T : TParts d) (h : sp_Let_init d vs H Q E) : t_Let_init d { nx := fun _ H' => Q .non H', rt := Q } (start N_Let_init vs) H := by
  obtain ⟨p, dx, s, n, rfl, hp, k⟩ := h
  have c : Cls d.K d.cLet := T.cl .let_
  have n1 : NoAttr d.K d.cLet "slot" := T.na .let_ _ (by simp [atK])
  have n2 : NoAttr d.K d.cLet "number" := T.na .let_ _ (by simp [atK])
  show t_Let_init d _ [some (.ref p), some (.str s), some (.int n)] H
  unfold t_Let_init
  walk_at "goN"
  exact k _ (del_w (del_w del_ex)) upd_same
theorem pure_Reckon_init (T : TParts d) (h : sp_Reckon_init d vs H Q E) : t_Reckon_init d { nx := fun _ H' => Q .non H', rt := Q } (start N_Reckon_init vs) H := by
  obtain ⟨p, dx, w, s, o, t, rfl, hp, k⟩ := h
  have c : Cls d.K d.cReckon := T.cl .rk
  have n1 : NoAttr d.K d.cReckon "word" := T.na .rk _ (by simp [atK])
  have n2 : NoAttr d.K d.cReckon "slot" := T.na .rk _ (by simp [atK])
  have n3 : NoAttr d.K d.cReckon "one" := T.na .rk _ (by simp [atK])
  have n4 : NoAttr d.K d.cReckon "other" := T.na .rk _ (by simp [atK])
  show t_Reckon_init d _ [some (.ref p), some (.str w), some (.str s), some (.str o), some (.str t)] H
  unfold t_Reckon_init
  walk_at "goN"
  exact k _ (del_w (del_w (del_w (del_w del_ex)))) upd_same
theorem pure_Take_init (T : TParts d) (h : sp_Take_init d vs H Q E) : t_Take_init d { nx := fun _ H' => Q .non H', rt := Q } (start N_Take_init vs) H := by
  obtain ⟨p, dx, s, n, rfl, hp, k⟩ := h
  have c : Cls d.K d.cTake := T.cl .take
  have n1 : NoAttr d.K d.cTake "slot" := T.na .take _ (by simp [atK])
  have n2 : NoAttr d.K d.cTake "place" := T.na .take _ (by simp [atK])
  show t_Take_init d _ [some (.ref p), some (.str s), some (.str n)] H
  unfold t_Take_init
  walk_at "goN"
  exact k _ (del_w (del_w del_ex)) upd_same
theorem pure_Put_init (T : TParts d) (h : sp_Put_init d vs H Q E) : t_Put_init d { nx := fun _ H' => Q .non H', rt := Q } (start N_Put_init vs) H := by
  obtain ⟨p, dx, s, n, rfl, hp, k⟩ := h
  have c : Cls d.K d.cPut := T.cl .put
  have n1 : NoAttr d.K d.cPut "slot" := T.na .put _ (by simp [atK])
  have n2 : NoAttr d.K d.cPut "place" := T.na .put _ (by simp [atK])
  show t_Put_init d _ [some (.ref p), some (.str s), some (.str n)] H
  unfold t_Put_init
  walk_at "goN"
  exact k _ (del_w (del_w del_ex)) upd_same
theorem pure_Throw_init (T : TParts d) (h : sp_Throw_init d vs H Q E) : t_Throw_init d { nx := fun _ H' => Q .non H', rt := Q } (start N_Throw_init vs) H := by
  obtain ⟨p, dx, s, n, rfl, hp, k⟩ := h
  have c : Cls d.K d.cThrow := T.cl .throw
  have n1 : NoAttr d.K d.cThrow "slot" := T.na .throw _ (by simp [atK])
  have n2 : NoAttr d.K d.cThrow "name" := T.na .throw _ (by simp [atK])
  show t_Throw_init d _ [some (.ref p), some (.str s), some (.str n)] H
  unfold t_Throw_init
  walk_at "goN"
  exact k _ (del_w (del_w del_ex)) upd_same
theorem upd_none {p l : Addr} {o : HO} (h : upd H p o l = none) : H l = none ∧ l ≠ p := by
  by_cases e : l = p
  · rw [e, upd_same] at h; cases h
  · rw [upd_ne e] at h; exact ⟨h, e⟩
theorem pure_If_init (T : TParts d) (h : sp_If_init d vs H Q E) : t_If_init d { nx := fun _ H' => Q .non H', rt := Q } (start N_If_init vs) H := by
  obtain ⟨p, dx, s, l, m, xs, ys, rfl, hp, hl, hm, k⟩ := h
  have c : Cls d.K d.cIf := T.cl .iff
  have n1 : NoAttr d.K d.cIf "slot" := T.na .iff _ (by simp [atK])
  have n2 : NoAttr d.K d.cIf "parts" := T.na .iff _ (by simp [atK])
  have n3 : NoAttr d.K d.cIf "others" := T.na .iff _ (by simp [atK])
  show t_If_init d _ [some (.ref p), some (.str s), some (.ref l), some (.ref m)] H
  unfold t_If_init
  walk_at "go"
  generalize hU : upd H p _ = H1
  have b1 : H1 p = some (.ins d.cIf dx [("slot", .str s)]) := by rw [← hU, upd_same]
  have e1 : Ex (del H p) H1 := by rw [← hU]; exact del_w del_ex
  have o1 : ∀ z, H1 z = none → H z = none := fun z h => by rw [← hU] at h; exact (upd_none h).1
  clear hU
  refine ⟨l, xs, rfl, .inl (ex_sq e1 hl), fun l' hl' => ?_⟩
  generalize hU : upd H1 l' _ = H2
  have e2 := new_ex hl' hU
  have f2 := new_at hU
  clear hU
  have ne1 : l' ≠ p := Ne.symm (ne_of_none b1 hl')
  have b2 := e2 _ _ b1
  walk_at "go"
  generalize hU : upd H2 p _ = H3
  have b3 : H3 p = some (.ins d.cIf dx [("slot", .str s), ("parts", .ref l')]) := by rw [← hU, upd_same]
  have e3 : Ex (del H p) H3 := by rw [← hU]; exact del_w (e1.trans e2)
  have f3 : H3 l' = some (.lst xs) := by rw [← hU, upd_ne ne1]; exact f2
  have o3 : ∀ z, H3 z = none → H z = none := fun z h => by
    rw [← hU] at h
    exact o1 z (ex_free e2 (upd_none h).1)
  clear hU
  refine ⟨m, ys, rfl, .inl (ex_sq e3 hm), fun m' hm' => ?_⟩
  generalize hU : upd H3 m' _ = H4
  have e4 := new_ex hm' hU
  have f4 := new_at hU
  clear hU
  have ne2 : m' ≠ p := Ne.symm (ne_of_none b3 hm')
  have b4 := e4 _ _ b3
  walk_at "go"
  exact k l' m' _ (o1 _ hl') (o3 _ hm') (del_w (e3.trans e4)) upd_same (by rw [upd_ne ne1]; exact e4 _ _ f3) (by rw [upd_ne ne2]; exact f4)
theorem pure_Either_init (T : TParts d) (h : sp_Either_init d vs H Q E) : t_Either_init d { nx := fun _ H' => Q .non H', rt := Q } (start N_Either_init vs) H := by
  obtain ⟨p, dx, l, m, xs, ys, rfl, hp, hl, hm, k⟩ := h
  have c : Cls d.K d.cEither := T.cl .eith
  have n2 : NoAttr d.K d.cEither "parts" := T.na .eith _ (by simp [atK])
  have n3 : NoAttr d.K d.cEither "others" := T.na .eith _ (by simp [atK])
  show t_Either_init d _ [some (.ref p), some (.ref l), some (.ref m)] H
  unfold t_Either_init
  walk_at "go"
  refine ⟨l, xs, rfl, .inl (ex_sq del_ex hl), fun l' hl' => ?_⟩
  generalize hU : upd H l' _ = H2
  have e2 := new_ex hl' hU
  have f2 := new_at hU
  clear hU
  have ne1 : l' ≠ p := Ne.symm (ne_of_none hp hl')
  have b2 := e2 _ _ hp
  walk_at "go"
  generalize hU : upd H2 p _ = H3
  have b3 : H3 p = some (.ins d.cEither dx [("parts", .ref l')]) := by rw [← hU, upd_same]
  have e3 : Ex (del H p) H3 := by rw [← hU]; exact del_w (del_ex.trans e2)
  have f3 : H3 l' = some (.lst xs) := by rw [← hU, upd_ne ne1]; exact f2
  have o3 : ∀ z, H3 z = none → H z = none := fun z h => by
    rw [← hU] at h
    exact ex_free e2 (upd_none h).1
  clear hU
  refine ⟨m, ys, rfl, .inl (ex_sq e3 hm), fun m' hm' => ?_⟩
  generalize hU : upd H3 m' _ = H4
  have e4 := new_ex hm' hU
  have f4 := new_at hU
  clear hU
  have ne2 : m' ≠ p := Ne.symm (ne_of_none b3 hm')
  have b4 := e4 _ _ b3
  walk_at "go"
  exact k l' m' _ hl' (o3 _ hm') (del_w (e3.trans e4)) upd_same (by rw [upd_ne ne1]; exact e4 _ _ f3) (by rw [upd_ne ne2]; exact f4)
theorem pure_Try_init (T : TParts d) (h : sp_Try_init d vs H Q E) : t_Try_init d { nx := fun _ H' => Q .non H', rt := Q } (start N_Try_init vs) H := by
  obtain ⟨p, dx, n, s, l, m, xs, ys, rfl, hp, hl, hm, k⟩ := h
  have c : Cls d.K d.cTry := T.cl .tryy
  have n1 : NoAttr d.K d.cTry "slot" := T.na .tryy _ (by simp [atK])
  have n2 : NoAttr d.K d.cTry "parts" := T.na .tryy _ (by simp [atK])
  have n3 : NoAttr d.K d.cTry "others" := T.na .tryy _ (by simp [atK])
  have n4 : NoAttr d.K d.cTry "name" := T.na .tryy _ (by simp [atK])
  show t_Try_init d _ [some (.ref p), some (.ref l), some (.str n), some (.str s), some (.ref m)] H
  unfold t_Try_init
  walk_at "go"
  refine ⟨l, xs, rfl, .inl (ex_sq del_ex hl), fun l' hl' => ?_⟩
  generalize hU : upd H l' _ = H2
  have e2 := new_ex hl' hU
  have f2 := new_at hU
  clear hU
  have ne1 : l' ≠ p := Ne.symm (ne_of_none hp hl')
  have b2 := e2 _ _ hp
  walk_at "go"
  generalize hU : upd (upd (upd H2 p _) p _) p _ = H3
  have b3 : H3 p = some (.ins d.cTry dx [("parts", .ref l'), ("name", .str n), ("slot", .str s)]) := by rw [← hU, upd_same]
  have e3 : Ex (del H p) H3 := by rw [← hU]; exact del_w (del_w (del_w (del_ex.trans e2)))
  have f3 : H3 l' = some (.lst xs) := by rw [← hU, upd_ne ne1, upd_ne ne1, upd_ne ne1]; exact f2
  have o3 : ∀ z, H3 z = none → H z = none := fun z h => by
    rw [← hU] at h
    exact ex_free e2 (upd_none (upd_none (upd_none h).1).1).1
  clear hU
  refine ⟨m, ys, rfl, .inl (ex_sq e3 hm), fun m' hm' => ?_⟩
  generalize hU : upd H3 m' _ = H4
  have e4 := new_ex hm' hU
  have f4 := new_at hU
  clear hU
  have ne2 : m' ≠ p := Ne.symm (ne_of_none b3 hm')
  have b4 := e4 _ _ b3
  walk_at "go"
  exact k l' m' _ hl' (o3 _ hm') (del_w (e3.trans e4)) upd_same (by rw [upd_ne ne1]; exact e4 _ _ f3) (by rw [upd_ne ne2]; exact f4)
end
end RT

set_option Elab.async false
set_option linter.all false
set_option maxRecDepth 100000
set_option maxHeartbeats 1000000
set_option autoImplicit false
namespace RT
open PySem L2
local macro_rules | `(tactic| walk_at "putf") => `(tactic| first | exact putF_nil | exact putF_hit | exact putF_miss (by decide) (by walk_at "putf"))
local macro_rules | `(tactic| walk_at "ne") => `(tactic| first | assumption | exact Ne.symm (by assumption) | ((refine' ne2 ?h1 ?h2); (case h1 => assumption); (case h2 => walk_at "hk")) | ((refine' ne2s ?h1 ?h2); (case h1 => assumption); (case h2 => walk_at "hk")) | exact ne_head (by assumption) | exact ne_of (by assumption) (by assumption) (by intro z; cases z))
local macro_rules | `(tactic| walk_at "hk") => `(tactic| first | assumption | with_reducible exact upd_same | ((with_reducible refine' up_ne ?h1 ?h2); (case h1 => walk_at "ne"); (case h2 => walk_at "hk")) | ((with_reducible refine' ex_at ?h1 ?h2); (case h1 => assumption); (case h2 => walk_at "hk")))
local macro_rules | `(tactic| walk_at "kit") => `(tactic| first | exact kit_int_int | exact kit_int_bool | exact kit_int_str | exact kit_int_list | exact kit_int_tuple | exact kit_int_dict | exact kit_bool_int | exact kit_bool_bool | exact kit_bool_str | exact kit_bool_list | exact kit_bool_tuple | exact kit_bool_dict | exact kit_str_int | exact kit_str_bool | exact kit_str_str | exact kit_str_list | exact kit_str_tuple | exact kit_str_dict | exact kit_NoneType_int | exact kit_NoneType_bool | exact kit_NoneType_str | exact kit_NoneType_list | exact kit_NoneType_tuple | exact kit_NoneType_dict | exact kit_list_int | exact kit_list_bool | exact kit_list_str | exact kit_list_list | exact kit_list_tuple | exact kit_list_dict | exact kit_tuple_int | exact kit_tuple_bool | exact kit_tuple_str | exact kit_tuple_list | exact kit_tuple_tuple | exact kit_tuple_dict | exact kit_dict_int | exact kit_dict_bool | exact kit_dict_str | exact kit_dict_list | exact kit_dict_tuple | exact kit_dict_dict)
local macro_rules | `(tactic| walk_at "sq") => `(tactic| first | assumption | ((with_reducible refine' SqL.of ?h); (case h => walk_at "hk")) | ((with_reducible refine' ex_sq ?h1 ?h2); (case h1 => assumption); (case h2 => walk_at "sq")))
local macro_rules | `(tactic| walk_at "st") => `(tactic| first | assumption | ((with_reducible refine' SqT.of ?h); (case h => walk_at "hk")) | ((with_reducible refine' ex_st ?h1 ?h2); (case h1 => assumption); (case h2 => walk_at "st")))
local macro_rules | `(tactic| walk_at "new") => `(tactic| (intro p hp; generalize hU : upd _ p _ = H'; have e1 := new_ex hp hU; have e2 := new_at hU; clear hU))
local macro_rules | `(tactic| walk_at "set") => `(tactic| ((try simp only [List.set_cons_succ, List.set_cons_zero]); rfl))
local macro_rules | `(tactic| walk_at "small") => `(tactic| first | assumption | (rw [sizeLine_eq]; (try simp only [List.length_cons, List.length_nil, str_len_app, sign_len]); omega) | (with_unfolding_all decide))
local macro_rules | `(tactic| walk_at "sc") => `(tactic| first | assumption | decide | omega | (unfold CMul; omega) | (unfold CDiv; omega) | (unfold CPow; decide) | (unfold CDiv; decide))
local macro_rules | `(tactic| walk_at "step") => `(tactic| first
  | with_reducible refine' w_seq ?_
  | with_reducible refine' w_op ?_
  | ((with_reducible refine' w_var ?h ?_); (case h => rfl))
  | with_reducible refine' w_c ?_
  | with_reducible refine' w_i0 ?_
  | with_reducible refine' w_cons ?_
  | with_reducible refine' w_nil ?_
  | with_reducible refine' w_asg ?_
  | ((with_reducible refine' w_gn ?e ?_); (case e => walk_at "set"))
  | with_reducible refine' w_ifS ?_
  | with_reducible refine' w_test ?_
  | with_reducible refine' w_tB ?_
  | with_reducible refine' w_bl ?_
  | with_reducible refine' w_int ?_
  | with_reducible refine' w_ref ?_
  | with_reducible refine' w_str ?_
  | with_reducible refine' w_eqI ?_
  | with_reducible refine' w_neI ?_
  | with_reducible refine' w_eqS ?_
  | with_reducible refine' w_neS ?_
  | with_reducible refine' w_ret ?_
  | with_reducible refine' w_for ?_
  | with_reducible refine' w_tFld ?_
  | ((with_reducible refine' w_fld ?h ?c ?n ?l ?_); (case h => walk_at "hk"); (case c => assumption); (case n => assumption); (case l => rfl))
  | with_reducible refine' w_sFld ?_
  | ((with_reducible refine' w_rsFld ?h ?c ?n ?l ?e ?_); (case h => walk_at "hk"); (case c => assumption); (case n => assumption); (case e => walk_at "putf"); (case l => (simp only [List.length_cons, List.length_nil]; omega)))
  | with_reducible refine' w_tDGet ?_
  | with_reducible refine' w_tDIn ?_
  | with_reducible refine' w_tDNotIn ?_
  | ((with_reducible refine' w_dinI ?h ?_); (case h => walk_at "hk"))
  | with_reducible refine' w_sDPut ?_
  | with_reducible refine' w_bm ?_
  | with_reducible refine' w_bm0 ?_
  | ((with_reducible refine' w_tyL ?h ?_); (case h => walk_at "sq"))
  | with_reducible refine' w_iRev ?_
  | ((with_reducible refine' w_rev1 ?h ?_); (case h => walk_at "sq"))
  | with_reducible refine' w_iItems ?_
  | with_reducible refine' w_iKeys ?_
  | with_reducible refine' w_iRng3 ?_
  | with_reducible refine' w_iZip ?_
  | with_reducible refine' w_gCons ?_
  | with_reducible refine' w_gNil ?_
  | ((with_reducible refine' w_gTup ?h ?l ?_); (case h => walk_at "st"); (case l => rfl))
  | with_reducible refine' w_m1 ?_
  | with_reducible refine' w_isS ?_
  | with_reducible refine' w_lc ?_
  | with_reducible refine' w_iList ?_
  | with_reducible refine' w_iTup ?_
  | with_reducible refine' w_iStr ?_
  | with_reducible refine' w_iRng1 ?_
  | with_reducible refine' w_iRng2 ?_
  | with_reducible refine' w_v1I ?_
  | with_reducible refine' w_v2I ?_
  | with_reducible refine' w_next ?_
  | with_reducible refine' w_call ?_
  | with_reducible refine' w_cb ?_
  | with_reducible refine' w_and ?_
  | with_reducible refine' w_or ?_
  | with_reducible refine' w_not ?_
  | with_reducible refine' w_andV ?_
  | with_reducible refine' w_orV ?_
  | with_reducible refine' w_notV ?_
  | with_reducible refine' w_ifE ?_
  | with_reducible refine' w_drop ?_
  | with_reducible refine' w_un ?_
  | with_reducible refine' w_u ?_
  | with_reducible refine' w_isNN ?_
  | with_reducible refine' w_isNI ?_
  | with_reducible refine' w_isNS ?_
  | with_reducible refine' w_isNR ?_
  | with_reducible refine' w_notNN ?_
  | with_reducible refine' w_notNI ?_
  | with_reducible refine' w_notNS ?_
  | with_reducible refine' w_notNR ?_
  | with_reducible refine' w_int1 ?_
  | with_reducible refine' w_int1b ?_
  | with_reducible refine' w_tup ?_
  | with_reducible refine' w_lst ?_
  | with_reducible refine' w_dnew ?_
  | with_reducible refine' w_sl ?_
  | with_reducible refine' w_noPart ?_
  | with_reducible refine' w_part ?_
  | with_reducible refine' w_retN ?_
  | with_reducible refine' w_brk ?_
  | with_reducible refine' w_cont ?_
  | with_reducible refine' w_chain ?_
  | with_reducible refine' w_lt ?_
  | with_reducible refine' w_le ?_
  | with_reducible refine' w_gt ?_
  | with_reducible refine' w_ge ?_
  | with_reducible refine' w_ltS ?_
  | with_reducible refine' w_leS ?_
  | with_reducible refine' w_gtS ?_
  | with_reducible refine' w_geS ?_
  | ((with_reducible refine' w_addS ?h ?_); (case h => walk_at "small"))
  | with_reducible refine' w_inS ?_
  | with_reducible refine' w_ninS ?_
  | with_reducible refine' w_par ?_
  | with_reducible refine' w_v2 ?_
  | with_reducible refine' w_max2 ?_
  | with_reducible refine' w_min2 ?_
  | with_reducible refine' w_tru ?_
  | with_reducible refine' w_meth ?_
  | ((with_reducible refine' w_meth1 ?h ?l ?_); (case h => walk_at "hk"); (case l => rfl))
  | with_reducible refine' w_make ?_
  | ((with_reducible refine' w_isiI ?h ?_); (case h => walk_at "kit"))
  | ((with_reducible refine' w_isiB ?h ?_); (case h => walk_at "kit"))
  | ((with_reducible refine' w_isiN ?h ?_); (case h => walk_at "kit"))
  | ((with_reducible refine' w_isiS ?h ?_); (case h => walk_at "kit"))
  | ((with_reducible refine' w_isiSL ?h ?e ?_); (case h => walk_at "sq"); (case e => walk_at "kit"))
  | ((with_reducible refine' w_isiST ?h ?e ?_); (case h => walk_at "st"); (case e => walk_at "kit"))
  | ((with_reducible refine' w_i ?h ?_); (case h => walk_at "sc"))
  | with_reducible refine' w_ttL ?_
  | with_reducible refine' w_ffL ?_
  | ((with_reducible refine' w_tt ?h ?_); (case h => first | exact dB_t (by decide) | exact nB_t (by decide) | decide))
  | ((with_reducible refine' w_ff ?h ?_); (case h => first | exact dB_f (by decide) | exact nB_f (by decide) | decide))
  | ((with_reducible refine' w_lenS ?h ?_); (case h => walk_at "sq"))
  | ((with_reducible refine' w_lenT ?h ?_); (case h => walk_at "st"))
  | ((with_reducible refine' w_slL ?h ?_); (case h => walk_at "sq"))
  | ((with_reducible refine' w_aug ?h ?_); (case h => rfl))
  | with_reducible refine' w_ip ?_
  | ((with_reducible refine' w_cat ?h1 ?h2 ?h3 ?_); (case h1 => walk_at "hk"); (case h2 => walk_at "hk"); (case h3 => walk_at "small"))
  | ((with_reducible refine' w_ixL ?h1 ?h2 ?_); (case h1 => walk_at "sq"); (case h2 => rfl))
  | ((with_reducible refine' w_ixT ?h1 ?h2 ?_); (case h1 => walk_at "st"); (case h2 => rfl))
  | ((with_reducible refine' w_lenStr ?h ?_); (case h => walk_at "small"))
  | ((with_reducible refine' w_slS ?h ?_); (case h => walk_at "small"))
  | ((with_reducible refine' w_sz ?h ?_); (case h => walk_at "small")))
local macro_rules | `(tactic| walk_at "go") => `(tactic| (repeat (first | walk_at "step" | walk_at "callx")))
local macro_rules | `(tactic| walk_at "goN") => `(tactic| (repeat (first | walk_at "step" | walk_at "callx" | ((with_reducible show ∀ p, _ = none → _); walk_at "new"))))
local macro_rules | `(tactic| walk_at "len") => `(tactic| first
  | (obtain ⟨rfl, _⟩ := h; rfl) | (obtain ⟨_, rfl, _⟩ := h; rfl) | (obtain ⟨_, _, rfl, _⟩ := h; rfl) | (obtain ⟨_, _, _, rfl, _⟩ := h; rfl) | (obtain ⟨_, _, _, _, rfl, _⟩ := h; rfl)
  | (obtain ⟨_, _, _, _, _, rfl, _⟩ := h; rfl) | (obtain ⟨_, _, _, _, _, _, rfl, _⟩ := h; rfl) | (obtain ⟨_, _, _, _, _, _, _, rfl, _⟩ := h; rfl) | (obtain ⟨_, _, _, _, _, _, _, _, rfl, _⟩ := h; rfl)
  | (obtain ⟨_, _, _, _, _, _, _, _, _, rfl, _⟩ := h; rfl) | (obtain ⟨_, _, _, _, _, _, _, _, _, _, rfl, _⟩ := h; rfl))
local macro_rules | `(tactic| walk_at "dec") => `(tactic| (first | with_reducible apply w_dec | with_reducible apply w_ndec | with_reducible apply w_bool) <;> intro hc)
def plainRow : Pt → List V
  | .let_ s n => [.str "let", .str s, .int n]
  | .rk w s o t => [.str w, .str s, .str o, .str t]
  | .take s p => [.str "take", .str s, .str p]
  | .put p s => [.str "put", .str p, .str s]
  | .throw n s => [.str "throw", .str n, .str s]
  | _ => [.str "wait"]
abbrev Rows := List (List V)
def twoM (hd : List V) (one : Rows) (f : Nat) (other : Nat → Rows) : Rows :=
  [hd ++ [.int ((f + one.length + 2 : Nat) : Int)]] ++ one ++ [[.str "jump", .int ((f + one.length + 2 + (other (f + one.length + 2)).length : Nat) : Int)]] ++ other (f + one.length + 2)
mutual
def partRows : Pt → Nat → Rows
  | .iff s ps os, f => twoM [.str "unless", .str s] (rowsFrom ps (f + 1)) f (rowsFrom os)
  | .eith ps os, f => twoM [.str "either"] (rowsFrom ps (f + 1) ++ [[.str "settle"]]) f (rowsFrom os)
  | .tryy ps n s os, f => twoM [.str "guard", .str n, .str s] (rowsFrom ps (f + 1) ++ [[.str "settle"]]) f (rowsFrom os)
  | .let_ s n, _ => [plainRow (.let_ s n)]
  | .rk w s o t, _ => [plainRow (.rk w s o t)]
  | .take s p, _ => [plainRow (.take s p)]
  | .put p s, _ => [plainRow (.put p s)]
  | .throw n s, _ => [plainRow (.throw n s)]
  | .wait, _ => [plainRow .wait]
def rowsFrom : List Pt → Nat → Rows
  | [], _ => []
  | p :: r, f => partRows p f ++ rowsFrom r (f + (partRows p f).length)
end
mutual
def lenP : Pt → Nat
  | .iff _ ps os => 2 + lenPs ps + lenPs os
  | .eith ps os => 3 + lenPs ps + lenPs os
  | .tryy ps _ _ os => 3 + lenPs ps + lenPs os
  | .let_ .. | .rk .. | .take .. | .put .. | .throw .. | .wait => 1
def lenPs : List Pt → Nat
  | [] => 0
  | p :: r => lenP p + lenPs r
end
mutual
def ndP : Pt → Nat
  | .iff _ ps os => 3 + max (ndPs ps) (ndPs os)
  | .eith ps os => 3 + max (ndPs ps) (ndPs os)
  | .tryy ps _ _ os => 3 + max (ndPs ps) (ndPs os)
  | .let_ .. | .rk .. | .take .. | .put .. | .throw .. | .wait => 1
def ndPs : List Pt → Nat
  | [] => 0
  | p :: r => max (ndP p) (ndPs r)
end
mutual
theorem partRows_len : ∀ (p : Pt) (f : Nat), (partRows p f).length = lenP p
  | .iff s ps os, f => by simp only [partRows, twoM, lenP, List.length_append, List.length_cons, List.length_nil, rowsFrom_len]; omega
  | .eith ps os, f => by simp only [partRows, twoM, lenP, List.length_append, List.length_cons, List.length_nil, rowsFrom_len]; omega
  | .tryy ps n s os, f => by simp only [partRows, twoM, lenP, List.length_append, List.length_cons, List.length_nil, rowsFrom_len]; omega
  | .let_ .., _ | .rk .., _ | .take .., _ | .put .., _ | .throw .., _ | .wait, _ => by simp [partRows, lenP]
theorem rowsFrom_len : ∀ (ps : List Pt) (f : Nat), (rowsFrom ps f).length = lenPs ps
  | [], _ => rfl
  | p :: r, f => by simp only [rowsFrom, lenPs, List.length_append, partRows_len p, rowsFrom_len r]
end
theorem rowsFrom_app : ∀ (ps qs : List Pt) (f : Nat), rowsFrom (ps ++ qs) f = rowsFrom ps f ++ rowsFrom qs (f + lenPs ps)
  | [], qs, f => by simp [rowsFrom, lenPs]
  | p :: r, qs, f => by
    rw [List.cons_append, rowsFrom, rowsFrom, rowsFrom_app r qs, partRows_len, lenPs, List.append_assoc, Nat.add_assoc]
theorem lenPs_app (ps qs : List Pt) : lenPs (ps ++ qs) = lenPs ps + lenPs qs := by
  induction ps with
  | nil => simp [lenPs]
  | cons p r ih => rw [List.cons_append, lenPs, lenPs, ih]; omega
theorem rowsFrom_take {ps : List Pt} {i : Nat} {p : Pt} (h : ps[i]? = some p) (f : Nat) : rowsFrom (ps.take (i + 1)) f = rowsFrom (ps.take i) f ++ partRows p (f + lenPs (ps.take i)) := by
  rw [List.take_succ, h, rowsFrom_app]
  show _ ++ rowsFrom [p] _ = _
  rw [rowsFrom, rowsFrom, List.append_nil]
theorem lenPs_take (ps : List Pt) (i : Nat) : lenPs (ps.take i) ≤ lenPs ps := by
  have h : lenPs (ps.take i ++ ps.drop i) = lenPs (ps.take i) + lenPs (ps.drop i) := lenPs_app _ _
  rw [List.take_append_drop] at h
  omega
theorem lenP_mem {ps : List Pt} {i : Nat} {p : Pt} (h : ps[i]? = some p) : lenPs (ps.take i) + lenP p ≤ lenPs ps := by
  have h1 := lenPs_take ps (i + 1)
  rw [List.take_succ, h, lenPs_app] at h1
  simpa [lenPs] using h1
theorem ndP_mem : ∀ {ps : List Pt} {i : Nat} {p : Pt}, ps[i]? = some p → ndP p ≤ ndPs ps
  | q :: r, 0, p, h => by cases h; rw [ndPs]; exact Nat.le_max_left _ _
  | q :: r, i + 1, p, h => by rw [ndPs]; exact Nat.le_trans (ndP_mem (by simpa using h)) (Nat.le_max_right _ _)
structure RowsAt (B H : Hp) (xs : List V) (rs : Rows) : Prop where
  len : xs.length = rs.length
  at' : ∀ (i : Nat) (v : V) (r : List V), xs[i]? = some v → rs[i]? = some r → ∃ t, v = .ref t ∧ B t = none ∧ H t = some (.tup r)
section
variable {B B' H H' : Hp} {xs ys : List V} {rs ss : Rows} {t R : Addr} {r : List V}
theorem RowsAt.nil : RowsAt B H [] [] := ⟨rfl, fun i v r h => by simp at h⟩
theorem RowsAt.one (h : H t = some (.tup r)) (b : B t = none) : RowsAt B H [.ref t] [r] := ⟨rfl, fun i v r' h1 h2 => by
  cases i with
  | zero => cases h1; cases h2; exact ⟨t, rfl, b, h⟩
  | succ i => simp at h1⟩
theorem RowsAt.app (a : RowsAt B H xs rs) (b : RowsAt B H ys ss) : RowsAt B H (xs ++ ys) (rs ++ ss) := ⟨by rw [List.length_append, List.length_append, a.len, b.len], fun i v r h1 h2 => by
  by_cases q : i < xs.length
  · rw [List.getElem?_append_left q] at h1
    rw [List.getElem?_append_left (a.len ▸ q)] at h2
    exact a.at' i v r h1 h2
  · rw [List.getElem?_append_right (by omega)] at h1
    rw [List.getElem?_append_right (by rw [← a.len]; omega), ← a.len] at h2
    exact b.at' _ v r h1 h2⟩
theorem RowsAt.mono (e : Ex H H') (a : RowsAt B H xs rs) : RowsAt B H' xs rs := ⟨a.len, fun i v r h1 h2 => by
  obtain ⟨t, g1, g2, g3⟩ := a.at' i v r h1 h2
  exact ⟨t, g1, g2, e _ _ g3⟩⟩
theorem RowsAt.base (e : Ex B B') (a : RowsAt B' H xs rs) : RowsAt B H xs rs := ⟨a.len, fun i v r h1 h2 => by
  obtain ⟨t, g1, g2, g3⟩ := a.at' i v r h1 h2
  exact ⟨t, g1, ex_free e g2, g3⟩⟩
theorem RowsAt.del (a : RowsAt B H xs rs) (o : ∃ o, B R = some o) : RowsAt B (del H R) xs rs := ⟨a.len, fun i v r h1 h2 => by
  obtain ⟨t, g1, g2, g3⟩ := a.at' i v r h1 h2
  obtain ⟨o, ho⟩ := o
  exact ⟨t, g1, g2, by rw [del_ne (Ne.symm (ne_of_none ho g2))]; exact g3⟩⟩
end
def Sides (d : Ad) (H : Hp) (a : Addr) (ps os : List Pt) : Prop := ∃ (C dx : Addr) (fs : List (Str × V)) (l m : Addr) (as bs : List Addr), H a = some (.ins C dx fs) ∧ Cls d.K C ∧ NoAttr d.K C "parts" ∧ NoAttr d.K C "others" ∧ fs.lookup ("parts" : Str) = some (.ref l) ∧ fs.lookup ("others" : Str) = some (.ref m) ∧
  H l = some (.lst (as.map V.ref)) ∧ H m = some (.lst (bs.map V.ref)) ∧ PtsAt d H as ps ∧ PtsAt d H bs os
def sp_plain_row (d : Ad) : Sp := fun vs H Q _ => ∃ (a : Addr) (p : Pt), vs = [.ref a] ∧ PtAt d H a p ∧ lenP p = 1 ∧ ∀ t H', H t = none → Ex H H' → H' t = some (.tup (plainRow p)) → Q (.ref t) H'
def spN_two_sides (n : Nat) (d : Ad) : Sp := fun vs H Q _ => ∃ (h a c : Addr) (f : Nat), vs = [.ref h, .ref a, .int (f : Nat), .ref c] ∧ ∃ (hd : List V) (cs : List V) (cr : Rows) (B : Hp) (ps os : List Pt), H h = some (.tup hd) ∧ hd ≠ [] ∧ hd.length ≤ 10 ∧ H c = some (.lst cs) ∧ RowsAt B H cs cr ∧ Ex B H ∧ cr.length ≤ 10 ∧ Sides d H a ps os ∧
  lenPs ps + lenPs os ≤ 10000 ∧ 2 + max (ndPs ps) (ndPs os) ≤ n ∧ ∀ q H' xs, H q = none → Ex H H' → H' q = some (.lst xs) → RowsAt B H' xs (twoM hd (rowsFrom ps (f + 1) ++ cr) f (rowsFrom os)) → Q (.ref q) H'
def spN_part_rows (n : Nat) (d : Ad) : Sp := fun vs H Q _ => ∃ (a : Addr) (f : Nat), vs = [.ref a, .int (f : Nat)] ∧ ∃ (p : Pt), PtAt d H a p ∧ lenP p ≤ 10000 ∧ ndP p ≤ n ∧ ∀ q H' xs, H q = none → Ex H H' → H' q = some (.lst xs) → RowsAt H H' xs (partRows p f) → Q (.ref q) H'
def spN_rows_from (n : Nat) (d : Ad) : Sp := fun vs H Q _ => ∃ (l : Addr) (f : Nat), vs = [.ref l, .int (f : Nat)] ∧ ∃ (as : List Addr) (ps : List Pt), SqL d.K H l (as.map V.ref) ∧ PtsAt d H as ps ∧ lenPs ps ≤ 10000 ∧ 1 + ndPs ps ≤ n ∧ ∀ q H' xs, H q = none → Ex H H' → H' q = some (.lst xs) → RowsAt H H' xs (rowsFrom ps f) → Q (.ref q) H'
abbrev sp_two_sides (d : Ad) : Sp := spN_two_sides 40 d
abbrev sp_part_rows (d : Ad) : Sp := spN_part_rows 40 d
abbrev sp_rows_from (d : Ad) : Sp := spN_rows_from 40 d
theorem pts_len {d : Ad} {S : Hp} : ∀ {as : List Addr} {ps : List Pt}, PtsAt d S as ps → as.length = ps.length
  | _, _, .nil => rfl
  | _, _, .cons _ t => by simp [pts_len t]
theorem pts_get {d : Ad} {S : Hp} : ∀ {as : List Addr} {ps : List Pt} {i : Nat} {a : Addr}, PtsAt d S as ps → as[i]? = some a → ∃ p, ps[i]? = some p ∧ PtAt d S a p
  | _, _, _, _, .nil, h => by simp at h
  | _, _, 0, _, .cons h _, e => by simp at e; subst e; exact ⟨_, rfl, h⟩
  | _, _, i + 1, a, .cons _ t, e => by
    obtain ⟨p, h1, h2⟩ := pts_get (i := i) (a := a) t (by simpa using e)
    exact ⟨p, by simpa using h1, h2⟩
theorem ndP_pos : ∀ p : Pt, 1 ≤ ndP p
  | .iff .. | .eith .. | .tryy .. => by simp only [ndP]; omega
  | .let_ .. | .rk .. | .take .. | .put .. | .throw .. | .wait => by simp [ndP]
section
variable {d : Ad} {vs : List V} {H : Hp} {Q : VK} {E : XK}
theorem no_two_sides (h : spN_two_sides 0 d vs H Q E) : False := by
  obtain ⟨_, _, _, _, _, _, _, _, _, _, _, _, _, _, _, _, _, _, _, _, h, _⟩ := h
  omega
theorem no_part_rows (h : spN_part_rows 0 d vs H Q E) : False := by
  obtain ⟨_, _, _, p, _, _, h, _⟩ := h
  have := ndP_pos p
  omega
theorem no_rows_from (h : spN_rows_from 0 d vs H Q E) : False := by
  obtain ⟨_, _, _, _, _, _, _, _, h, _⟩ := h
  omega
end
def sp_rows_of (d : Ad) : Sp := fun vs H Q _ => ∃ (l : Addr), vs = [.ref l] ∧ ∃ (as : List Addr) (ps : List Pt), SqL d.K H l (as.map V.ref) ∧ PtsAt d H as ps ∧ lenPs ps ≤ 10000 ∧ 1 + ndPs ps ≤ 40 ∧ ∀ q H' xs, H q = none → Ex H H' → H' q = some (.lst xs) → RowsAt H H' xs (rowsFrom ps 0 ++ [[.str "lay"]]) → Q (.ref q) H'
abbrev N_plain_row : List Str := ["part"]
def t_plain_row (d : Ad) : TS :=
  (tSeq (tIfS (tB (tCB (rIsi d.K) (tCons (tVar 0) (tCons (tC (.ref d.cLet)) tNil)))) (tRet (tTup (tCons (tC (.str "let")) (tCons (tFld d.K (tVar 0) "slot") (tCons (tFld d.K (tVar 0) "number") tNil))))) tNext)
  (tSeq (tIfS (tB (tCB (rIsi d.K) (tCons (tVar 0) (tCons (tC (.ref d.cReckon)) tNil)))) (tRet (tTup (tCons (tFld d.K (tVar 0) "word") (tCons (tFld d.K (tVar 0) "slot") (tCons (tFld d.K (tVar 0) "one") (tCons (tFld d.K (tVar 0) "other") tNil)))))) tNext)
  (tSeq (tIfS (tB (tCB (rIsi d.K) (tCons (tVar 0) (tCons (tC (.ref d.cTake)) tNil)))) (tRet (tTup (tCons (tC (.str "take")) (tCons (tFld d.K (tVar 0) "slot") (tCons (tFld d.K (tVar 0) "place") tNil))))) tNext)
  (tSeq (tIfS (tB (tCB (rIsi d.K) (tCons (tVar 0) (tCons (tC (.ref d.cPut)) tNil)))) (tRet (tTup (tCons (tC (.str "put")) (tCons (tFld d.K (tVar 0) "place") (tCons (tFld d.K (tVar 0) "slot") tNil))))) tNext)
  (tSeq (tIfS (tB (tCB (rIsi d.K) (tCons (tVar 0) (tCons (tC (.ref d.cThrow)) tNil)))) (tRet (tTup (tCons (tC (.str "throw")) (tCons (tFld d.K (tVar 0) "name") (tCons (tFld d.K (tVar 0) "slot") tNil))))) tNext)
  (tRet (tTup (tCons (tC (.str "wait")) tNil))))))))
abbrev N_two_sides : List Str := ["head", "part", "first", "closing", "one", "target", "other"]
def t_two_sides (n : Nat) (d : Ad) : TS :=
  (tSeq (tAsg (aCat (tCall (spN_rows_from n d) [] E0 (tCons (tFld d.K (tVar 1) "parts") (tCons (aAdd (tVar 2) (tC (.int 1))) tNil))) (tVar 3)) (gName 4))
  (tSeq (tAsg (aAdd (aAdd (tVar 2) (tCB (Evl.rLenS d.K) (tCons (tVar 4) tNil))) (tC (.int 2))) (gName 5))
  (tSeq (tAsg (tCall (spN_rows_from n d) [] E0 (tCons (tFld d.K (tVar 1) "others") (tCons (tVar 5) tNil))) (gName 6))
  (tRet (aCat (aCat (aCat (tLst (tCons (aCatT d.K (tVar 0) (tTup (tCons (tVar 5) tNil))) tNil)) (tVar 4)) (tLst (tCons (tTup (tCons (tC (.str "jump")) (tCons (aAdd (tVar 5) (tCB (Evl.rLenS d.K) (tCons (tVar 6) tNil))) tNil))) tNil))) (tVar 6))))))
abbrev N_part_rows : List Str := ["part", "first"]
def t_part_rows (n : Nat) (d : Ad) : TS :=
  (tSeq (tIfS (tB (tCB (rIsi d.K) (tCons (tVar 0) (tCons (tC (.ref d.cIf)) tNil)))) (tRet (tCall (spN_two_sides n d) [] E0 (tCons (tTup (tCons (tC (.str "unless")) (tCons (tFld d.K (tVar 0) "slot") tNil))) (tCons (tVar 0) (tCons (tVar 1) (tCons (tLst tNil) tNil)))))) tNext)
  (tSeq (tIfS (tB (tCB (rIsi d.K) (tCons (tVar 0) (tCons (tC (.ref d.cEither)) tNil)))) (tRet (tCall (spN_two_sides n d) [] E0 (tCons (tTup (tCons (tC (.str "either")) tNil)) (tCons (tVar 0) (tCons (tVar 1) (tCons (tLst (tCons (tTup (tCons (tC (.str "settle")) tNil)) tNil)) tNil)))))) tNext)
  (tSeq (tIfS (tB (tCB (rIsi d.K) (tCons (tVar 0) (tCons (tC (.ref d.cTry)) tNil)))) (tRet (tCall (spN_two_sides n d) [] E0 (tCons (tTup (tCons (tC (.str "guard")) (tCons (tFld d.K (tVar 0) "name") (tCons (tFld d.K (tVar 0) "slot") tNil)))) (tCons (tVar 0) (tCons (tVar 1) (tCons (tLst (tCons (tTup (tCons (tC (.str "settle")) tNil)) tNil)) tNil)))))) tNext)
  (tRet (tLst (tCons (tCall (sp_plain_row d) [] E0 (tCons (tVar 0) tNil)) tNil))))))
abbrev N_rows_from : List Str := ["parts", "first", "rows", "part"]
def t_rows_from (n : Nat) (d : Ad) : TS :=
  (tSeq (tAsg (tLst tNil) (gName 2))
  (tSeq (tFor (iList d.K (tVar 0)) (gName 3) (tDrop (tBM d.K "list" rExtend (tVar 2) (tCons (tCall (spN_part_rows n d) [] E0 (tCons (tVar 3) (tCons (aAdd (tVar 1) (tCB (Evl.rLenS d.K) (tCons (tVar 2) tNil))) tNil))) tNil))))
  (tRet (tVar 2))))
abbrev N_rows_of : List Str := ["deed"]
def t_rows_of (d : Ad) : TS :=
  (tRet (aCat (tCall (sp_rows_from d) [] E0 (tCons (tVar 0) (tCons (tC (.int 0)) tNil))) (tLst (tCons (tTup (tCons (tC (.str "lay")) tNil)) tNil))))
def Knd (d : Ad) (H : Hp) (a : Addr) (k : Kd) : Prop := ∃ dx fs, H a = some (.ins (cOf d k) dx fs)
section
variable {d : Ad} {H : Hp} {Q : VK} {a : Addr} {k : Kd} {b : Bool}
theorem w_isi_let_ (T : TParts d) (h : Knd d H a k) (e : decide (k = .let_) = b) (q : Q (.bl b) H) : rIsi d.K [.ref a, .ref d.cLet] H Q := by
  obtain ⟨dx, fs, h⟩ := h
  exact w_isiO T (j := .let_) h e q
theorem w_isi_rk (T : TParts d) (h : Knd d H a k) (e : decide (k = .rk) = b) (q : Q (.bl b) H) : rIsi d.K [.ref a, .ref d.cReckon] H Q := by
  obtain ⟨dx, fs, h⟩ := h
  exact w_isiO T (j := .rk) h e q
theorem w_isi_take (T : TParts d) (h : Knd d H a k) (e : decide (k = .take) = b) (q : Q (.bl b) H) : rIsi d.K [.ref a, .ref d.cTake] H Q := by
  obtain ⟨dx, fs, h⟩ := h
  exact w_isiO T (j := .take) h e q
theorem w_isi_put (T : TParts d) (h : Knd d H a k) (e : decide (k = .put) = b) (q : Q (.bl b) H) : rIsi d.K [.ref a, .ref d.cPut] H Q := by
  obtain ⟨dx, fs, h⟩ := h
  exact w_isiO T (j := .put) h e q
theorem w_isi_throw (T : TParts d) (h : Knd d H a k) (e : decide (k = .throw) = b) (q : Q (.bl b) H) : rIsi d.K [.ref a, .ref d.cThrow] H Q := by
  obtain ⟨dx, fs, h⟩ := h
  exact w_isiO T (j := .throw) h e q
theorem w_isi_iff (T : TParts d) (h : Knd d H a k) (e : decide (k = .iff) = b) (q : Q (.bl b) H) : rIsi d.K [.ref a, .ref d.cIf] H Q := by
  obtain ⟨dx, fs, h⟩ := h
  exact w_isiO T (j := .iff) h e q
theorem w_isi_eith (T : TParts d) (h : Knd d H a k) (e : decide (k = .eith) = b) (q : Q (.bl b) H) : rIsi d.K [.ref a, .ref d.cEither] H Q := by
  obtain ⟨dx, fs, h⟩ := h
  exact w_isiO T (j := .eith) h e q
theorem w_isi_tryy (T : TParts d) (h : Knd d H a k) (e : decide (k = .tryy) = b) (q : Q (.bl b) H) : rIsi d.K [.ref a, .ref d.cTry] H Q := by
  obtain ⟨dx, fs, h⟩ := h
  exact w_isiO T (j := .tryy) h e q
end
local macro_rules | `(tactic| walk_at "isi") => `(tactic| first | ((with_reducible refine' w_isi_let_ ?t ?h ?e ?_); (case t => assumption); (case h => assumption); (case e => rfl)) | ((with_reducible refine' w_isi_rk ?t ?h ?e ?_); (case t => assumption); (case h => assumption); (case e => rfl)) | ((with_reducible refine' w_isi_take ?t ?h ?e ?_); (case t => assumption); (case h => assumption); (case e => rfl)) | ((with_reducible refine' w_isi_put ?t ?h ?e ?_); (case t => assumption); (case h => assumption); (case e => rfl)) | ((with_reducible refine' w_isi_throw ?t ?h ?e ?_); (case t => assumption); (case h => assumption); (case e => rfl)) | ((with_reducible refine' w_isi_iff ?t ?h ?e ?_); (case t => assumption); (case h => assumption); (case e => rfl)) | ((with_reducible refine' w_isi_eith ?t ?h ?e ?_); (case t => assumption); (case h => assumption); (case e => rfl)) | ((with_reducible refine' w_isi_tryy ?t ?h ?e ?_); (case t => assumption); (case h => assumption); (case e => rfl)))
local macro_rules | `(tactic| walk_at "callx") => `(tactic| walk_at "isi")
section
variable {d : Ad} {vs : List V} {H : Hp} {Q : VK} {E : XK}
theorem pure_plain_row (T : TParts d) (h : sp_plain_row d vs H Q E) : t_plain_row d { nx := fun _ H' => Q .non H', rt := Q } (start N_plain_row vs) H := by
  obtain ⟨a, p, rfl, hp, h1, k⟩ := h
  show t_plain_row d _ [some (.ref a)] H
  unfold t_plain_row
  cases hp with
  | let_ h =>
    have hk : Knd d H a .let_ := ⟨_, _, h⟩
    have c : Cls d.K d.cLet := T.cl .let_
    have n1 : NoAttr d.K d.cLet "slot" := T.na .let_ _ (by simp [atK])
    have n2 : NoAttr d.K d.cLet "number" := T.na .let_ _ (by simp [atK])
    walk_at "go"
    exact fun t ht => k t _ ht (Evl.Ex.new ht) upd_same
  | rk h =>
    have hk : Knd d H a .rk := ⟨_, _, h⟩
    have c : Cls d.K d.cReckon := T.cl .rk
    have n1 : NoAttr d.K d.cReckon "word" := T.na .rk _ (by simp [atK])
    have n2 : NoAttr d.K d.cReckon "slot" := T.na .rk _ (by simp [atK])
    have n3 : NoAttr d.K d.cReckon "one" := T.na .rk _ (by simp [atK])
    have n4 : NoAttr d.K d.cReckon "other" := T.na .rk _ (by simp [atK])
    walk_at "go"
    exact fun t ht => k t _ ht (Evl.Ex.new ht) upd_same
  | take h =>
    have hk : Knd d H a .take := ⟨_, _, h⟩
    have c : Cls d.K d.cTake := T.cl .take
    have n1 : NoAttr d.K d.cTake "slot" := T.na .take _ (by simp [atK])
    have n2 : NoAttr d.K d.cTake "place" := T.na .take _ (by simp [atK])
    walk_at "go"
    exact fun t ht => k t _ ht (Evl.Ex.new ht) upd_same
  | put h =>
    have hk : Knd d H a .put := ⟨_, _, h⟩
    have c : Cls d.K d.cPut := T.cl .put
    have n1 : NoAttr d.K d.cPut "slot" := T.na .put _ (by simp [atK])
    have n2 : NoAttr d.K d.cPut "place" := T.na .put _ (by simp [atK])
    walk_at "go"
    exact fun t ht => k t _ ht (Evl.Ex.new ht) upd_same
  | throw h =>
    have hk : Knd d H a .throw := ⟨_, _, h⟩
    have c : Cls d.K d.cThrow := T.cl .throw
    have n1 : NoAttr d.K d.cThrow "slot" := T.na .throw _ (by simp [atK])
    have n2 : NoAttr d.K d.cThrow "name" := T.na .throw _ (by simp [atK])
    walk_at "go"
    exact fun t ht => k t _ ht (Evl.Ex.new ht) upd_same
  | wait h =>
    have hk : Knd d H a .wait := ⟨_, _, h⟩
    walk_at "go"
    exact fun t ht => k t _ ht (Evl.Ex.new ht) upd_same
  | iff h => simp only [lenP] at h1; omega
  | eith h => simp only [lenP] at h1; omega
  | tryy h => simp only [lenP] at h1; omega
theorem pure_rows_from {n : Nat} (h : spN_rows_from (n + 1) d vs H Q E) : t_rows_from n d { nx := fun _ H' => Q .non H', rt := Q } (start N_rows_from vs) H := by
  obtain ⟨l, f, rfl, as, ps, hl, hp, hlen, hn, k⟩ := h
  show t_rows_from n d _ [some (.ref l), some (.int f), none, none] H
  unfold t_rows_from
  walk_at "goN"
  rename_i R hR H1 e1 f1
  refine f_list (ex_sq e1 hl) (fun i σ H' => (∃ x, σ = [some (.ref l), some (.int f), some (.ref R), x]) ∧ Ex H (del H' R) ∧ ∃ xs, H' R = some (.lst xs) ∧ RowsAt H (del H' R) xs (rowsFrom (ps.take i) f)) ⟨⟨_, rfl⟩, ex_del e1 hR, [], f1, RowsAt.nil⟩
    (fun i σ H' _ q => ex_sq (q.2.1.trans del_ex) hl) ?_ ?_
  · rintro i x σ H2 hi ⟨⟨x3, rfl⟩, e2, xs, hR2, r2⟩
    rw [List.getElem?_map] at hi
    obtain ⟨a, ha, rfl⟩ := Option.map_eq_some_iff.mp hi
    obtain ⟨p, hpi, hpa⟩ := pts_get hp ha
    have hx := r2.len
    rw [rowsFrom_len] at hx
    have hmem := lenP_mem hpi
    have hnd := ndP_mem hpi
    walk_at "go"
    refine ⟨a, f + xs.length, by rw [Int.natCast_add], p, PtAt.mono (e2.trans del_ex) hpa, by omega, by omega, fun q H3 ys hq e3 f3 r3 => ?_⟩
    have hy := r3.len
    rw [partRows_len] at hy
    walk_at "go"
    refine w_ext (e3 _ _ hR2) f3 (by rw [sizeLine_eq]; omega) ?_
    refine ⟨⟨_, rfl⟩, ?_, xs ++ ys, upd_same, ?_⟩
    · rw [del_upd]; exact e2.trans (del_mono e3)
    · rw [del_upd, rowsFrom_take hpi, ← hx]
      exact (r2.mono (del_mono e3)).app ((r3.del ⟨_, hR2⟩).base (e2.trans del_ex))
  · rintro σ H2 ⟨⟨x3, rfl⟩, e2, xs, hR2, r2⟩
    rw [List.length_map, pts_len hp, List.take_of_length_le (Nat.le_refl _)] at r2
    walk_at "go"
    exact k R H2 xs hR (e2.trans del_ex) hR2 (r2.mono del_ex)
theorem pure_two_sides {n : Nat} (h : spN_two_sides (n + 1) d vs H Q E) : t_two_sides n d { nx := fun _ H' => Q .non H', rt := Q } (start N_two_sides vs) H := by
  obtain ⟨h, a, c, f, rfl, hd, cs, cr, B, ps, os, hh, hne, hl10, hc, rc, eB, cl10, hs, hlen, hn, k⟩ := h
  obtain ⟨C, dx, fs, l, m, as, bs, ha, cC, n1, n2, l1, l2, hl, hm, hp, ho⟩ := hs
  show t_two_sides n d _ [some (.ref h), some (.ref a), some (.int f), some (.ref c), none, none, none] H
  unfold t_two_sides
  walk_at "go"
  refine w_fld ha cC n1 l1 ?_
  walk_at "go"
  refine ⟨l, f + 1, rfl, as, ps, SqL.of hl, hp, by omega, by omega, fun q1 H1 xs1 hq1 e1 f1 r1 => ?_⟩
  have hx1 := r1.len
  rw [rowsFrom_len] at hx1
  have hc1 := rc.len
  have b1 : xs1.length + cs.length ≤ sizeLine := by rw [sizeLine_eq]; omega
  walk_at "goN"
  rename_i o2 ho2 H2 e2 f2
  refine w_fld ((e1.trans e2) _ _ ha) cC n2 l2 ?_
  walk_at "go"
  refine ⟨m, f + (xs1 ++ cs).length + 2, by rw [Int.natCast_add, Int.natCast_add]; rfl, bs, os, SqL.of ((e1.trans e2) _ _ hm), PtsAt.mono (e1.trans e2) ho, by omega, by omega, fun q3 H3 xs3 hq3 e3 f3 r3 => ?_⟩
  have hx3 := r3.len
  rw [rowsFrom_len] at hx3
  walk_at "goN"
  rename_i tT htT H4 e4 f4
  refine ⟨h, tT, hd, _, rfl, rfl, SqT.of ((((e1.trans e2).trans e3).trans e4) _ _ hh), SqT.of f4, hne, by rw [sizeLine_eq, List.length_singleton]; omega, (fun z => by cases z), fun _ => ?_⟩
  have b2 : [V.ref (0 : Nat)].length + (xs1 ++ cs).length ≤ sizeLine := by rw [sizeLine_eq, List.length_append, List.length_singleton]; omega
  walk_at "goN"
  rename_i tH htH H5 e5 f5 l6 hl6 H6 e6 f6 l7 hl7 H7 e7 f7 tJ htJ H8 e8 f8 l9 hl9 H9 e9 f9
  refine w_cat ((e8.trans e9) _ _ f7) f9 (by rw [sizeLine_eq]; simp only [List.length_append, List.length_singleton]; omega) ?_
  walk_at "goN"
  rename_i la hla HA eA fA
  have e49 := (((((e4.trans e5).trans e6).trans e7).trans e8).trans e9).trans eA
  refine w_cat fA (e49 _ _ f3) (by rw [sizeLine_eq]; simp only [List.length_append, List.length_singleton]; omega) fun q hq => ?_
  generalize hU : upd HA q _ = HB
  have eB' := new_ex hq hU
  have fB := new_at hU
  clear hU
  have e13 := (e1.trans e2).trans e3
  have eH4 := e13.trans e4
  have eH7 := ((eH4.trans e5).trans e6).trans e7
  have eHB := (((eH7.trans e8).trans e9).trans eA).trans eB'
  have e5B := ((((e6.trans e7).trans e8).trans e9).trans eA).trans eB'
  have e8B := ((e9.trans eA).trans eB')
  have e3B := e49.trans eB'
  have hlen1 : (rowsFrom ps (f + 1) ++ cr).length = (xs1 ++ cs).length := by rw [List.length_append, List.length_append, rowsFrom_len, hx1, hc1]
  refine k q HB _ (ex_free (eH7.trans ((e8.trans e9).trans eA)) hq) eHB fB ?_
  unfold twoM
  rw [hlen1]
  refine (((RowsAt.one (r := hd ++ [.int ((f + (xs1 ++ cs).length + 2 : Nat) : Int)]) ?_ (ex_free (eB.trans eH4) htH)).app (((r1.base eB).mono (((e2.trans e3).trans e49).trans eB')).app (rc.mono eHB))).app (RowsAt.one ?_ (ex_free (eB.trans eH7) htJ))).app ((r3.base (eB.trans (e1.trans e2))).mono e3B)
  · exact e5B _ _ f5
  · rw [r3.len] at f8
    exact e8B _ _ f8
theorem sides_iff (T : TParts d) {S : Hp} {a : Addr} {s : Str} {ps os : List Pt} (h : PtAt d S a (.iff s ps os)) : Sides d S a ps os := by
  cases h with
  | iff h hl hm h1 h2 => exact ⟨_, _, _, _, _, _, _, h, T.cl .iff, T.na .iff _ (by simp [atK]), T.na .iff _ (by simp [atK]), rfl, rfl, hl, hm, h1, h2⟩
theorem sides_eith (T : TParts d) {S : Hp} {a : Addr} {ps os : List Pt} (h : PtAt d S a (.eith ps os)) : Sides d S a ps os := by
  cases h with
  | eith h hl hm h1 h2 => exact ⟨_, _, _, _, _, _, _, h, T.cl .eith, T.na .eith _ (by simp [atK]), T.na .eith _ (by simp [atK]), rfl, rfl, hl, hm, h1, h2⟩
theorem sides_tryy (T : TParts d) {S : Hp} {a : Addr} {n s : Str} {ps os : List Pt} (h : PtAt d S a (.tryy ps n s os)) : Sides d S a ps os := by
  cases h with
  | tryy h hl hm h1 h2 => exact ⟨_, _, _, _, _, _, _, h, T.cl .tryy, T.na .tryy _ (by simp [atK]), T.na .tryy _ (by simp [atK]), rfl, rfl, hl, hm, h1, h2⟩
theorem Sides.mono {S S' : Hp} (e : Ex S S') {a : Addr} {ps os : List Pt} (h : Sides d S a ps os) : Sides d S' a ps os := by
  obtain ⟨C, dx, fs, l, m, as, bs, h1, h2, h3, h4, h5, h6, h7, h8, h9, h10⟩ := h
  exact ⟨C, dx, fs, l, m, as, bs, e _ _ h1, h2, h3, h4, h5, h6, e _ _ h7, e _ _ h8, PtsAt.mono e h9, PtsAt.mono e h10⟩
theorem pure_part_rows (T : TParts d) {n : Nat} (h : spN_part_rows (n + 1) d vs H Q E) : t_part_rows n d { nx := fun _ H' => Q .non H', rt := Q } (start N_part_rows vs) H := by
  obtain ⟨a, f, rfl, p, hp, hlen, hn, k⟩ := h
  show t_part_rows n d _ [some (.ref a), some (.int f)] H
  unfold t_part_rows
  have plain : ∀ {kd : Kd}, Knd d H a kd → kd ≠ .iff → kd ≠ .eith → kd ≠ .tryy → lenP p = 1 → (∀ g, partRows p g = [plainRow p]) → t_part_rows n d { nx := fun _ H' => Q .non H', rt := Q } [some (.ref a), some (.int f)] H := fun {kd} hk n1 n2 n3 hl he => by
    unfold t_part_rows
    walk_at "go"
    refine w_ff (decide_eq_false n1) ?_
    walk_at "go"
    refine w_ff (decide_eq_false n2) ?_
    walk_at "go"
    refine w_ff (decide_eq_false n3) ?_
    walk_at "go"
    refine ⟨a, p, rfl, hp, hl, fun t H1 ht e1 h1 => ?_⟩
    walk_at "goN"
    rename_i q hq H2 e2 f2
    refine k q H2 _ (ex_free e1 hq) (e1.trans e2) f2 ?_
    rw [he]
    exact RowsAt.one (e2 _ _ h1) ht
  cases hp with
  | let_ h => exact plain (kd := .let_) ⟨_, _, h⟩ (by decide) (by decide) (by decide) rfl (fun _ => rfl)
  | rk h => exact plain (kd := .rk) ⟨_, _, h⟩ (by decide) (by decide) (by decide) rfl (fun _ => rfl)
  | take h => exact plain (kd := .take) ⟨_, _, h⟩ (by decide) (by decide) (by decide) rfl (fun _ => rfl)
  | put h => exact plain (kd := .put) ⟨_, _, h⟩ (by decide) (by decide) (by decide) rfl (fun _ => rfl)
  | throw h => exact plain (kd := .throw) ⟨_, _, h⟩ (by decide) (by decide) (by decide) rfl (fun _ => rfl)
  | wait h => exact plain (kd := .wait) ⟨_, _, h⟩ (by decide) (by decide) (by decide) rfl (fun _ => rfl)
  | iff h hl hm h1 h2 =>
    have hk : Knd d H a .iff := ⟨_, _, h⟩
    have hs := sides_iff T (PtAt.iff h hl hm h1 h2)
    have c : Cls d.K d.cIf := T.cl .iff
    have n1 : NoAttr d.K d.cIf "slot" := T.na .iff _ (by simp [atK])
    simp only [lenP, ndP] at hlen hn
    walk_at "goN"
    rename_i th hth H1 e1 f1 lc hlc H2 e2 f2
    refine ⟨th, a, lc, f, rfl, _, [], [], H, _, _, e2 _ _ f1, by simp, by simp, f2, RowsAt.nil, e1.trans e2, by simp, hs.mono (e1.trans e2), by omega, by omega, fun q H3 xs hq e3 f3 r3 => ?_⟩
    rw [List.append_nil] at r3
    exact k q H3 xs (ex_free (e1.trans e2) hq) ((e1.trans e2).trans e3) f3 r3
  | eith h hl hm h1 h2 =>
    have hk : Knd d H a .eith := ⟨_, _, h⟩
    have hs := sides_eith T (PtAt.eith h hl hm h1 h2)
    simp only [lenP, ndP] at hlen hn
    walk_at "goN"
    rename_i th hth H1 e1 f1 ts hts H2 e2 f2 lc hlc H3 e3 f3
    have e13 := (e1.trans e2).trans e3
    refine ⟨th, a, lc, f, rfl, _, _, [[.str "settle"]], H, _, _, (e2.trans e3) _ _ f1, by simp, by simp, f3, RowsAt.one (e3 _ _ f2) (ex_free e1 hts), e13, by simp, hs.mono e13, by omega, by omega, fun q H4 xs hq e4 f4 r4 => ?_⟩
    exact k q H4 xs (ex_free e13 hq) (e13.trans e4) f4 r4
  | tryy h hl hm h1 h2 =>
    have hk : Knd d H a .tryy := ⟨_, _, h⟩
    have hs := sides_tryy T (PtAt.tryy h hl hm h1 h2)
    have c : Cls d.K d.cTry := T.cl .tryy
    have n1 : NoAttr d.K d.cTry "slot" := T.na .tryy _ (by simp [atK])
    have n2 : NoAttr d.K d.cTry "name" := T.na .tryy _ (by simp [atK])
    simp only [lenP, ndP] at hlen hn
    walk_at "goN"
    rename_i th hth H1 e1 f1 ts hts H2 e2 f2 lc hlc H3 e3 f3
    have e13 := (e1.trans e2).trans e3
    refine ⟨th, a, lc, f, rfl, _, _, [[.str "settle"]], H, _, _, (e2.trans e3) _ _ f1, by simp, by simp, f3, RowsAt.one (e3 _ _ f2) (ex_free e1 hts), e13, by simp, hs.mono e13, by omega, by omega, fun q H4 xs hq e4 f4 r4 => ?_⟩
    exact k q H4 xs (ex_free e13 hq) (e13.trans e4) f4 r4
theorem pure_rows_of (h : sp_rows_of d vs H Q E) : t_rows_of d { nx := fun _ H' => Q .non H', rt := Q } (start N_rows_of vs) H := by
  obtain ⟨l, rfl, as, ps, hl, hp, hlen, hn, k⟩ := h
  show t_rows_of d _ [some (.ref l)] H
  unfold t_rows_of
  walk_at "go"
  refine ⟨l, 0, rfl, as, ps, hl, hp, hlen, hn, fun q H1 xs hq e1 f1 r1 => ?_⟩
  have hx := r1.len
  rw [rowsFrom_len] at hx
  walk_at "goN"
  rename_i t ht H2 e2 f2 m hm H3 e3 f3 r hr H4 e4 f4
  have e13 := (e1.trans e2).trans e3
  exact k r H4 _ (ex_free e13 hr) (e13.trans e4) f4 ((r1.mono ((e2.trans e3).trans e4)).app (RowsAt.one ((e3.trans e4) _ _ f2) (ex_free e1 ht)))
end
end RT

set_option Elab.async false
set_option linter.all false
set_option maxRecDepth 100000
set_option maxHeartbeats 4000000
set_option autoImplicit false
namespace RT
open PySem L2
local macro_rules | `(tactic| walk_at "putf") => `(tactic| first | exact putF_nil | exact putF_hit | exact putF_miss (by decide) (by walk_at "putf"))
local macro_rules | `(tactic| walk_at "ne") => `(tactic| first | assumption | exact Ne.symm (by assumption) | ((refine' ne2 ?h1 ?h2); (case h1 => assumption); (case h2 => walk_at "hk")) | ((refine' ne2s ?h1 ?h2); (case h1 => assumption); (case h2 => walk_at "hk")) | exact ne_head (by assumption) | exact ne_of (by assumption) (by assumption) (by intro z; cases z))
local macro_rules | `(tactic| walk_at "hk") => `(tactic| first | assumption | with_reducible exact upd_same | ((with_reducible refine' up_ne ?h1 ?h2); (case h1 => walk_at "ne"); (case h2 => walk_at "hk")) | ((with_reducible refine' ex_at ?h1 ?h2); (case h1 => assumption); (case h2 => walk_at "hk")))
local macro_rules | `(tactic| walk_at "kit") => `(tactic| first | exact kit_int_int | exact kit_int_bool | exact kit_int_str | exact kit_int_list | exact kit_int_tuple | exact kit_int_dict | exact kit_bool_int | exact kit_bool_bool | exact kit_bool_str | exact kit_bool_list | exact kit_bool_tuple | exact kit_bool_dict | exact kit_str_int | exact kit_str_bool | exact kit_str_str | exact kit_str_list | exact kit_str_tuple | exact kit_str_dict | exact kit_NoneType_int | exact kit_NoneType_bool | exact kit_NoneType_str | exact kit_NoneType_list | exact kit_NoneType_tuple | exact kit_NoneType_dict | exact kit_list_int | exact kit_list_bool | exact kit_list_str | exact kit_list_list | exact kit_list_tuple | exact kit_list_dict | exact kit_tuple_int | exact kit_tuple_bool | exact kit_tuple_str | exact kit_tuple_list | exact kit_tuple_tuple | exact kit_tuple_dict | exact kit_dict_int | exact kit_dict_bool | exact kit_dict_str | exact kit_dict_list | exact kit_dict_tuple | exact kit_dict_dict)
local macro_rules | `(tactic| walk_at "sq") => `(tactic| first | assumption | ((with_reducible refine' SqL.of ?h); (case h => walk_at "hk")) | ((with_reducible refine' ex_sq ?h1 ?h2); (case h1 => assumption); (case h2 => walk_at "sq")))
local macro_rules | `(tactic| walk_at "st") => `(tactic| first | assumption | ((with_reducible refine' SqT.of ?h); (case h => walk_at "hk")) | ((with_reducible refine' ex_st ?h1 ?h2); (case h1 => assumption); (case h2 => walk_at "st")))
local macro_rules | `(tactic| walk_at "new") => `(tactic| (intro p hp; generalize hU : upd _ p _ = H'; have e1 := new_ex hp hU; have e2 := new_at hU; clear hU))
local macro_rules | `(tactic| walk_at "set") => `(tactic| ((try simp only [List.set_cons_succ, List.set_cons_zero]); rfl))
local macro_rules | `(tactic| walk_at "small") => `(tactic| first | assumption | (rw [sizeLine_eq]; (try simp only [List.length_cons, List.length_nil, str_len_app, sign_len]); omega) | (with_unfolding_all decide))
local macro_rules | `(tactic| walk_at "sc") => `(tactic| first | assumption | decide | omega | (unfold CMul; omega) | (unfold CDiv; omega) | (unfold CPow; decide) | (unfold CDiv; decide))
local macro_rules | `(tactic| walk_at "step") => `(tactic| first
  | with_reducible refine' w_seq ?_
  | with_reducible refine' w_op ?_
  | ((with_reducible refine' w_var ?h ?_); (case h => rfl))
  | with_reducible refine' w_c ?_
  | with_reducible refine' w_i0 ?_
  | with_reducible refine' w_cons ?_
  | with_reducible refine' w_nil ?_
  | with_reducible refine' w_asg ?_
  | ((with_reducible refine' w_gn ?e ?_); (case e => walk_at "set"))
  | with_reducible refine' w_ifS ?_
  | with_reducible refine' w_test ?_
  | with_reducible refine' w_tB ?_
  | with_reducible refine' w_bl ?_
  | with_reducible refine' w_int ?_
  | with_reducible refine' w_ref ?_
  | with_reducible refine' w_str ?_
  | with_reducible refine' w_eqI ?_
  | with_reducible refine' w_neI ?_
  | with_reducible refine' w_eqS ?_
  | with_reducible refine' w_neS ?_
  | with_reducible refine' w_ret ?_
  | with_reducible refine' w_for ?_
  | with_reducible refine' w_tFld ?_
  | ((with_reducible refine' w_fld ?h ?c ?n ?l ?_); (case h => walk_at "hk"); (case c => assumption); (case n => assumption); (case l => rfl))
  | with_reducible refine' w_sFld ?_
  | ((with_reducible refine' w_rsFld ?h ?c ?n ?l ?e ?_); (case h => walk_at "hk"); (case c => assumption); (case n => assumption); (case e => walk_at "putf"); (case l => (simp only [List.length_cons, List.length_nil]; omega)))
  | with_reducible refine' w_tDGet ?_
  | with_reducible refine' w_tDIn ?_
  | with_reducible refine' w_tDNotIn ?_
  | ((with_reducible refine' w_dinI ?h ?_); (case h => walk_at "hk"))
  | with_reducible refine' w_sDPut ?_
  | with_reducible refine' w_bm ?_
  | with_reducible refine' w_bm0 ?_
  | ((with_reducible refine' w_tyL ?h ?_); (case h => walk_at "sq"))
  | with_reducible refine' w_iRev ?_
  | ((with_reducible refine' w_rev1 ?h ?_); (case h => walk_at "sq"))
  | with_reducible refine' w_iItems ?_
  | with_reducible refine' w_iKeys ?_
  | with_reducible refine' w_iRng3 ?_
  | with_reducible refine' w_iZip ?_
  | with_reducible refine' w_gCons ?_
  | with_reducible refine' w_gNil ?_
  | ((with_reducible refine' w_gTup ?h ?l ?_); (case h => walk_at "st"); (case l => rfl))
  | with_reducible refine' w_m1 ?_
  | with_reducible refine' w_isS ?_
  | with_reducible refine' w_lc ?_
  | with_reducible refine' w_iList ?_
  | with_reducible refine' w_iTup ?_
  | with_reducible refine' w_iStr ?_
  | with_reducible refine' w_iRng1 ?_
  | with_reducible refine' w_iRng2 ?_
  | with_reducible refine' w_v1I ?_
  | with_reducible refine' w_v2I ?_
  | with_reducible refine' w_next ?_
  | with_reducible refine' w_call ?_
  | with_reducible refine' w_cb ?_
  | with_reducible refine' w_and ?_
  | with_reducible refine' w_or ?_
  | with_reducible refine' w_not ?_
  | with_reducible refine' w_andV ?_
  | with_reducible refine' w_orV ?_
  | with_reducible refine' w_notV ?_
  | with_reducible refine' w_ifE ?_
  | with_reducible refine' w_drop ?_
  | with_reducible refine' w_un ?_
  | with_reducible refine' w_u ?_
  | with_reducible refine' w_isNN ?_
  | with_reducible refine' w_isNI ?_
  | with_reducible refine' w_isNS ?_
  | with_reducible refine' w_isNR ?_
  | with_reducible refine' w_notNN ?_
  | with_reducible refine' w_notNI ?_
  | with_reducible refine' w_notNS ?_
  | with_reducible refine' w_notNR ?_
  | with_reducible refine' w_int1 ?_
  | with_reducible refine' w_int1b ?_
  | with_reducible refine' w_tup ?_
  | with_reducible refine' w_lst ?_
  | with_reducible refine' w_dnew ?_
  | with_reducible refine' w_sl ?_
  | with_reducible refine' w_noPart ?_
  | with_reducible refine' w_part ?_
  | with_reducible refine' w_retN ?_
  | with_reducible refine' w_brk ?_
  | with_reducible refine' w_cont ?_
  | with_reducible refine' w_chain ?_
  | with_reducible refine' w_lt ?_
  | with_reducible refine' w_le ?_
  | with_reducible refine' w_gt ?_
  | with_reducible refine' w_ge ?_
  | with_reducible refine' w_ltS ?_
  | with_reducible refine' w_leS ?_
  | with_reducible refine' w_gtS ?_
  | with_reducible refine' w_geS ?_
  | ((with_reducible refine' w_addS ?h ?_); (case h => walk_at "small"))
  | with_reducible refine' w_inS ?_
  | with_reducible refine' w_ninS ?_
  | with_reducible refine' w_par ?_
  | with_reducible refine' w_v2 ?_
  | with_reducible refine' w_max2 ?_
  | with_reducible refine' w_min2 ?_
  | with_reducible refine' w_tru ?_
  | with_reducible refine' w_meth ?_
  | ((with_reducible refine' w_meth1 ?h ?l ?_); (case h => walk_at "hk"); (case l => rfl))
  | with_reducible refine' w_make ?_
  | ((with_reducible refine' w_isiI ?h ?_); (case h => walk_at "kit"))
  | ((with_reducible refine' w_isiB ?h ?_); (case h => walk_at "kit"))
  | ((with_reducible refine' w_isiN ?h ?_); (case h => walk_at "kit"))
  | ((with_reducible refine' w_isiS ?h ?_); (case h => walk_at "kit"))
  | ((with_reducible refine' w_isiSL ?h ?e ?_); (case h => walk_at "sq"); (case e => walk_at "kit"))
  | ((with_reducible refine' w_isiST ?h ?e ?_); (case h => walk_at "st"); (case e => walk_at "kit"))
  | ((with_reducible refine' w_i ?h ?_); (case h => walk_at "sc"))
  | with_reducible refine' w_ttL ?_
  | with_reducible refine' w_ffL ?_
  | ((with_reducible refine' w_tt ?h ?_); (case h => first | exact dB_t (by decide) | exact nB_t (by decide) | decide))
  | ((with_reducible refine' w_ff ?h ?_); (case h => first | exact dB_f (by decide) | exact nB_f (by decide) | decide))
  | ((with_reducible refine' w_lenS ?h ?_); (case h => walk_at "sq"))
  | ((with_reducible refine' w_lenT ?h ?_); (case h => walk_at "st"))
  | ((with_reducible refine' w_slL ?h ?_); (case h => walk_at "sq"))
  | ((with_reducible refine' w_aug ?h ?_); (case h => rfl))
  | with_reducible refine' w_ip ?_
  | ((with_reducible refine' w_cat ?h1 ?h2 ?h3 ?_); (case h1 => walk_at "hk"); (case h2 => walk_at "hk"); (case h3 => walk_at "small"))
  | ((with_reducible refine' w_ixL ?h1 ?h2 ?_); (case h1 => walk_at "sq"); (case h2 => rfl))
  | ((with_reducible refine' w_ixT ?h1 ?h2 ?_); (case h1 => walk_at "st"); (case h2 => rfl))
  | ((with_reducible refine' w_lenStr ?h ?_); (case h => walk_at "small"))
  | ((with_reducible refine' w_slS ?h ?_); (case h => walk_at "small"))
  | ((with_reducible refine' w_sz ?h ?_); (case h => walk_at "small")))
local macro_rules | `(tactic| walk_at "go") => `(tactic| (repeat (first | walk_at "step" | walk_at "callx")))
local macro_rules | `(tactic| walk_at "goN") => `(tactic| (repeat (first | walk_at "step" | walk_at "callx" | ((with_reducible show ∀ p, _ = none → _); walk_at "new"))))
local macro_rules | `(tactic| walk_at "len") => `(tactic| first
  | (obtain ⟨rfl, _⟩ := h; rfl) | (obtain ⟨_, rfl, _⟩ := h; rfl) | (obtain ⟨_, _, rfl, _⟩ := h; rfl) | (obtain ⟨_, _, _, rfl, _⟩ := h; rfl) | (obtain ⟨_, _, _, _, rfl, _⟩ := h; rfl)
  | (obtain ⟨_, _, _, _, _, rfl, _⟩ := h; rfl) | (obtain ⟨_, _, _, _, _, _, rfl, _⟩ := h; rfl) | (obtain ⟨_, _, _, _, _, _, _, rfl, _⟩ := h; rfl) | (obtain ⟨_, _, _, _, _, _, _, _, rfl, _⟩ := h; rfl)
  | (obtain ⟨_, _, _, _, _, _, _, _, _, rfl, _⟩ := h; rfl) | (obtain ⟨_, _, _, _, _, _, _, _, _, _, rfl, _⟩ := h; rfl))
local macro_rules | `(tactic| walk_at "dec") => `(tactic| (first | with_reducible apply w_dec | with_reducible apply w_ndec | with_reducible apply w_bool) <;> intro hc)
def nice : Nat → PyData → Bool
  | 0, _ => false
  | _ + 1, .int _ => true
  | _ + 1, .str _ => true
  | n + 1, .list ds => decide (ds.length ≤ 100000) && ds.all (nice n)
  | n + 1, .tuple ds => decide (ds.length ≤ 100000) && ds.all (nice n)
  | _ + 1, _ => false
def spN_l_alike (n : Nat) (d : Ad) : Sp := fun vs H Q _ => ∃ (x y : V), vs = [x, y] ∧ ∃ dd, Dp d.K H x dd ∧ Dp d.K H y dd ∧ nice n dd = true ∧ Q (.bl true) H
abbrev sp_l_alike (d : Ad) : Sp := spN_l_alike 8 d
theorem no_l_alike {d : Ad} {vs : List V} {H : Hp} {Q : VK} {E : XK} (h : spN_l_alike 0 d vs H Q E) : False := by
  obtain ⟨x, y, _, dd, _, _, h, _⟩ := h
  cases h
abbrev N_l_alike : List Str := ["_law_found", "_law_due", "_law_k"]
def t_l_alike (n : Nat) (d : Ad) : TS :=
  (tSeq (tIfS (tB (tCB (rIsi d.K) (tCons (tVar 1) (tCons (tC (.ty "int")) tNil)))) (tRet (tAndV (tCB (rIsi d.K) (tCons (tVar 0) (tCons (tC (.ty "int")) tNil))) (tAndV (tNotV (tCB (rIsi d.K) (tCons (tVar 0) (tCons (tC (.ty "bool")) tNil)))) (tOp rEq (tVar 0) (tVar 1))))) tNext)
  (tSeq (tIfS (tB (tCB (rIsi d.K) (tCons (tVar 1) (tCons (tC (.ty "str")) tNil)))) (tRet (tAndV (tCB (rIsi d.K) (tCons (tVar 0) (tCons (tC (.ty "str")) tNil))) (tOp rEq (tVar 0) (tVar 1)))) tNext)
  (tSeq (tIfS (tB (tCB (rIsi d.K) (tCons (tVar 1) (tCons (tC (.ty "tuple")) tNil)))) (tIfS (tNot (tB (tCB (rIsi d.K) (tCons (tVar 0) (tCons (tC (.ty "tuple")) tNil))))) (tRet (tC (.bl false))) tNext) (tIfS (tNot (tB (tCB (rIsi d.K) (tCons (tVar 0) (tCons (tC (.ty "list")) tNil))))) (tRet (tC (.bl false))) tNext))
  (tSeq (tIfS (tTest (tOp rNe (tCB (Evl.rLenS d.K) (tCons (tVar 0) tNil)) (tCB (Evl.rLenS d.K) (tCons (tVar 1) tNil)))) (tRet (tC (.bl false))) tNext)
  (tSeq (tFor (iRng1 (tCons (tCB (Evl.rLenS d.K) (tCons (tVar 1) tNil)) tNil)) (gName 2) (tIfS (tNot (tB (tCall (spN_l_alike n d) [] E0 (tCons (tOp (rIx d.K) (tVar 0) (tVar 2)) (tCons (tOp (rIx d.K) (tVar 1) (tVar 2)) tNil))))) (tRet (tC (.bl false))) tNext))
  (tRet (tC (.bl true))))))))
local macro_rules | `(tactic| walk_at "callx") => `(tactic| fail)
theorem dpAll_len {K : PySem.W.Frag} {H : Hp} : ∀ {vs : List V} {ds : List PyData}, DpAll K H vs ds → vs.length = ds.length
  | [], [], _ => rfl
  | _ :: _, _ :: _, h => by cases h with | cons _ h2 => simp [dpAll_len h2]
  | [], _ :: _, h => by cases h
  | _ :: _, [], h => by cases h
theorem dpAll_get {K : PySem.W.Frag} {H : Hp} : ∀ {vs : List V} {ds : List PyData} {i : Nat} {v : V}, DpAll K H vs ds → vs[i]? = some v → ∃ e, ds[i]? = some e ∧ Dp K H v e
  | _, _, _, _, .nil, e => by simp at e
  | _, _, 0, _, .cons r _, e => by simp at e; subst e; exact ⟨_, rfl, r⟩
  | _, _, i + 1, x, .cons _ t, e => by
    obtain ⟨u, h1, h2⟩ := dpAll_get (i := i) (v := x) t (by simpa using e)
    exact ⟨u, by simpa using h1, h2⟩
section
variable {n : Nat} {d : Ad} {vs : List V} {H : Hp} {Q : VK} {E : XK}
theorem c_alike {x y : V} {dd : PyData} (h1 : Dp d.K H x dd) (h2 : Dp d.K H y dd) (h3 : nice n dd = true) (q : Q (.bl true) H) : spN_l_alike n d [x, y] H Q E := ⟨x, y, rfl, dd, h1, h2, h3, q⟩
theorem pure_l_alike (h : spN_l_alike (n + 1) d vs H Q E) : t_l_alike n d { nx := fun _ H' => Q .non H', rt := Q } (start N_l_alike vs) H := by
  obtain ⟨x, y, rfl, dd, h1, h2, h3, k⟩ := h
  show t_l_alike n d _ [some x, some y, none] H
  unfold t_l_alike
  cases dd with
  | none => cases h3
  | bool b => cases h3
  | dict _ => cases h3
  | int i =>
    cases h1; cases h2
    walk_at "go"
    rw [dB_t rfl]
    exact k
  | str s =>
    cases h1; cases h2
    walk_at "go"
    rw [dB_t rfl]
    exact k
  | list ds =>
    obtain ⟨h3, h4⟩ := Bool.and_eq_true_iff.mp h3
    have h3 := of_decide_eq_true h3
    cases h1 with | @lst a xs _ hs1 ha1 =>
    cases h2 with | @lst b ys _ hs2 ha2 =>
    have l1 := dpAll_len ha1
    have l2 := dpAll_len ha2
    walk_at "go"
    refine w_ff (nB_f (by omega)) ?_
    walk_at "go"
    refine f_rng (by omega) (by omega) (fun i σ H' => H' = H ∧ ∃ z, σ = [some (.ref a), some (.ref b), z]) ⟨rfl, _, rfl⟩ ?_ ?_
    · rintro i σ H1 hi ⟨rfl, z, rfl⟩
      have hx := List.getElem?_eq_getElem (l := xs) (i := i) (by omega)
      have hy := List.getElem?_eq_getElem (l := ys) (i := i) (by omega)
      obtain ⟨e1, q1, q2⟩ := dpAll_get ha1 hx
      obtain ⟨e2, q3, q4⟩ := dpAll_get ha2 hy
      rw [q1] at q3; cases q3
      walk_at "go"
      refine w_ixAL hs1 (atI_nat hx) ?_
      walk_at "go"
      refine w_ixAL hs2 (atI_nat hy) ?_
      walk_at "go"
      refine c_alike q2 q4 (List.all_eq_true.mp h4 _ (List.mem_of_getElem? q1)) ?_
      walk_at "go"
      exact ⟨rfl, _, rfl⟩
    · rintro σ H1 ⟨rfl, z, rfl⟩
      walk_at "go"
      exact k
  | tuple ds =>
    obtain ⟨h3, h4⟩ := Bool.and_eq_true_iff.mp h3
    have h3 := of_decide_eq_true h3
    cases h1 with | @tup a xs _ hs1 ha1 =>
    cases h2 with | @tup b ys _ hs2 ha2 =>
    have l1 := dpAll_len ha1
    have l2 := dpAll_len ha2
    walk_at "go"
    refine w_ff (nB_f (by omega)) ?_
    walk_at "go"
    refine f_rng (by omega) (by omega) (fun i σ H' => H' = H ∧ ∃ z, σ = [some (.ref a), some (.ref b), z]) ⟨rfl, _, rfl⟩ ?_ ?_
    · rintro i σ H1 hi ⟨rfl, z, rfl⟩
      have hx := List.getElem?_eq_getElem (l := xs) (i := i) (by omega)
      have hy := List.getElem?_eq_getElem (l := ys) (i := i) (by omega)
      obtain ⟨e1, q1, q2⟩ := dpAll_get ha1 hx
      obtain ⟨e2, q3, q4⟩ := dpAll_get ha2 hy
      rw [q1] at q3; cases q3
      walk_at "go"
      refine w_ixAT hs1 (atI_nat hx) ?_
      walk_at "go"
      refine w_ixAT hs2 (atI_nat hy) ?_
      walk_at "go"
      refine c_alike q2 q4 (List.all_eq_true.mp h4 _ (List.mem_of_getElem? q1)) ?_
      walk_at "go"
      exact ⟨rfl, _, rfl⟩
    · rintro σ H1 ⟨rfl, z, rfl⟩
      walk_at "go"
      exact k
end
end RT

set_option Elab.async false
set_option linter.all false
set_option maxRecDepth 100000
set_option maxHeartbeats 1000000
set_option autoImplicit false
namespace RT
open PySem L2
def vd : V → PyData
  | .str s => .str s
  | .int n => .int n
  | _ => .none
def sc1 : V → Bool
  | .str _ => true
  | .int _ => true
  | _ => false
def rowD (r : List V) : PyData := .tuple (r.map vd)
def rowsD (rs : Rows) : PyData := .list (rs.map rowD)
def okR (r : List V) : Prop := r.length ≤ 20 ∧ ∀ v ∈ r, sc1 v = true
theorem okR_plain (p : Pt) : okR (plainRow p) := by
  cases p <;> refine ⟨by simp [plainRow], fun v hv => ?_⟩ <;> simp only [plainRow, List.mem_cons, List.not_mem_nil, or_false] at hv <;> rcases hv with rfl | rfl | rfl | rfl <;> rfl
theorem okR_two {hd : List V} {one : Rows} {f : Nat} {o : Nat → Rows} (h : hd.length ≤ 10 ∧ ∀ v ∈ hd, sc1 v = true) (h1 : ∀ r ∈ one, okR r) (h2 : ∀ t, ∀ r ∈ o t, okR r) : ∀ r ∈ twoM hd one f o, okR r := by
  intro r hr
  unfold twoM at hr
  simp only [List.mem_append, List.mem_singleton] at hr
  rcases hr with ((rfl | hr) | rfl) | hr
  · refine ⟨by rw [List.length_append, List.length_singleton]; omega, fun v hv => ?_⟩
    rcases List.mem_append.mp hv with hv | hv
    · exact h.2 v hv
    · rw [List.mem_singleton.mp hv]; rfl
  · exact h1 r hr
  · refine ⟨by simp, fun v hv => ?_⟩
    simp only [List.mem_cons, List.not_mem_nil, or_false] at hv
    rcases hv with rfl | rfl <;> rfl
  · exact h2 _ r hr
theorem sc_list {l : List V} (h : (l.all sc1) = true) : ∀ v ∈ l, sc1 v = true := List.all_eq_true.mp h
mutual
theorem okR_part : ∀ (p : Pt) (f : Nat), ∀ r ∈ partRows p f, okR r
  | .iff s ps os, f => by
    rw [partRows]
    exact okR_two ⟨by simp, sc_list rfl⟩ (okR_from ps _) (fun t => okR_from os t)
  | .eith ps os, f => by
    rw [partRows]
    refine okR_two ⟨by simp, sc_list rfl⟩ (fun r hr => ?_) (fun t => okR_from os t)
    rcases List.mem_append.mp hr with hr | hr
    · exact okR_from ps _ r hr
    · rw [List.mem_singleton.mp hr]; exact ⟨by simp, sc_list rfl⟩
  | .tryy ps n s os, f => by
    rw [partRows]
    refine okR_two ⟨by simp, sc_list rfl⟩ (fun r hr => ?_) (fun t => okR_from os t)
    rcases List.mem_append.mp hr with hr | hr
    · exact okR_from ps _ r hr
    · rw [List.mem_singleton.mp hr]; exact ⟨by simp, sc_list rfl⟩
  | .let_ s n, _ => fun r hr => by rw [partRows] at hr; rw [List.mem_singleton.mp hr]; exact okR_plain _
  | .rk w s o t, _ => fun r hr => by rw [partRows] at hr; rw [List.mem_singleton.mp hr]; exact okR_plain _
  | .take s p, _ => fun r hr => by rw [partRows] at hr; rw [List.mem_singleton.mp hr]; exact okR_plain _
  | .put p s, _ => fun r hr => by rw [partRows] at hr; rw [List.mem_singleton.mp hr]; exact okR_plain _
  | .throw n s, _ => fun r hr => by rw [partRows] at hr; rw [List.mem_singleton.mp hr]; exact okR_plain _
  | .wait, _ => fun r hr => by rw [partRows] at hr; rw [List.mem_singleton.mp hr]; exact okR_plain _
theorem okR_from : ∀ (ps : List Pt) (f : Nat), ∀ r ∈ rowsFrom ps f, okR r
  | [], _ => fun r hr => by rw [rowsFrom] at hr; cases hr
  | p :: q, f => fun r hr => by
    rw [rowsFrom] at hr
    rcases List.mem_append.mp hr with hr | hr
    · exact okR_part p _ r hr
    · exact okR_from q _ r hr
end
theorem dp_vs {K : PySem.W.Frag} {S : Hp} : ∀ {r : List V}, (∀ v ∈ r, sc1 v = true) → DpAll K S r (r.map vd)
  | [], _ => .nil
  | v :: r, h => by
    have h1 := h v (by simp)
    have h2 := dp_vs (K := K) (S := S) (r := r) fun w hw => h w (List.mem_cons_of_mem _ hw)
    cases v <;> first | exact .cons (.str _) h2 | exact .cons (.int _) h2 | cases h1
theorem dp_row {K : PySem.W.Frag} {S : Hp} {t : Addr} {r : List V} (h : S t = some (.tup r)) (o : okR r) : Dp K S (.ref t) (rowD r) := .tup (SqT.of h) (dp_vs o.2)
theorem dp_rowsA {K : PySem.W.Frag} {B S : Hp} : ∀ {xs : List V} {rs : Rows}, RowsAt B S xs rs → (∀ r ∈ rs, okR r) → DpAll K S xs (rs.map rowD)
  | [], [], _, _ => .nil
  | [], _ :: _, h, _ => by cases h.len
  | _ :: _, [], h, _ => by cases h.len
  | x :: xs, r :: rs, h, o => by
    obtain ⟨t, rfl, _, ht⟩ := h.at' 0 x r rfl rfl
    exact .cons (dp_row ht (o r (by simp))) (dp_rowsA (B := B) ⟨by simpa using h.len, fun i v q h1 h2 => h.at' (i + 1) v q (by simpa using h1) (by simpa using h2)⟩ fun q hq => o q (List.mem_cons_of_mem _ hq))
theorem dp_rows {K : PySem.W.Frag} {B S : Hp} {l : Addr} {xs : List V} {rs : Rows} (hl : S l = some (.lst xs)) (h : RowsAt B S xs rs) (o : ∀ r ∈ rs, okR r) : Dp K S (.ref l) (rowsD rs) := .lst (SqL.of hl) (dp_rowsA h o)
theorem nice_vs {r : List V} (h : ∀ v ∈ r, sc1 v = true) (n : Nat) : (r.map vd).all (nice (n + 1)) = true := by
  rw [List.all_map]
  refine List.all_eq_true.mpr fun v hv => ?_
  have := h v hv
  cases v <;> first | rfl | cases this
theorem nice_row {r : List V} (o : okR r) (n : Nat) : nice (n + 2) (rowD r) = true := by
  unfold rowD nice
  rw [List.length_map, decide_eq_true (by have := o.1; omega), nice_vs o.2 n]
  rfl
theorem nice_rows {rs : Rows} (o : ∀ r ∈ rs, okR r) (h : rs.length ≤ 100000) : nice 8 (rowsD rs) = true := by
  unfold rowsD nice
  rw [List.length_map, decide_eq_true h, List.all_map]
  exact List.all_eq_true.mpr fun r hr => nice_row (o r hr) 5
end RT

set_option Elab.async false
set_option linter.all false
set_option maxRecDepth 100000
set_option maxHeartbeats 1000000
set_option autoImplicit false
namespace RT
open PySem L2
local macro_rules | `(tactic| walk_at "putf") => `(tactic| first | exact putF_nil | exact putF_hit | exact putF_miss (by decide) (by walk_at "putf"))
local macro_rules | `(tactic| walk_at "ne") => `(tactic| first | assumption | exact Ne.symm (by assumption) | ((refine' ne2 ?h1 ?h2); (case h1 => assumption); (case h2 => walk_at "hk")) | ((refine' ne2s ?h1 ?h2); (case h1 => assumption); (case h2 => walk_at "hk")) | exact ne_head (by assumption) | exact ne_of (by assumption) (by assumption) (by intro z; cases z))
local macro_rules | `(tactic| walk_at "hk") => `(tactic| first | assumption | with_reducible exact upd_same | ((with_reducible refine' up_ne ?h1 ?h2); (case h1 => walk_at "ne"); (case h2 => walk_at "hk")) | ((with_reducible refine' ex_at ?h1 ?h2); (case h1 => assumption); (case h2 => walk_at "hk")))
local macro_rules | `(tactic| walk_at "kit") => `(tactic| first | exact kit_int_int | exact kit_int_bool | exact kit_int_str | exact kit_int_list | exact kit_int_tuple | exact kit_int_dict | exact kit_bool_int | exact kit_bool_bool | exact kit_bool_str | exact kit_bool_list | exact kit_bool_tuple | exact kit_bool_dict | exact kit_str_int | exact kit_str_bool | exact kit_str_str | exact kit_str_list | exact kit_str_tuple | exact kit_str_dict | exact kit_NoneType_int | exact kit_NoneType_bool | exact kit_NoneType_str | exact kit_NoneType_list | exact kit_NoneType_tuple | exact kit_NoneType_dict | exact kit_list_int | exact kit_list_bool | exact kit_list_str | exact kit_list_list | exact kit_list_tuple | exact kit_list_dict | exact kit_tuple_int | exact kit_tuple_bool | exact kit_tuple_str | exact kit_tuple_list | exact kit_tuple_tuple | exact kit_tuple_dict | exact kit_dict_int | exact kit_dict_bool | exact kit_dict_str | exact kit_dict_list | exact kit_dict_tuple | exact kit_dict_dict)
local macro_rules | `(tactic| walk_at "sq") => `(tactic| first | assumption | ((with_reducible refine' SqL.of ?h); (case h => walk_at "hk")) | ((with_reducible refine' ex_sq ?h1 ?h2); (case h1 => assumption); (case h2 => walk_at "sq")))
local macro_rules | `(tactic| walk_at "st") => `(tactic| first | assumption | ((with_reducible refine' SqT.of ?h); (case h => walk_at "hk")) | ((with_reducible refine' ex_st ?h1 ?h2); (case h1 => assumption); (case h2 => walk_at "st")))
local macro_rules | `(tactic| walk_at "new") => `(tactic| (intro p hp; generalize hU : upd _ p _ = H'; have e1 := new_ex hp hU; have e2 := new_at hU; clear hU))
local macro_rules | `(tactic| walk_at "set") => `(tactic| ((try simp only [List.set_cons_succ, List.set_cons_zero]); rfl))
local macro_rules | `(tactic| walk_at "small") => `(tactic| first | assumption | (rw [sizeLine_eq]; (try simp only [List.length_cons, List.length_nil, str_len_app, sign_len]); omega) | (with_unfolding_all decide))
local macro_rules | `(tactic| walk_at "sc") => `(tactic| first | assumption | decide | omega | (unfold CMul; omega) | (unfold CDiv; omega) | (unfold CPow; decide) | (unfold CDiv; decide))
local macro_rules | `(tactic| walk_at "step") => `(tactic| first
  | with_reducible refine' w_seq ?_
  | with_reducible refine' w_op ?_
  | ((with_reducible refine' w_var ?h ?_); (case h => rfl))
  | with_reducible refine' w_c ?_
  | with_reducible refine' w_i0 ?_
  | with_reducible refine' w_cons ?_
  | with_reducible refine' w_nil ?_
  | with_reducible refine' w_asg ?_
  | ((with_reducible refine' w_gn ?e ?_); (case e => walk_at "set"))
  | with_reducible refine' w_ifS ?_
  | with_reducible refine' w_test ?_
  | with_reducible refine' w_tB ?_
  | with_reducible refine' w_bl ?_
  | with_reducible refine' w_int ?_
  | with_reducible refine' w_ref ?_
  | with_reducible refine' w_str ?_
  | with_reducible refine' w_eqI ?_
  | with_reducible refine' w_neI ?_
  | with_reducible refine' w_eqS ?_
  | with_reducible refine' w_neS ?_
  | with_reducible refine' w_ret ?_
  | with_reducible refine' w_for ?_
  | with_reducible refine' w_tFld ?_
  | ((with_reducible refine' w_fld ?h ?c ?n ?l ?_); (case h => walk_at "hk"); (case c => assumption); (case n => assumption); (case l => rfl))
  | with_reducible refine' w_sFld ?_
  | ((with_reducible refine' w_rsFld ?h ?c ?n ?l ?e ?_); (case h => walk_at "hk"); (case c => assumption); (case n => assumption); (case e => walk_at "putf"); (case l => (simp only [List.length_cons, List.length_nil]; omega)))
  | with_reducible refine' w_tDGet ?_
  | with_reducible refine' w_tDIn ?_
  | with_reducible refine' w_tDNotIn ?_
  | ((with_reducible refine' w_dinI ?h ?_); (case h => walk_at "hk"))
  | with_reducible refine' w_sDPut ?_
  | with_reducible refine' w_bm ?_
  | with_reducible refine' w_bm0 ?_
  | ((with_reducible refine' w_tyL ?h ?_); (case h => walk_at "sq"))
  | with_reducible refine' w_iRev ?_
  | ((with_reducible refine' w_rev1 ?h ?_); (case h => walk_at "sq"))
  | with_reducible refine' w_iItems ?_
  | with_reducible refine' w_iKeys ?_
  | with_reducible refine' w_iRng3 ?_
  | with_reducible refine' w_iZip ?_
  | with_reducible refine' w_gCons ?_
  | with_reducible refine' w_gNil ?_
  | ((with_reducible refine' w_gTup ?h ?l ?_); (case h => walk_at "st"); (case l => rfl))
  | with_reducible refine' w_m1 ?_
  | with_reducible refine' w_isS ?_
  | with_reducible refine' w_lc ?_
  | with_reducible refine' w_iList ?_
  | with_reducible refine' w_iTup ?_
  | with_reducible refine' w_iStr ?_
  | with_reducible refine' w_iRng1 ?_
  | with_reducible refine' w_iRng2 ?_
  | with_reducible refine' w_v1I ?_
  | with_reducible refine' w_v2I ?_
  | with_reducible refine' w_next ?_
  | with_reducible refine' w_call ?_
  | with_reducible refine' w_cb ?_
  | with_reducible refine' w_and ?_
  | with_reducible refine' w_or ?_
  | with_reducible refine' w_not ?_
  | with_reducible refine' w_andV ?_
  | with_reducible refine' w_orV ?_
  | with_reducible refine' w_notV ?_
  | with_reducible refine' w_ifE ?_
  | with_reducible refine' w_drop ?_
  | with_reducible refine' w_un ?_
  | with_reducible refine' w_u ?_
  | with_reducible refine' w_isNN ?_
  | with_reducible refine' w_isNI ?_
  | with_reducible refine' w_isNS ?_
  | with_reducible refine' w_isNR ?_
  | with_reducible refine' w_notNN ?_
  | with_reducible refine' w_notNI ?_
  | with_reducible refine' w_notNS ?_
  | with_reducible refine' w_notNR ?_
  | with_reducible refine' w_int1 ?_
  | with_reducible refine' w_int1b ?_
  | with_reducible refine' w_tup ?_
  | with_reducible refine' w_lst ?_
  | with_reducible refine' w_dnew ?_
  | with_reducible refine' w_sl ?_
  | with_reducible refine' w_noPart ?_
  | with_reducible refine' w_part ?_
  | with_reducible refine' w_retN ?_
  | with_reducible refine' w_brk ?_
  | with_reducible refine' w_cont ?_
  | with_reducible refine' w_chain ?_
  | with_reducible refine' w_lt ?_
  | with_reducible refine' w_le ?_
  | with_reducible refine' w_gt ?_
  | with_reducible refine' w_ge ?_
  | with_reducible refine' w_ltS ?_
  | with_reducible refine' w_leS ?_
  | with_reducible refine' w_gtS ?_
  | with_reducible refine' w_geS ?_
  | ((with_reducible refine' w_addS ?h ?_); (case h => walk_at "small"))
  | with_reducible refine' w_inS ?_
  | with_reducible refine' w_ninS ?_
  | with_reducible refine' w_par ?_
  | with_reducible refine' w_v2 ?_
  | with_reducible refine' w_max2 ?_
  | with_reducible refine' w_min2 ?_
  | with_reducible refine' w_tru ?_
  | with_reducible refine' w_meth ?_
  | ((with_reducible refine' w_meth1 ?h ?l ?_); (case h => walk_at "hk"); (case l => rfl))
  | with_reducible refine' w_make ?_
  | ((with_reducible refine' w_isiI ?h ?_); (case h => walk_at "kit"))
  | ((with_reducible refine' w_isiB ?h ?_); (case h => walk_at "kit"))
  | ((with_reducible refine' w_isiN ?h ?_); (case h => walk_at "kit"))
  | ((with_reducible refine' w_isiS ?h ?_); (case h => walk_at "kit"))
  | ((with_reducible refine' w_isiSL ?h ?e ?_); (case h => walk_at "sq"); (case e => walk_at "kit"))
  | ((with_reducible refine' w_isiST ?h ?e ?_); (case h => walk_at "st"); (case e => walk_at "kit"))
  | ((with_reducible refine' w_i ?h ?_); (case h => walk_at "sc"))
  | with_reducible refine' w_ttL ?_
  | with_reducible refine' w_ffL ?_
  | ((with_reducible refine' w_tt ?h ?_); (case h => first | exact dB_t (by decide) | exact nB_t (by decide) | decide))
  | ((with_reducible refine' w_ff ?h ?_); (case h => first | exact dB_f (by decide) | exact nB_f (by decide) | decide))
  | ((with_reducible refine' w_lenS ?h ?_); (case h => walk_at "sq"))
  | ((with_reducible refine' w_lenT ?h ?_); (case h => walk_at "st"))
  | ((with_reducible refine' w_slL ?h ?_); (case h => walk_at "sq"))
  | ((with_reducible refine' w_aug ?h ?_); (case h => rfl))
  | with_reducible refine' w_ip ?_
  | ((with_reducible refine' w_cat ?h1 ?h2 ?h3 ?_); (case h1 => walk_at "hk"); (case h2 => walk_at "hk"); (case h3 => walk_at "small"))
  | ((with_reducible refine' w_ixL ?h1 ?h2 ?_); (case h1 => walk_at "sq"); (case h2 => rfl))
  | ((with_reducible refine' w_ixT ?h1 ?h2 ?_); (case h1 => walk_at "st"); (case h2 => rfl))
  | ((with_reducible refine' w_lenStr ?h ?_); (case h => walk_at "small"))
  | ((with_reducible refine' w_slS ?h ?_); (case h => walk_at "small"))
  | ((with_reducible refine' w_sz ?h ?_); (case h => walk_at "small")))
local macro_rules | `(tactic| walk_at "go") => `(tactic| (repeat (first | walk_at "step" | walk_at "callx")))
local macro_rules | `(tactic| walk_at "goN") => `(tactic| (repeat (first | walk_at "step" | walk_at "callx" | ((with_reducible show ∀ p, _ = none → _); walk_at "new"))))
local macro_rules | `(tactic| walk_at "len") => `(tactic| first
  | (obtain ⟨rfl, _⟩ := h; rfl) | (obtain ⟨_, rfl, _⟩ := h; rfl) | (obtain ⟨_, _, rfl, _⟩ := h; rfl) | (obtain ⟨_, _, _, rfl, _⟩ := h; rfl) | (obtain ⟨_, _, _, _, rfl, _⟩ := h; rfl)
  | (obtain ⟨_, _, _, _, _, rfl, _⟩ := h; rfl) | (obtain ⟨_, _, _, _, _, _, rfl, _⟩ := h; rfl) | (obtain ⟨_, _, _, _, _, _, _, rfl, _⟩ := h; rfl) | (obtain ⟨_, _, _, _, _, _, _, _, rfl, _⟩ := h; rfl)
  | (obtain ⟨_, _, _, _, _, _, _, _, _, rfl, _⟩ := h; rfl) | (obtain ⟨_, _, _, _, _, _, _, _, _, _, rfl, _⟩ := h; rfl))
local macro_rules | `(tactic| walk_at "dec") => `(tactic| (first | with_reducible apply w_dec | with_reducible apply w_ndec | with_reducible apply w_bool) <;> intro hc)
def lt1 (n : Nat) : Str := ⟨#[n]⟩
def az : Str := "abcdefghijklmnopqrstuvwxyz"
def ah : Str := "abcdefgh"
theorem az_codes : az.cps.toList = (List.range 26).map (97 + ·) := by decide +kernel
theorem ah_codes : ah.cps.toList = (List.range 8).map (97 + ·) := by decide +kernel
section
variable {K : PySem.W.Frag} {H : Hp} {Q : VK}
theorem atI_codes {l : List Nat} {n : Nat} (e : l = (List.range n).map (97 + ·)) {i : Int} (h0 : 0 ≤ i) (h1 : i < n) : atI l i = some (97 + i.toNat) := by
  subst e
  have e2 : ((i.toNat : Nat) : Int) = i := by omega
  rw [← e2]
  refine atI_nat ?_
  rw [List.getElem?_map, List.getElem?_range (by omega), e2]
  rfl
theorem w_ixAZ {i : Int} (h0 : 0 ≤ i) (h1 : i < 26) (q : Q (.str (lt1 (97 + i.toNat))) H) : rIxS (.str "abcdefghijklmnopqrstuvwxyz") (.int i) H Q :=
  w_ixS (z := az) (by rw [sizeLine_eq]; decide +kernel) (atI_codes az_codes h0 h1) q
theorem w_ixAH {i : Int} (h0 : 0 ≤ i) (h1 : i < 8) (q : Q (.str (lt1 (97 + i.toNat))) H) : rIxS (.str "abcdefgh") (.int i) H Q :=
  w_ixS (z := ah) (by rw [sizeLine_eq]; decide +kernel) (atI_codes ah_codes h0 h1) q
end
def AZ (s : Str) : Prop := ∀ c ∈ s.cps.toList, 97 ≤ c ∧ c ≤ 122
structure NameOk (s : Str) : Prop where
  az : AZ s
  l1 : 1 ≤ s.length
  l8 : s.length ≤ 8
theorem AZ.nil : AZ ("" : Str) := fun c hc => by
  have e : ("" : Str).cps.toList = [] := by decide +kernel
  rw [e] at hc; cases hc
theorem AZ.app {s t : Str} (a : AZ s) (b : AZ t) : AZ (s ++ t) := fun c hc => by
  have e : (s ++ t).cps.toList = s.cps.toList ++ t.cps.toList := by show (s.cps ++ t.cps).toList = _; simp
  rw [e] at hc
  rcases List.mem_append.mp hc with h | h
  · exact a c h
  · exact b c h
theorem AZ.lt1 {n : Nat} (h : 97 ≤ n ∧ n ≤ 122) : AZ (lt1 n) := fun c hc => by
  have : c = n := by simpa [RT.lt1] using hc
  rw [this]; exact h
theorem lt1_len (n : Nat) : (lt1 n).length = 1 := rfl
theorem app_len (s t : Str) : (s ++ t).length = s.length + t.length := str_len_app s t
def sp_l_cell_at (d : Ad) : Sp := fun vs H Q _ => ∃ (a : Addr) (ns : List Int) (k : Nat), vs = [.ref a, .int k] ∧ SqL d.K H a (ns.map V.int) ∧ Q (.int (ns.getD k 0)) H
def sp_l_mixed (_ : Ad) : Sp := fun vs H Q _ => ∃ (c : Int), vs = [.int c] ∧ Q (.int (c * 48271 % 999999999989)) H
def sp_l_wide (_ : Ad) : Sp := fun vs H Q _ => ∃ (c : Int), vs = [.int c] ∧ Q (.int (c * 982451653 % 2 ^ Int.toNat 64)) H
def sp_l_names (_ : Ad) : Sp := fun vs H Q _ => ∃ (c : Int), vs = [.int c] ∧ ∀ q H' n0 n1 n2, H q = none → Ex H H' → H' q = some (.lst [.str n0, .str n1, .str n2]) → NameOk n0 → NameOk n1 → NameOk n2 → Q (.ref q) H'
abbrev N_l_mixed : List Str := ["_law_cell"]
def t_l_mixed (d : Ad) : TS :=
  (tRet (aMod (aMul (tVar 0) (tC (.int 48271))) (tC (.int 999999999989))))
abbrev N_l_wide : List Str := ["_law_cell"]
def t_l_wide (d : Ad) : TS :=
  (tRet (aMod (aMul (tVar 0) (tC (.int 982451653))) (aPow (tC (.int 2)) (tC (.int 64)))))
abbrev N_l_names : List Str := ["_law_cell", "_law_letters", "_law_mixed_here", "_law_size", "_law_at", "_law_names_here", "_law_turn", "_law_name", "_law_k", "_law_sign"]
def t_l_names (d : Ad) : TS :=
  (tSeq (tAsg (tC (.str "abcdefghijklmnopqrstuvwxyz")) (gName 1))
  (tSeq (tAsg (tCall (sp_l_mixed d) [] E0 (tCons (tVar 0) tNil)) (gName 2))
  (tSeq (tAsg (aAdd (tC (.int 1)) (aMod (tVar 2) (tC (.int 8)))) (gName 3))
  (tSeq (tAsg (aMod (aDiv (tVar 2) (tC (.int 8))) (tVar 3)) (gName 4))
  (tSeq (tAsg (tLst tNil) (gName 5))
  (tSeq (tFor (iRng1 (tCons (tC (.int 3)) tNil)) (gName 6) (tSeq (tAsg (tC (.str "")) (gName 7))
  (tSeq (tFor (iRng1 (tCons (tVar 3) tNil)) (gName 8) (tSeq (tAsg (aAdd (aDiv (aDiv (tVar 2) (tC (.int 64))) (aAdd (aMul (tVar 8) (tVar 8)) (tC (.int 1)))) (tVar 8)) (gName 9))
  (tSeq (tIfS (tTest (tOp rEq (tVar 8) (tVar 4))) (tAsg (aAdd (tVar 9) (tVar 6)) (gName 9)) tNext)
  (tAsg (aAddS (tVar 7) (tOp rIxS (tVar 1) (aMod (tVar 9) (tC (.int 26))))) (gName 7)))))
  (tDrop (tBM d.K "list" rAppend (tVar 5) (tCons (tVar 7) tNil))))))
  (tRet (tVar 5))))))))
abbrev N_l_cell_at : List Str := ["_law_script", "_law_k"]
def t_l_cell_at (d : Ad) : TS :=
  (tSeq (tIfS (tTest (tOp rLt (tVar 1) (tCB (Evl.rLenS d.K) (tCons (tVar 0) tNil)))) (tRet (tOp (rIxL d.K) (tVar 0) (tVar 1))) tNext)
  (tRet (tC (.int 0))))
local macro_rules | `(tactic| walk_at "callx") => `(tactic| fail)
section
variable {d : Ad} {vs : List V} {H : Hp} {Q : VK} {E : XK}
theorem pure_l_cell_at (h : sp_l_cell_at d vs H Q E) : t_l_cell_at d { nx := fun _ H' => Q .non H', rt := Q } (start N_l_cell_at vs) H := by
  obtain ⟨a, ns, i, rfl, hS, k⟩ := h
  show t_l_cell_at d _ [some (.ref a), some (.int i)] H
  unfold t_l_cell_at
  walk_at "go"
  rw [List.length_map]
  walk_at "dec"
  · rename_i hc
    walk_at "go"
    have hx : (ns.map V.int)[i]? = some (.int (ns.getD i 0)) := by
      rw [List.getElem?_map, List.getD_eq_getElem?_getD, List.getElem?_eq_getElem (by omega)]; rfl
    refine w_ixL hS (atI_nat hx) ?_
    exact k
  · rename_i hc
    walk_at "go"
    rw [List.getD_eq_getElem?_getD, List.getElem?_eq_none (by omega)] at k
    exact k
theorem pure_l_mixed (h : sp_l_mixed d vs H Q E) : t_l_mixed d { nx := fun _ H' => Q .non H', rt := Q } (start N_l_mixed vs) H := by
  obtain ⟨c, rfl, k⟩ := h
  show t_l_mixed d _ [some (.int c)] H
  unfold t_l_mixed
  walk_at "go"
  exact k
theorem pure_l_wide (h : sp_l_wide d vs H Q E) : t_l_wide d { nx := fun _ H' => Q .non H', rt := Q } (start N_l_wide vs) H := by
  obtain ⟨c, rfl, k⟩ := h
  show t_l_wide d _ [some (.int c)] H
  unfold t_l_wide
  walk_at "go"
  exact k
theorem pure_l_names (h : sp_l_names d vs H Q E) : t_l_names d { nx := fun _ H' => Q .non H', rt := Q } (start N_l_names vs) H := by
  obtain ⟨c, rfl, k⟩ := h
  show t_l_names d _ [some (.int c), none, none, none, none, none, none, none, none, none] H
  unfold t_l_names
  walk_at "goN"
  refine ⟨c, rfl, ?_⟩
  generalize c * 48271 % 999999999989 = mx
  walk_at "goN"
  rename_i R hR H1 e1 f1
  obtain ⟨sz, hsz, h1, h8⟩ : ∃ sz : Nat, 1 + mx % 8 = (sz : Int) ∧ 1 ≤ sz ∧ sz ≤ 8 := ⟨(1 + mx % 8).toNat, by omega, by omega, by omega⟩
  rw [hsz]
  generalize mx / 8 % (sz : Int) = at'
  refine ⟨by decide, by decide, ?_⟩
  refine for_it (walk_range (lo := 0) (n := 3)) (fun i σ H' => (∃ x6 x7 x8 x9, σ = [some (.int c), some (.str "abcdefghijklmnopqrstuvwxyz"), some (.int mx), some (.int sz), some (.int at'), some (.ref R), x6, x7, x8, x9]) ∧ Ex H (del H' R) ∧ ∃ ss : List Str, H' R = some (.lst (ss.map V.str)) ∧ ss.length = i ∧ ∀ s ∈ ss, NameOk s)
    ⟨⟨_, _, _, _, rfl⟩, ex_del e1 hR, [], f1, rfl, fun s hs => by simp at hs⟩ (fun _ _ _ _ _ => trivial) ?_ ?_
  · rintro i v σ H2 H3 hi ⟨⟨x6, x7, x8, x9, rfl⟩, e2, ss, f2, hl, hss⟩ ⟨rfl, hv⟩
    have hv : v = .int (i : Nat) := hv.trans (congrArg V.int (Int.zero_add _))
    subst hv
    walk_at "go"
    refine ⟨by omega, by omega, ?_⟩
    refine for_it (walk_range (lo := 0) (n := (sz : Int).toNat)) (fun j σ H' => (∃ s x8 x9, σ = [some (.int c), some (.str "abcdefghijklmnopqrstuvwxyz"), some (.int mx), some (.int sz), some (.int at'), some (.ref R), some (.int (i : Nat)), some (.str s), x8, x9] ∧ AZ s ∧ s.length = j) ∧ H' = H3)
      ⟨⟨_, _, _, rfl, AZ.nil, rfl⟩, rfl⟩ (fun _ _ _ _ _ => trivial) ?_ ?_
    · rintro j u σ H4 H5 hj ⟨⟨s, x8, x9, rfl, hz, hsl⟩, rfl⟩ ⟨rfl, hu⟩
      have hu : u = .int (j : Nat) := hu.trans (congrArg V.int (Int.zero_add _))
      subst hu
      have hpos : 0 < (j : Int) * (j : Int) + 1 := by
        have := Int.natCast_nonneg (j * j)
        rw [Int.natCast_mul] at this
        omega
      have hcd : CDiv (mx / 64) ((j : Int) * (j : Int) + 1) := by
        have hj8 : j ≤ 8 := by omega
        have h64 : j * j ≤ 8 * 8 := Nat.mul_le_mul hj8 hj8
        have h64 : ((j * j : Nat) : Int) ≤ 64 := by omega
        rw [Int.natCast_mul] at h64
        exact ⟨hpos, by omega⟩
      walk_at "go"
      walk_at "dec"
      · walk_at "go"
        refine w_ixAZ (by omega) (by omega) ?_
        refine w_addS (by rw [lt1_len, sizeLine_eq]; omega) ?_
        walk_at "go"
        exact ⟨⟨_, _, _, rfl, hz.app (AZ.lt1 (by omega)), by rw [app_len, lt1_len, hsl]⟩, rfl⟩
      · walk_at "go"
        refine w_ixAZ (by omega) (by omega) ?_
        refine w_addS (by rw [lt1_len, sizeLine_eq]; omega) ?_
        walk_at "go"
        exact ⟨⟨_, _, _, rfl, hz.app (AZ.lt1 (by omega)), by rw [app_len, lt1_len, hsl]⟩, rfl⟩
    · rintro σ H4 ⟨⟨s, x8, x9, rfl, hz, hsl⟩, rfl⟩
      walk_at "go"
      refine w_app f2 (by rw [List.length_map, sizeLine_eq]; omega) ?_
      refine ⟨⟨_, _, _, _, rfl⟩, by rw [del_upd]; exact e2, ss ++ [s], by rw [upd_same, List.map_append]; rfl, by rw [List.length_append, hl]; rfl, fun t ht => ?_⟩
      rcases List.mem_append.mp ht with ht | ht
      · exact hss t ht
      · rw [List.mem_singleton.mp ht]
        exact ⟨hz, by omega, by omega⟩
  · rintro σ H2 ⟨⟨x6, x7, x8, x9, rfl⟩, e2, ss, f2, hl, hss⟩
    walk_at "go"
    match ss, hl with
    | [s0, s1, s2], _ => exact k R H2 s0 s1 s2 hR (e2.trans del_ex) f2 (hss _ (by simp)) (hss _ (by simp)) (hss _ (by simp))
end
end RT

set_option Elab.async false
set_option linter.all false
set_option maxRecDepth 100000
set_option maxHeartbeats 2000000
set_option autoImplicit false
namespace RT
open PySem L2
local macro_rules | `(tactic| walk_at "putf") => `(tactic| first | exact putF_nil | exact putF_hit | exact putF_miss (by decide) (by walk_at "putf"))
local macro_rules | `(tactic| walk_at "ne") => `(tactic| first | assumption | exact Ne.symm (by assumption) | ((refine' ne2 ?h1 ?h2); (case h1 => assumption); (case h2 => walk_at "hk")) | ((refine' ne2s ?h1 ?h2); (case h1 => assumption); (case h2 => walk_at "hk")) | exact ne_head (by assumption) | exact ne_of (by assumption) (by assumption) (by intro z; cases z))
local macro_rules | `(tactic| walk_at "hk") => `(tactic| first | assumption | with_reducible exact upd_same | ((with_reducible refine' up_ne ?h1 ?h2); (case h1 => walk_at "ne"); (case h2 => walk_at "hk")) | ((with_reducible refine' ex_at ?h1 ?h2); (case h1 => assumption); (case h2 => walk_at "hk")))
local macro_rules | `(tactic| walk_at "kit") => `(tactic| first | exact kit_int_int | exact kit_int_bool | exact kit_int_str | exact kit_int_list | exact kit_int_tuple | exact kit_int_dict | exact kit_bool_int | exact kit_bool_bool | exact kit_bool_str | exact kit_bool_list | exact kit_bool_tuple | exact kit_bool_dict | exact kit_str_int | exact kit_str_bool | exact kit_str_str | exact kit_str_list | exact kit_str_tuple | exact kit_str_dict | exact kit_NoneType_int | exact kit_NoneType_bool | exact kit_NoneType_str | exact kit_NoneType_list | exact kit_NoneType_tuple | exact kit_NoneType_dict | exact kit_list_int | exact kit_list_bool | exact kit_list_str | exact kit_list_list | exact kit_list_tuple | exact kit_list_dict | exact kit_tuple_int | exact kit_tuple_bool | exact kit_tuple_str | exact kit_tuple_list | exact kit_tuple_tuple | exact kit_tuple_dict | exact kit_dict_int | exact kit_dict_bool | exact kit_dict_str | exact kit_dict_list | exact kit_dict_tuple | exact kit_dict_dict)
local macro_rules | `(tactic| walk_at "sq") => `(tactic| first | assumption | ((with_reducible refine' SqL.of ?h); (case h => walk_at "hk")) | ((with_reducible refine' ex_sq ?h1 ?h2); (case h1 => assumption); (case h2 => walk_at "sq")))
local macro_rules | `(tactic| walk_at "st") => `(tactic| first | assumption | ((with_reducible refine' SqT.of ?h); (case h => walk_at "hk")) | ((with_reducible refine' ex_st ?h1 ?h2); (case h1 => assumption); (case h2 => walk_at "st")))
local macro_rules | `(tactic| walk_at "new") => `(tactic| (intro p hp; generalize hU : upd _ p _ = H'; have e1 := new_ex hp hU; have e2 := new_at hU; clear hU))
local macro_rules | `(tactic| walk_at "set") => `(tactic| ((try simp only [List.set_cons_succ, List.set_cons_zero]); rfl))
local macro_rules | `(tactic| walk_at "small") => `(tactic| first | assumption | (rw [sizeLine_eq]; (try simp only [List.length_cons, List.length_nil, str_len_app, sign_len]); omega) | (with_unfolding_all decide))
local macro_rules | `(tactic| walk_at "sc") => `(tactic| first | assumption | decide | omega | (unfold CMul; omega) | (unfold CDiv; omega) | (unfold CPow; decide) | (unfold CDiv; decide))
local macro_rules | `(tactic| walk_at "step") => `(tactic| first
  | with_reducible refine' w_seq ?_
  | with_reducible refine' w_op ?_
  | ((with_reducible refine' w_var ?h ?_); (case h => rfl))
  | with_reducible refine' w_c ?_
  | with_reducible refine' w_i0 ?_
  | with_reducible refine' w_cons ?_
  | with_reducible refine' w_nil ?_
  | with_reducible refine' w_asg ?_
  | ((with_reducible refine' w_gn ?e ?_); (case e => walk_at "set"))
  | with_reducible refine' w_ifS ?_
  | with_reducible refine' w_test ?_
  | with_reducible refine' w_tB ?_
  | with_reducible refine' w_bl ?_
  | with_reducible refine' w_int ?_
  | with_reducible refine' w_ref ?_
  | with_reducible refine' w_str ?_
  | with_reducible refine' w_eqI ?_
  | with_reducible refine' w_neI ?_
  | with_reducible refine' w_eqS ?_
  | with_reducible refine' w_neS ?_
  | with_reducible refine' w_ret ?_
  | with_reducible refine' w_for ?_
  | with_reducible refine' w_tFld ?_
  | ((with_reducible refine' w_fld ?h ?c ?n ?l ?_); (case h => walk_at "hk"); (case c => assumption); (case n => assumption); (case l => rfl))
  | with_reducible refine' w_sFld ?_
  | ((with_reducible refine' w_rsFld ?h ?c ?n ?l ?e ?_); (case h => walk_at "hk"); (case c => assumption); (case n => assumption); (case e => walk_at "putf"); (case l => (simp only [List.length_cons, List.length_nil]; omega)))
  | with_reducible refine' w_tDGet ?_
  | with_reducible refine' w_tDIn ?_
  | with_reducible refine' w_tDNotIn ?_
  | ((with_reducible refine' w_dinI ?h ?_); (case h => walk_at "hk"))
  | with_reducible refine' w_sDPut ?_
  | with_reducible refine' w_bm ?_
  | with_reducible refine' w_bm0 ?_
  | ((with_reducible refine' w_tyL ?h ?_); (case h => walk_at "sq"))
  | with_reducible refine' w_iRev ?_
  | ((with_reducible refine' w_rev1 ?h ?_); (case h => walk_at "sq"))
  | with_reducible refine' w_iItems ?_
  | with_reducible refine' w_iKeys ?_
  | with_reducible refine' w_iRng3 ?_
  | with_reducible refine' w_iZip ?_
  | with_reducible refine' w_gCons ?_
  | with_reducible refine' w_gNil ?_
  | ((with_reducible refine' w_gTup ?h ?l ?_); (case h => walk_at "st"); (case l => rfl))
  | with_reducible refine' w_m1 ?_
  | with_reducible refine' w_isS ?_
  | with_reducible refine' w_lc ?_
  | with_reducible refine' w_iList ?_
  | with_reducible refine' w_iTup ?_
  | with_reducible refine' w_iStr ?_
  | with_reducible refine' w_iRng1 ?_
  | with_reducible refine' w_iRng2 ?_
  | with_reducible refine' w_v1I ?_
  | with_reducible refine' w_v2I ?_
  | with_reducible refine' w_next ?_
  | with_reducible refine' w_call ?_
  | with_reducible refine' w_cb ?_
  | with_reducible refine' w_and ?_
  | with_reducible refine' w_or ?_
  | with_reducible refine' w_not ?_
  | with_reducible refine' w_andV ?_
  | with_reducible refine' w_orV ?_
  | with_reducible refine' w_notV ?_
  | with_reducible refine' w_ifE ?_
  | with_reducible refine' w_drop ?_
  | with_reducible refine' w_un ?_
  | with_reducible refine' w_u ?_
  | with_reducible refine' w_isNN ?_
  | with_reducible refine' w_isNI ?_
  | with_reducible refine' w_isNS ?_
  | with_reducible refine' w_isNR ?_
  | with_reducible refine' w_notNN ?_
  | with_reducible refine' w_notNI ?_
  | with_reducible refine' w_notNS ?_
  | with_reducible refine' w_notNR ?_
  | with_reducible refine' w_int1 ?_
  | with_reducible refine' w_int1b ?_
  | with_reducible refine' w_tup ?_
  | with_reducible refine' w_lst ?_
  | with_reducible refine' w_dnew ?_
  | with_reducible refine' w_sl ?_
  | with_reducible refine' w_noPart ?_
  | with_reducible refine' w_part ?_
  | with_reducible refine' w_retN ?_
  | with_reducible refine' w_brk ?_
  | with_reducible refine' w_cont ?_
  | with_reducible refine' w_chain ?_
  | with_reducible refine' w_lt ?_
  | with_reducible refine' w_le ?_
  | with_reducible refine' w_gt ?_
  | with_reducible refine' w_ge ?_
  | with_reducible refine' w_ltS ?_
  | with_reducible refine' w_leS ?_
  | with_reducible refine' w_gtS ?_
  | with_reducible refine' w_geS ?_
  | ((with_reducible refine' w_addS ?h ?_); (case h => walk_at "small"))
  | with_reducible refine' w_inS ?_
  | with_reducible refine' w_ninS ?_
  | with_reducible refine' w_par ?_
  | with_reducible refine' w_v2 ?_
  | with_reducible refine' w_max2 ?_
  | with_reducible refine' w_min2 ?_
  | with_reducible refine' w_tru ?_
  | with_reducible refine' w_meth ?_
  | ((with_reducible refine' w_meth1 ?h ?l ?_); (case h => walk_at "hk"); (case l => rfl))
  | with_reducible refine' w_make ?_
  | ((with_reducible refine' w_isiI ?h ?_); (case h => walk_at "kit"))
  | ((with_reducible refine' w_isiB ?h ?_); (case h => walk_at "kit"))
  | ((with_reducible refine' w_isiN ?h ?_); (case h => walk_at "kit"))
  | ((with_reducible refine' w_isiS ?h ?_); (case h => walk_at "kit"))
  | ((with_reducible refine' w_isiSL ?h ?e ?_); (case h => walk_at "sq"); (case e => walk_at "kit"))
  | ((with_reducible refine' w_isiST ?h ?e ?_); (case h => walk_at "st"); (case e => walk_at "kit"))
  | ((with_reducible refine' w_i ?h ?_); (case h => walk_at "sc"))
  | with_reducible refine' w_ttL ?_
  | with_reducible refine' w_ffL ?_
  | ((with_reducible refine' w_tt ?h ?_); (case h => first | exact dB_t (by decide) | exact nB_t (by decide) | decide))
  | ((with_reducible refine' w_ff ?h ?_); (case h => first | exact dB_f (by decide) | exact nB_f (by decide) | decide))
  | ((with_reducible refine' w_lenS ?h ?_); (case h => walk_at "sq"))
  | ((with_reducible refine' w_lenT ?h ?_); (case h => walk_at "st"))
  | ((with_reducible refine' w_slL ?h ?_); (case h => walk_at "sq"))
  | ((with_reducible refine' w_aug ?h ?_); (case h => rfl))
  | with_reducible refine' w_ip ?_
  | ((with_reducible refine' w_cat ?h1 ?h2 ?h3 ?_); (case h1 => walk_at "hk"); (case h2 => walk_at "hk"); (case h3 => walk_at "small"))
  | ((with_reducible refine' w_ixL ?h1 ?h2 ?_); (case h1 => walk_at "sq"); (case h2 => rfl))
  | ((with_reducible refine' w_ixT ?h1 ?h2 ?_); (case h1 => walk_at "st"); (case h2 => rfl))
  | ((with_reducible refine' w_lenStr ?h ?_); (case h => walk_at "small"))
  | ((with_reducible refine' w_slS ?h ?_); (case h => walk_at "small"))
  | ((with_reducible refine' w_sz ?h ?_); (case h => walk_at "small")))
local macro_rules | `(tactic| walk_at "go") => `(tactic| (repeat (first | walk_at "step" | walk_at "callx")))
local macro_rules | `(tactic| walk_at "goN") => `(tactic| (repeat (first | walk_at "step" | walk_at "callx" | ((with_reducible show ∀ p, _ = none → _); walk_at "new"))))
local macro_rules | `(tactic| walk_at "len") => `(tactic| first
  | (obtain ⟨rfl, _⟩ := h; rfl) | (obtain ⟨_, rfl, _⟩ := h; rfl) | (obtain ⟨_, _, rfl, _⟩ := h; rfl) | (obtain ⟨_, _, _, rfl, _⟩ := h; rfl) | (obtain ⟨_, _, _, _, rfl, _⟩ := h; rfl)
  | (obtain ⟨_, _, _, _, _, rfl, _⟩ := h; rfl) | (obtain ⟨_, _, _, _, _, _, rfl, _⟩ := h; rfl) | (obtain ⟨_, _, _, _, _, _, _, rfl, _⟩ := h; rfl) | (obtain ⟨_, _, _, _, _, _, _, _, rfl, _⟩ := h; rfl)
  | (obtain ⟨_, _, _, _, _, _, _, _, _, rfl, _⟩ := h; rfl) | (obtain ⟨_, _, _, _, _, _, _, _, _, _, rfl, _⟩ := h; rfl))
local macro_rules | `(tactic| walk_at "dec") => `(tactic| (first | with_reducible apply w_dec | with_reducible apply w_ndec | with_reducible apply w_bool) <;> intro hc)
def isPlain : Pt → Bool
  | .iff .. | .eith .. | .tryy .. => false
  | _ => true
theorem plain_len {p : Pt} (h : isPlain p = true) : lenP p = 1 := by cases p <;> first | rfl | cases h
theorem plain_nd {p : Pt} (h : isPlain p = true) : ndP p = 1 := by cases p <;> first | rfl | cases h
theorem plain_rows {p : Pt} (h : isPlain p = true) (f : Nat) : partRows p f = [plainRow p] := by cases p <;> first | rfl | cases h
theorem plains_rows : ∀ {ps : List Pt} (_ : ∀ p ∈ ps, isPlain p = true) (f : Nat), rowsFrom ps f = ps.map plainRow
  | [], _, _ => rfl
  | p :: r, h, f => by
    rw [rowsFrom, plain_rows (h p (by simp)), plains_rows (fun q hq => h q (List.mem_cons_of_mem _ hq))]
    rfl
theorem plains_len : ∀ {ps : List Pt} (_ : ∀ p ∈ ps, isPlain p = true), lenPs ps = ps.length
  | [], _ => rfl
  | p :: r, h => by
    rw [lenPs, plain_len (h p (by simp)), plains_len (fun q hq => h q (List.mem_cons_of_mem _ hq)), List.length_cons]; omega
theorem plains_nd : ∀ {ps : List Pt} (_ : ∀ p ∈ ps, isPlain p = true), ndPs ps ≤ 1
  | [], _ => by simp [ndPs]
  | p :: r, h => by
    have h2 := plains_nd (fun q hq => h q (List.mem_cons_of_mem p hq))
    rw [ndPs, plain_nd (h p (by simp))]; omega
def sp_l_part (d : Ad) : Sp := fun vs H Q _ => ∃ (c : Int) (l : Addr) (n0 n1 n2 : Str), vs = [.int c, .ref l] ∧ SqL d.K H l [.str n0, .str n1, .str n2] ∧
  ∀ t a w p H', H t = none → H a = none → H w = none → Ex H H' → H' t = some (.tup [.ref a, .ref w]) → PtAt d H' a p → isPlain p = true → H' w = some (.tup (plainRow p)) → Q (.ref t) H'
def sp_l_deed (d : Ad) : Sp := fun vs H Q _ => ∃ (l m : Addr) (ns : List Int) (n0 n1 n2 : Str), vs = [.ref l, .ref m] ∧ SqL d.K H l (ns.map V.int) ∧ SqL d.K H m [.str n0, .str n1, .str n2] ∧ ns.length ≤ 79 ∧ ∀ H', Ex H H' → Q (.bl true) H'
abbrev sp_law (d : Ad) : Sp := spLaw d.K
abbrev N_l_part : List Str := ["_law_cell", "_law_names_here", "_law_letters", "_law_mixed_here", "_law_one", "_law_other", "_law_third", "_law_way", "_law_number", "_law_word"]
def t_l_part (d : Ad) : TS :=
  (tSeq (tAsg (tC (.str "abcdefgh")) (gName 2))
  (tSeq (tAsg (tCall (sp_l_mixed d) [] E0 (tCons (tVar 0) tNil)) (gName 3))
  (tSeq (tAsg (tOp rIxS (tVar 2) (aMod (aDiv (tVar 3) (tC (.int 7))) (tC (.int 8)))) (gName 4))
  (tSeq (tAsg (tOp rIxS (tVar 2) (aMod (aDiv (tVar 3) (tC (.int 56))) (tC (.int 8)))) (gName 5))
  (tSeq (tAsg (tOp rIxS (tVar 2) (aMod (aDiv (tVar 3) (tC (.int 448))) (tC (.int 8)))) (gName 6))
  (tSeq (tAsg (aMod (tVar 3) (tC (.int 7))) (gName 7))
  (tSeq (tAsg (tOp (rIxL d.K) (tLst (tCons (aMod (aDiv (tVar 3) (tC (.int 4000))) (tC (.int 5))) (tCons (tCall (sp_l_wide d) [] E0 (tCons (tVar 0) tNil)) (tCons (aSub (aSub (aPow (tC (.int 2)) (tC (.int 64))) (tC (.int 1))) (aMod (aDiv (tVar 3) (tC (.int 4000))) (tC (.int 5)))) tNil)))) (aMod (aDiv (tVar 3) (tC (.int 500))) (tC (.int 3)))) (gName 8))
  (tSeq (tAsg (tOp (rIxL d.K) (tLst (tCons (tC (.str "plus")) (tCons (tC (.str "minus")) (tCons (tC (.str "times")) (tCons (tC (.str "less")) (tCons (tC (.str "same")) tNil)))))) (aMod (aDiv (tVar 3) (tC (.int 4000))) (tC (.int 5)))) (gName 9))
  (tSeq (tIfS (tTest (tOp rEq (tVar 7) (tC (.int 0)))) (tRet (tTup (tCons (tMake d.cLet (sp_Let_init d) [] E0 (tCons (tVar 4) (tCons (tVar 8) tNil))) (tCons (tTup (tCons (tC (.str "let")) (tCons (tVar 4) (tCons (tVar 8) tNil)))) tNil)))) tNext)
  (tSeq (tIfS (tTest (tOp rLt (tVar 7) (tC (.int 3)))) (tRet (tTup (tCons (tMake d.cReckon (sp_Reckon_init d) [] E0 (tCons (tVar 9) (tCons (tVar 4) (tCons (tVar 5) (tCons (tVar 6) tNil))))) (tCons (tTup (tCons (tVar 9) (tCons (tVar 4) (tCons (tVar 5) (tCons (tVar 6) tNil))))) tNil)))) tNext)
  (tSeq (tIfS (tTest (tOp rEq (tVar 7) (tC (.int 3)))) (tRet (tTup (tCons (tMake d.cTake (sp_Take_init d) [] E0 (tCons (tVar 4) (tCons (tVar 5) tNil))) (tCons (tTup (tCons (tC (.str "take")) (tCons (tVar 4) (tCons (tVar 5) tNil)))) tNil)))) tNext)
  (tSeq (tIfS (tTest (tOp rEq (tVar 7) (tC (.int 4)))) (tRet (tTup (tCons (tMake d.cPut (sp_Put_init d) [] E0 (tCons (tVar 4) (tCons (tVar 5) tNil))) (tCons (tTup (tCons (tC (.str "put")) (tCons (tVar 4) (tCons (tVar 5) tNil)))) tNil)))) tNext)
  (tSeq (tIfS (tTest (tOp rEq (tVar 7) (tC (.int 5)))) (tRet (tTup (tCons (tMake d.cThrow (sp_Throw_init d) [] E0 (tCons (tOp (rIxL d.K) (tVar 1) (aMod (aDiv (tVar 3) (tC (.int 4000))) (tC (.int 3)))) (tCons (tVar 4) tNil))) (tCons (tTup (tCons (tC (.str "throw")) (tCons (tOp (rIxL d.K) (tVar 1) (aMod (aDiv (tVar 3) (tC (.int 4000))) (tC (.int 3)))) (tCons (tVar 4) tNil)))) tNil)))) tNext)
  (tRet (tTup (tCons (tMakeO d.cWait) (tCons (tTup (tCons (tC (.str "wait")) tNil)) tNil)))))))))))))))))
abbrev N_l_deed : List Str := ["_law_cells", "_law_names_here", "_law_deed_here", "_law_due", "_law_cell", "_law_part_here", "_law_row", "_law_handed", "_law_found"]
def t_l_deed (d : Ad) : TS :=
  (tSeq (tAsg (tLst tNil) (gName 2))
  (tSeq (tAsg (tLst tNil) (gName 3))
  (tSeq (tFor (iList d.K (tVar 0)) (gName 4) (tSeq (tAsg (tCall (sp_l_part d) [] E0 (tCons (tVar 4) (tCons (tVar 1) tNil))) (gTup d.K 2 (gCons (gName 5) (gCons (gName 6) gNil))))
  (tSeq (tDrop (tBM d.K "list" rAppend (tVar 2) (tCons (tVar 5) tNil)))
  (tDrop (tBM d.K "list" rAppend (tVar 3) (tCons (tVar 6) tNil))))))
  (tSeq (tDrop (tBM d.K "list" rAppend (tVar 3) (tCons (tTup (tCons (tC (.str "lay")) tNil)) tNil)))
  (tSeq (tAsg (tCB (rListOf d.K) (tCons (tVar 2) tNil)) (gName 7))
  (tSeq (tAsg (tCall (sp_rows_of d) [] E0 (tCons (tVar 7) tNil)) (gName 8))
  (tSeq (tIfS (tOr (tNot (tB (tCall (sp_l_alike d) [] E0 (tCons (tVar 8) (tCons (tVar 3) tNil))))) (tTest (tOp rNe (tCB (Evl.rLenS d.K) (tCons (tVar 7) tNil)) (tCB (Evl.rLenS d.K) (tCons (tVar 2) tNil))))) (tRet (tC (.bl false))) tNext)
  (tSeq (tDrop (tBM d.K "list" rAppend (tVar 8) (tCons (tTup (tCons (tC (.str "lay")) tNil)) tNil)))
  (tSeq (tAsg (tTup (tCons (tC (.str "wait")) (tCons (tC (.int 1)) tNil))) (gSub (tVar 8) (tC (.int 0)) rSetL))
  (tRet (tCall (sp_l_alike d) [] E0 (tCons (tCall (sp_rows_of d) [] E0 (tCons (tVar 7) tNil)) (tCons (tVar 3) tNil)))))))))))))
abbrev N_law : List Str := ["_law_script", "_law_names_here", "_law_cells", "_law_at", "_law_k"]
def t_law (d : Ad) : TS :=
  (tSeq (tAsg (tCall (sp_l_names d) [] E0 (tCons (tCB (rSum d.K) (tCons (tSl (rSlL d.K) (tVar 0) tNoPart (tPart (tC (.int 1)))) tNil)) tNil)) (gName 1))
  (tSeq (tIfS (tNot (tB (tCall (sp_l_deed d) [] E0 (tCons (tLst tNil) (tCons (tVar 1) tNil))))) (tRet (tC (.bl false))) tNext)
  (tSeq (tAsg (tCB (rListOf d.K) (tCons (tVar 0) tNil)) (gName 2))
  (tSeq (tIfS (tAnd (tTest (tOp rGt (tCB (Evl.rLenS d.K) (tCons (tVar 2) tNil)) (tC (.int 0)))) (tTest (tOp rEq (aMod (tOp (rIxL d.K) (tVar 2) (tC (.int 0))) (tC (.int 2))) (tC (.int 1))))) (tAsg (tLc (iRng1 (tCons (tCB Evl.rMax2 (tCons (tC (.int 79)) (tCons (tCB (Evl.rLenS d.K) (tCons (tVar 2) tNil)) tNil))) tNil)) (gName 4) tYes (aAdd (tOp (rIxL d.K) (tVar 2) (aMod (tVar 4) (tCB (Evl.rLenS d.K) (tCons (tVar 2) tNil)))) (aDiv (tVar 4) (tCB (Evl.rLenS d.K) (tCons (tVar 2) tNil)))) [4]) (gName 2)) tNext)
  (tSeq (tFor (iRng3 (tCons (tC (.int 0)) (tCons (tCB (Evl.rLenS d.K) (tCons (tVar 2) tNil)) (tCons (tC (.int 79)) tNil)))) (gName 3) (tIfS (tNot (tB (tCall (sp_l_deed d) [] E0 (tCons (tSl (rSlL d.K) (tVar 2) (tPart (tVar 3)) (tPart (aAdd (tVar 3) (tC (.int 79))))) (tCons (tVar 1) tNil))))) (tRet (tC (.bl false))) tNext))
  (tRet (tC (.bl true))))))))
local macro_rules | `(tactic| walk_at "callx") => `(tactic| fail)
section
variable {d : Ad} {vs : List V} {H : Hp} {Q : VK} {E : XK}
theorem pure_l_part (T : TParts d) (h : sp_l_part d vs H Q E) : t_l_part d { nx := fun _ H' => Q .non H', rt := Q } (start N_l_part vs) H := by
  obtain ⟨c, l, n0, n1, n2, rfl, hl, k⟩ := h
  show t_l_part d _ [some (.int c), some (.ref l), none, none, none, none, none, none, none, none] H
  unfold t_l_part
  walk_at "go"
  refine ⟨c, rfl, ?_⟩
  generalize c * 48271 % 999999999989 = mx
  walk_at "go"
  refine w_ixAH (by omega) (by omega) ?_
  walk_at "go"
  refine w_ixAH (by omega) (by omega) ?_
  walk_at "go"
  refine w_ixAH (by omega) (by omega) ?_
  walk_at "go"
  refine ⟨c, rfl, ?_⟩
  walk_at "goN"
  rename_i lm hlm H1 e1 f1
  obtain ⟨v8, hv8, x8, rfl⟩ := menu_item (xs := [.int (mx / 4000 % 5), .int (c * 982451653 % 2 ^ Int.toNat 64), .int (2 ^ Int.toNat 64 - 1 - mx / 4000 % 5)]) (i := mx / 500 % 3) (P := fun v => ∃ b : Int, v = .int b) (by omega) (by show _ < (3 : Int); omega) (by
    simp only [List.mem_cons, List.not_mem_nil, or_false, forall_eq_or_imp, forall_eq]
    exact ⟨⟨_, rfl⟩, ⟨_, rfl⟩, ⟨_, rfl⟩⟩)
  refine w_ixL (SqL.of f1) hv8 ?_
  walk_at "goN"
  rename_i lw hlw H2 e2 f2
  obtain ⟨v9, hv9, x9, rfl⟩ := menu_item (xs := [.str "plus", .str "minus", .str "times", .str "less", .str "same"]) (i := mx / 4000 % 5) (P := fun v => ∃ b : Str, v = .str b) (by omega) (by show _ < (5 : Int); omega) (by
    simp only [List.mem_cons, List.not_mem_nil, or_false, forall_eq_or_imp, forall_eq]
    exact ⟨⟨_, rfl⟩, ⟨_, rfl⟩, ⟨_, rfl⟩, ⟨_, rfl⟩, ⟨_, rfl⟩⟩)
  refine w_ixL (SqL.of f2) hv9 ?_
  walk_at "go"
  have e12 := e1.trans e2
  walk_at "dec"
  · walk_at "go"
    intro x dx hx hdx hne
    refine ⟨x, dx, _, _, rfl, upd_same, fun H3 e3 h3 => ⟨rfl, ?_⟩⟩
    have e23 := made_ex hx hdx e3
    walk_at "goN"
    rename_i w hw H4 e4 f4 t ht H5 e5 f5
    exact k t x w (.let_ _ _) H5 (ex_free ((e12.trans e23).trans e4) ht) (ex_free e12 hx) (ex_free (e12.trans e23) hw) (((e12.trans e23).trans e4).trans e5) f5 (.let_ ((e4.trans e5) _ _ h3)) rfl (e5 _ _ f4)
  · walk_at "go"
    walk_at "dec"
    · walk_at "go"
      intro x dx hx hdx hne
      refine ⟨x, dx, _, _, _, _, rfl, upd_same, fun H3 e3 h3 => ⟨rfl, ?_⟩⟩
      have e23 := made_ex hx hdx e3
      walk_at "goN"
      rename_i w hw H4 e4 f4 t ht H5 e5 f5
      exact k t x w (.rk _ _ _ _) H5 (ex_free ((e12.trans e23).trans e4) ht) (ex_free e12 hx) (ex_free (e12.trans e23) hw) (((e12.trans e23).trans e4).trans e5) f5 (.rk ((e4.trans e5) _ _ h3)) rfl (e5 _ _ f4)
    · walk_at "go"
      walk_at "dec"
      · walk_at "go"
        intro x dx hx hdx hne
        refine ⟨x, dx, _, _, rfl, upd_same, fun H3 e3 h3 => ⟨rfl, ?_⟩⟩
        have e23 := made_ex hx hdx e3
        walk_at "goN"
        rename_i w hw H4 e4 f4 t ht H5 e5 f5
        exact k t x w (.take _ _) H5 (ex_free ((e12.trans e23).trans e4) ht) (ex_free e12 hx) (ex_free (e12.trans e23) hw) (((e12.trans e23).trans e4).trans e5) f5 (.take ((e4.trans e5) _ _ h3)) rfl (e5 _ _ f4)
      · walk_at "go"
        walk_at "dec"
        · walk_at "go"
          intro x dx hx hdx hne
          refine ⟨x, dx, _, _, rfl, upd_same, fun H3 e3 h3 => ⟨rfl, ?_⟩⟩
          have e23 := made_ex hx hdx e3
          walk_at "goN"
          rename_i w hw H4 e4 f4 t ht H5 e5 f5
          exact k t x w (.put _ _) H5 (ex_free ((e12.trans e23).trans e4) ht) (ex_free e12 hx) (ex_free (e12.trans e23) hw) (((e12.trans e23).trans e4).trans e5) f5 (.put ((e4.trans e5) _ _ h3)) rfl (e5 _ _ f4)
        · walk_at "go"
          walk_at "dec"
          · walk_at "go"
            obtain ⟨v0, hv0, y0, rfl⟩ := menu_item (xs := [.str n0, .str n1, .str n2]) (i := mx / 4000 % 3) (P := fun v => ∃ b : Str, v = .str b) (by omega) (by show _ < (3 : Int); omega) (by
              simp only [List.mem_cons, List.not_mem_nil, or_false, forall_eq_or_imp, forall_eq]
              exact ⟨⟨_, rfl⟩, ⟨_, rfl⟩, ⟨_, rfl⟩⟩)
            refine w_ixL (ex_sq e12 hl) hv0 ?_
            walk_at "go"
            intro x dx hx hdx hne
            refine ⟨x, dx, _, _, rfl, upd_same, fun H3 e3 h3 => ⟨rfl, ?_⟩⟩
            have e23 := made_ex hx hdx e3
            walk_at "go"
            refine w_ixL (ex_sq (e12.trans e23) hl) hv0 ?_
            walk_at "goN"
            rename_i w hw H4 e4 f4 t ht H5 e5 f5
            exact k t x w (.throw _ _) H5 (ex_free ((e12.trans e23).trans e4) ht) (ex_free e12 hx) (ex_free (e12.trans e23) hw) (((e12.trans e23).trans e4).trans e5) f5 (.throw ((e4.trans e5) _ _ h3)) rfl (e5 _ _ f4)
          · walk_at "go"
            intro x dx hx hdx hne
            generalize hU : upd (upd H2 dx _) x _ = H3
            have h3 : H3 x = some (.ins d.cWait dx []) := by rw [← hU, upd_same]
            have e23 : Ex H2 H3 := fun z o h => by rw [← hU, upd_ne (ne_of_none h hx), upd_ne (ne_of_none h hdx)]; exact h
            clear hU
            walk_at "goN"
            rename_i w hw H4 e4 f4 t ht H5 e5 f5
            exact k t x w .wait H5 (ex_free ((e12.trans e23).trans e4) ht) (ex_free e12 hx) (ex_free (e12.trans e23) hw) (((e12.trans e23).trans e4).trans e5) f5 (.wait ((e4.trans e5) _ _ h3)) rfl (e5 _ _ f4)
theorem w_gSub {to ti : TE} {t : TSet} {v : V} {σ : L2.St} {R : L2.St → Hp → Prop} (q : to σ H fun o H1 => ti σ H1 fun i H2 => t o i v H2 fun H3 => R σ H3) : gSub to ti t v σ H R := q
theorem ixN_0 {n : Nat} (h : 0 < n) : ixN n 0 = some 0 := by
  unfold ixN
  rw [if_pos (by decide), if_pos (by omega)]
  rfl
theorem plain_at {S S' : Hp} {a : Addr} {p : Pt} (h : PtAt d S a p) (hp : isPlain p = true) (e : S' a = S a) : PtAt d S' a p := by
  cases h with
  | let_ h => exact .let_ (e.trans h)
  | rk h => exact .rk (e.trans h)
  | take h => exact .take (e.trans h)
  | put h => exact .put (e.trans h)
  | throw h => exact .throw (e.trans h)
  | wait h => exact .wait (e.trans h)
  | iff => cases hp
  | eith => cases hp
  | tryy => cases hp
theorem pts_snoc {S : Hp} : ∀ {as : List Addr} {ps : List Pt} {a : Addr} {p : Pt}, PtsAt d S as ps → PtAt d S a p → PtsAt d S (as ++ [a]) (ps ++ [p])
  | _, _, _, _, .nil, h => .cons h .nil
  | _, _, _, _, .cons h t, h2 => .cons h (pts_snoc t h2)
theorem pure_l_deed (h : sp_l_deed d vs H Q E) : t_l_deed d { nx := fun _ H' => Q .non H', rt := Q } (start N_l_deed vs) H := by
  obtain ⟨l, m, ns, n0, n1, n2, rfl, hl, hm, hlen, k⟩ := h
  show t_l_deed d _ [some (.ref l), some (.ref m), none, none, none, none, none, none, none] H
  unfold t_l_deed
  walk_at "goN"
  rename_i D hD H1 e1 f1 U hU H2 e2 f2
  have nDU : D ≠ U := ne_of_none f1 hU
  have eM : Ex H (hide [D, U] H2) := fun a o h => hide_at ((e1.trans e2) _ _ h) (by
    simp only [List.mem_cons, List.not_mem_nil, or_false, not_or]
    exact ⟨ne_of_none h hD, ne_of_none (e1 _ _ h) hU⟩)
  refine f_list (ex_sq (e1.trans e2) hl) (fun i σ H' => (∃ x4 x5 x6, σ = [some (.ref l), some (.ref m), some (.ref D), some (.ref U), x4, x5, x6, none, none]) ∧ Ex H (hide [D, U] H') ∧ ∃ as ps us, H' D = some (.lst (as.map V.ref)) ∧ H' U = some (.lst us) ∧ PtsAt d (hide [D, U] H') as ps ∧ RowsAt H (hide [D, U] H') us (ps.map plainRow) ∧ (∀ p ∈ ps, isPlain p = true) ∧ ps.length = i)
    ⟨⟨_, _, _, rfl⟩, eM, [], [], [], e2 _ _ f1, f2, .nil, RowsAt.nil, (fun p hp => by cases hp), rfl⟩ (fun i σ H' _ q => ex_sq (q.2.1.trans hide_ex) hl) ?_ ?_
  · rintro i x σ H3 hi ⟨⟨x4, x5, x6, rfl⟩, e3, as, ps, us, hD3, hU3, hp3, hr3, hpl, hpi⟩
    obtain ⟨c, rfl, hc⟩ := int_item hi
    have hi79 : i < 79 := by
      have := (List.getElem?_eq_some_iff.mp hc).1
      omega
    walk_at "go"
    refine ⟨c, m, n0, n1, n2, rfl, ex_sq (e3.trans hide_ex) hm, fun t a w p H4 ht ha hw e4 h4 hp hpp hrw => ?_⟩
    refine w_gTup (SqT.of h4) rfl ?_
    have hD4 := e4 _ _ hD3
    have hU4 := e4 _ _ hU3
    walk_at "go"
    refine w_app hD4 (by rw [List.length_map, pts_len hp3, sizeLine_eq]; omega) ?_
    walk_at "go"
    refine w_app (by rw [upd_ne (Ne.symm nDU)]; exact hU4) (by rw [hr3.len, List.length_map, sizeLine_eq]; omega) ?_
    have eE : Ex (hide [D, U] H3) (hide [D, U] (upd (upd H4 D (.lst (as.map V.ref ++ [.ref a]))) U (.lst (us ++ [.ref w])))) :=
      (hide_chg (Chg.of_ex e4)).trans ((hide_chg (Chg.wr (by simp))).trans (hide_chg (Chg.wr (by simp))))
    have hM : ∀ z, H3 z = none → z ∉ [D, U] ∧ upd (upd H4 D (.lst (as.map V.ref ++ [.ref a]))) U (.lst (us ++ [.ref w])) z = H4 z := fun z hz => by
      have z1 : z ≠ D := Ne.symm (ne_of_none hD3 hz)
      have z2 : z ≠ U := Ne.symm (ne_of_none hU3 hz)
      exact ⟨by simp [z1, z2], by rw [upd_ne z2, upd_ne z1]⟩
    refine ⟨⟨_, _, _, rfl⟩, e3.trans eE, as ++ [a], ps ++ [p], us ++ [.ref w], by rw [upd_ne nDU, upd_same, List.map_append]; rfl, upd_same, pts_snoc (PtsAt.mono eE hp3) (plain_at hp hpp ?_), ?_, ?_, by rw [List.length_append, hpi]; rfl⟩
    · rw [hide_out (hM a ha).1, (hM a ha).2]
    · rw [List.map_append]
      refine (hr3.mono eE).app (RowsAt.one ?_ (ex_free (e3.trans hide_ex) hw))
      rw [hide_out (hM w hw).1, (hM w hw).2]
      exact hrw
    · intro q hq
      rcases List.mem_append.mp hq with hq | hq
      · exact hpl q hq
      · rw [List.mem_singleton.mp hq]; exact hpp
  · rintro σ H3 ⟨⟨x4, x5, x6, rfl⟩, e3, as, ps, us, hD3, hU3, hp3, hr3, hpl, hpi⟩
    rw [List.length_map] at hpi
    have hps : ps.length ≤ 79 := by omega
    walk_at "go"
    intro tl htl
    generalize hZ : upd H3 tl _ = H4
    have e4 := new_ex htl hZ
    have f4 := new_at hZ
    clear hZ
    walk_at "go"
    refine w_app (e4 _ _ hU3) (by rw [hr3.len, List.length_map, sizeLine_eq]; omega) ?_
    have eE : Ex (hide [D, U] H3) (hide [D, U] (upd H4 U (.lst (us ++ [.ref tl])))) := (hide_chg (Chg.of_ex e4)).trans (hide_chg (Chg.wr (by simp)))
    have r5 : RowsAt H (hide [D, U] (upd H4 U (.lst (us ++ [.ref tl])))) (us ++ [.ref tl]) (ps.map plainRow ++ [[.str "lay"]]) := by
      refine (hr3.mono eE).app (RowsAt.one ?_ (ex_free (e3.trans hide_ex) htl))
      have z1 : tl ≠ D := Ne.symm (ne_of_none hD3 htl)
      have z2 : tl ≠ U := Ne.symm (ne_of_none hU3 htl)
      rw [hide_out (by simp [z1, z2]), upd_ne z2]
      exact f4
    have hD5 : upd H4 U (.lst (us ++ [.ref tl])) D = some (.lst (as.map V.ref)) := by rw [upd_ne nDU]; exact e4 _ _ hD3
    have hU5 : upd H4 U (.lst (us ++ [.ref tl])) U = some (.lst (us ++ [.ref tl])) := upd_same
    have p5 := PtsAt.mono (eE.trans hide_ex) hp3
    have r5 := r5.mono hide_ex
    have e5 := e3.trans (eE.trans hide_ex)
    generalize upd H4 U (.lst (us ++ [.ref tl])) = H5 at hD5 hU5 p5 r5 e5 ⊢
    walk_at "go"
    refine ⟨D, as.map V.ref, rfl, .inl (SqL.of hD5), fun hd hhd => ?_⟩
    generalize hZ : upd H5 hd _ = H6
    have e6 := new_ex hhd hZ
    have f6 := new_at hZ
    clear hZ
    walk_at "go"
    have hR : rowsFrom ps 0 ++ [[.str "lay"]] = ps.map plainRow ++ [[.str "lay"]] := by rw [plains_rows hpl]
    have okA : ∀ r ∈ ps.map plainRow ++ [[V.str "lay"]], okR r := fun r hr => by
      rcases List.mem_append.mp hr with hr | hr
      · obtain ⟨p, _, rfl⟩ := List.mem_map.mp hr
        exact okR_plain p
      · rw [List.mem_singleton.mp hr]; exact ⟨by simp, sc_list rfl⟩
    have hn := nice_rows okA (by rw [List.length_append, List.length_map, List.length_singleton]; omega)
    have nd1 := plains_nd hpl
    have ln1 := plains_len hpl
    refine ⟨hd, rfl, as, ps, SqL.of f6, PtsAt.mono e6 p5, by omega, by omega, fun q H7 xs hq e7 f7 r7 => ?_⟩
    rw [hR] at r7
    have hU7 := (e6.trans e7) _ _ hU5
    have hh7 := e7 _ _ f6
    have hD7 := (e6.trans e7) _ _ hD5
    walk_at "go"
    refine c_alike (dp_rows f7 r7 okA) (dp_rows hU7 (r5.mono (e6.trans e7)) okA) hn ?_
    walk_at "go"
    rw [List.length_map]
    refine w_ff (nB_f rfl) ?_
    walk_at "go"
    intro t8 ht8
    generalize hZ : upd H7 t8 _ = H8
    have e8 := new_ex ht8 hZ
    clear hZ
    walk_at "go"
    have hxs := r7.len
    rw [List.length_append, List.length_map, List.length_singleton] at hxs
    refine w_app (e8 _ _ f7) (by rw [sizeLine_eq]; omega) ?_
    have e9 : Ex H6 (upd H8 q (.lst (xs ++ [.ref t8]))) := fun z o h => by rw [upd_ne (ne_of_none h hq)]; exact (e7.trans e8) _ _ h
    have f9 : upd H8 q (.lst (xs ++ [.ref t8])) q = some (.lst (xs ++ [.ref t8])) := upd_same
    generalize upd H8 q (.lst (xs ++ [.ref t8])) = H9 at e9 f9 ⊢
    walk_at "go"
    intro ta hta
    generalize hZ : upd H9 ta _ = HA
    have eA := new_ex hta hZ
    clear hZ
    have fA := eA _ _ f9
    walk_at "go"
    refine w_gSub ?_
    walk_at "go"
    refine ⟨q, _, 0, 0, rfl, rfl, fA, ixN_0 (by rw [List.length_append, List.length_singleton]; omega), ?_⟩
    have eB : Ex H6 (upd HA q (.lst ((xs ++ [V.ref t8]).set 0 (V.ref ta)))) := fun z o h => by rw [upd_ne (ne_of_none h hq)]; exact (e9.trans eA) _ _ h
    generalize upd HA q (.lst ((xs ++ [V.ref t8]).set 0 (V.ref ta))) = HB at eB ⊢
    walk_at "go"
    refine ⟨hd, rfl, as, ps, SqL.of (eB _ _ f6), PtsAt.mono (e6.trans eB) p5, by omega, by omega, fun q2 HC xs2 hq2 eC fC rC => ?_⟩
    rw [hR] at rC
    walk_at "go"
    refine c_alike (dp_rows fC rC okA) (dp_rows (((e6.trans eB).trans eC) _ _ hU5) (r5.mono ((e6.trans eB).trans eC)) okA) hn ?_
    exact k _ ((e5.trans e6).trans (eB.trans eC))
theorem cutV_ints (ms : List Int) (a b : Option Int) : ∃ ms' : List Int, cutV (ms.map V.int) a b = ms'.map V.int ∧ ms'.length ≤ ms.length := by
  unfold cutV
  rw [List.length_map, ← List.map_drop, ← List.map_take]
  refine ⟨_, rfl, ?_⟩
  rw [List.length_take, List.length_drop]
  omega
def tRest (d : Ad) : TS := tSeq (tFor (iRng3 (tCons (tC (.int 0)) (tCons (tCB (Evl.rLenS d.K) (tCons (tVar 2) tNil)) (tCons (tC (.int 79)) tNil)))) (gName 3) (tIfS (tNot (tB (tCall (sp_l_deed d) [] E0 (tCons (tSl (rSlL d.K) (tVar 2) (tPart (tVar 3)) (tPart (aAdd (tVar 3) (tC (.int 79))))) (tCons (tVar 1) tNil))))) (tRet (tC (.bl false))) tNext))
        (tRet (tC (.bl true)))
theorem rgc79 {n : Nat} (h : n ≤ 79) : RgC 0 (n : Nat) 79 ((n + 78) / 79) := by
  refine ⟨by decide, by decide, ?_, ?_⟩
  · have z : ∀ m : Fin 80, Builtin.Range.small 0 ((m : Nat) : Int) 79 = true := by decide +kernel
    exact z ⟨n, by omega⟩
  · rw [PyProof.Rows.rangeSize_pos (by decide) (by omega)]
    omega
theorem pure_law (h : sp_law d vs H Q E) : t_law d { nx := fun _ H' => Q .non H', rt := Q } (start N_law vs) H := by
  obtain ⟨a, ns, rfl, hS, hlen, k⟩ := h
  show t_law d _ [some (.ref a), none, none, none, none] H
  unfold t_law
  rw [show (tSeq (tFor (iRng3 (tCons (tC (.int 0)) (tCons (tCB (Evl.rLenS d.K) (tCons (tVar 2) tNil)) (tCons (tC (.int 79)) tNil)))) (gName 3) (tIfS (tNot (tB (tCall (sp_l_deed d) [] E0 (tCons (tSl (rSlL d.K) (tVar 2) (tPart (tVar 3)) (tPart (aAdd (tVar 3) (tC (.int 79))))) (tCons (tVar 1) tNil))))) (tRet (tC (.bl false))) tNext))
        (tRet (tC (.bl true))) : TS) = tRest d from rfl]
  walk_at "go"
  intro l1 hl1
  generalize hZ : upd H l1 _ = H1
  have e1 := new_ex hl1 hZ
  have f1 := new_at hZ
  clear hZ
  rw [show (1 : Int) = ((1 : Nat) : Int) from rfl, cutV_to] at f1
  rw [← List.map_take] at f1
  walk_at "go"
  refine ⟨l1, ns.take 1, rfl, SqL.of f1, ?_⟩
  walk_at "go"
  refine ⟨_, rfl, fun q H2 n0 n1 n2 hq e2 f2 k0 k1 k2 => ?_⟩
  have e12 := e1.trans e2
  clear f1 e1 hl1
  walk_at "go"
  intro l3 hl3
  generalize hZ : upd H2 l3 _ = H3
  have e3 := new_ex hl3 hZ
  have f3 := new_at hZ
  clear hZ
  walk_at "go"
  refine ⟨l3, q, [], n0, n1, n2, rfl, SqL.of f3, SqL.of (e3 _ _ f2), by decide, fun H4 e4 => ?_⟩
  have e24 := e3.trans e4
  clear f3 hl3
  walk_at "go"
  have rest : ∀ (c : Addr) (H' : Hp) (ms : List Int) (x3 x4 : Option V), SqL d.K H' c (ms.map V.int) → ms.length ≤ 79 → Ex H2 H' →
      tRest d { nx := fun _ H' => Q .non H', rt := Q } [some (.ref a), some (.ref q), some (.ref c), x3, x4] H' := by
    intro c H' ms x3 x4 hc hms eH
    unfold tRest
    walk_at "go"
    rw [List.length_map]
    refine ⟨0, ms.length, 79, (ms.length + 78) / 79, rfl, rgc79 hms, ?_⟩
    refine for_it (walk_rangeC (lo := 0) (c := 79) (n := (ms.length + 78) / 79)) (fun i σ H1 => (∃ x3, σ = [some (.ref a), some (.ref q), some (.ref c), x3, x4]) ∧ Ex H' H1) ⟨⟨_, rfl⟩, Evl.Ex.refl _⟩ (fun _ _ _ _ _ => trivial) ?_ ?_
    · rintro i v σ H6 H7 hi ⟨⟨x3, rfl⟩, e6⟩ ⟨rfl, hv⟩
      subst hv
      walk_at "go"
      intro l8 hl8
      generalize hZ : upd H7 l8 _ = H8
      have e8 := new_ex hl8 hZ
      have f8 := new_at hZ
      clear hZ
      obtain ⟨ms', hms', hl'⟩ := cutV_ints ms (some (0 + (i : Nat) * 79)) (some (0 + (i : Nat) * 79 + 79))
      rw [hms'] at f8
      walk_at "go"
      refine ⟨l8, q, ms', n0, n1, n2, rfl, SqL.of f8, SqL.of (((eH.trans e6).trans e8) _ _ f2), by omega, fun H9 e9 => ?_⟩
      walk_at "go"
      exact ⟨⟨_, rfl⟩, (e6.trans e8).trans e9⟩
    · rintro σ H6 ⟨⟨x3, rfl⟩, e6⟩
      walk_at "go"
      exact k _
  refine ⟨a, ns.map V.int, rfl, .inl (ex_sq (e12.trans e24) hS), fun c hc => ?_⟩
  generalize hZ : upd H4 c _ = H5
  have e5 := new_ex hc hZ
  have f5 := new_at hZ
  clear hZ
  walk_at "go"
  rw [List.length_map]
  cases ns with
  | nil =>
    walk_at "go"
    exact rest c H5 [] _ _ (SqL.of f5) (by decide) (e24.trans e5)
  | cons n ns =>
    have hlen' : (n :: ns).length ≤ 63 := hlen
    generalize hxs : n :: ns = xs at *
    have hpos : 0 < xs.length := by rw [← hxs]; simp
    have h0 : xs[0]? = some n := by rw [← hxs]; rfl
    refine w_tt (dB_t (by omega)) ?_
    walk_at "go"
    refine w_ixL (SqL.of f5) (atI_nat (j := 0) (v := .int n) (by rw [List.getElem?_map, h0]; rfl)) ?_
    walk_at "go"
    walk_at "dec"
    · walk_at "go"
      rw [List.length_map]
      rw [if_neg (by omega)]
      refine ⟨by decide, by decide, ?_⟩
      refine lc_map (walk_range (lo := 0) (n := 79)) (by decide) (fun i => V.int (xs.getD (i % xs.length) 0 + (i : Int) / xs.length)) (fun _ _ => trivial) (fun i H x H' _ y => y.1 ▸ Evl.Ex.refl _) ?_ ?_ (mono_gn 4)
      · rintro i v H6 H7 hi e6 ⟨rfl, hv⟩ R hR
        have hv : v = .int (i : Nat) := hv.trans (congrArg V.int (Int.zero_add _))
        subst hv
        refine ⟨rfl, ?_⟩
        have hcc := e6 _ _ f5
        have hdv : CDiv (i : Nat) ((xs.map V.int).length : Nat) := ⟨by rw [List.length_map]; omega, by rw [List.length_map]; omega⟩
        have hmd : 0 < (((xs.map V.int).length : Nat) : Int) := by rw [List.length_map]; omega
        walk_at "go"
        have hmod : i % xs.length < xs.length := Nat.mod_lt _ hpos
        refine w_ixL (SqL.of hcc) (v := .int (xs.getD (i % xs.length) 0)) ?_ ?_
        · rw [List.length_map, ← Int.natCast_emod]
          refine atI_nat ?_
          rw [List.getElem?_map, List.getD_eq_getElem?_getD, List.getElem?_eq_getElem hmod]
          rfl
        · walk_at "go"
          rw [List.length_map]
          exact hR _ (Evl.Ex.refl _)
      · intro D H6 hD e6 f6
        walk_at "go"
        have hmp : ((List.range 79).map fun i => V.int (xs.getD (i % xs.length) 0 + (i : Int) / xs.length)) = ((List.range 79).map fun i => xs.getD (i % xs.length) 0 + (i : Int) / xs.length).map V.int := by rw [List.map_map]; rfl
        rw [hmp] at f6
        exact rest D H6 _ _ _ (SqL.of f6) (by simp) ((e24.trans e5).trans e6)
    · walk_at "go"
      exact rest c H5 xs _ _ (SqL.of f5) (by omega) (e24.trans e5)
end
end RT

set_option Elab.async false
set_option linter.all false
set_option maxRecDepth 100000
set_option maxHeartbeats 2000000
namespace Row
open PySem L2 RT
local macro_rules | `(tactic| walk_at "putf") => `(tactic| first | exact putF_nil | exact putF_hit | exact putF_miss (by decide) (by walk_at "putf"))
local macro_rules | `(tactic| walk_at "ne") => `(tactic| first | assumption | exact Ne.symm (by assumption) | ((refine' ne2 ?h1 ?h2); (case h1 => assumption); (case h2 => walk_at "hk")) | ((refine' ne2s ?h1 ?h2); (case h1 => assumption); (case h2 => walk_at "hk")) | exact ne_head (by assumption) | exact ne_of (by assumption) (by assumption) (by intro z; cases z))
local macro_rules | `(tactic| walk_at "hk") => `(tactic| first | assumption | with_reducible exact upd_same | ((with_reducible refine' up_ne ?h1 ?h2); (case h1 => walk_at "ne"); (case h2 => walk_at "hk")) | ((with_reducible refine' ex_at ?h1 ?h2); (case h1 => assumption); (case h2 => walk_at "hk")))
local macro_rules | `(tactic| walk_at "kit") => `(tactic| first | exact kit_int_int | exact kit_int_bool | exact kit_int_str | exact kit_int_list | exact kit_int_tuple | exact kit_int_dict | exact kit_bool_int | exact kit_bool_bool | exact kit_bool_str | exact kit_bool_list | exact kit_bool_tuple | exact kit_bool_dict | exact kit_str_int | exact kit_str_bool | exact kit_str_str | exact kit_str_list | exact kit_str_tuple | exact kit_str_dict | exact kit_NoneType_int | exact kit_NoneType_bool | exact kit_NoneType_str | exact kit_NoneType_list | exact kit_NoneType_tuple | exact kit_NoneType_dict | exact kit_list_int | exact kit_list_bool | exact kit_list_str | exact kit_list_list | exact kit_list_tuple | exact kit_list_dict | exact kit_tuple_int | exact kit_tuple_bool | exact kit_tuple_str | exact kit_tuple_list | exact kit_tuple_tuple | exact kit_tuple_dict | exact kit_dict_int | exact kit_dict_bool | exact kit_dict_str | exact kit_dict_list | exact kit_dict_tuple | exact kit_dict_dict)
local macro_rules | `(tactic| walk_at "sq") => `(tactic| first | assumption | ((with_reducible refine' SqL.of ?h); (case h => walk_at "hk")) | ((with_reducible refine' ex_sq ?h1 ?h2); (case h1 => assumption); (case h2 => walk_at "sq")))
local macro_rules | `(tactic| walk_at "st") => `(tactic| first | assumption | ((with_reducible refine' SqT.of ?h); (case h => walk_at "hk")) | ((with_reducible refine' ex_st ?h1 ?h2); (case h1 => assumption); (case h2 => walk_at "st")))
local macro_rules | `(tactic| walk_at "new") => `(tactic| (intro p hp; generalize hU : upd _ p _ = H'; have e1 := new_ex hp hU; have e2 := new_at hU; clear hU))
local macro_rules | `(tactic| walk_at "set") => `(tactic| ((try simp only [List.set_cons_succ, List.set_cons_zero]); rfl))
local macro_rules | `(tactic| walk_at "small") => `(tactic| first | assumption | (rw [sizeLine_eq]; (try simp only [List.length_cons, List.length_nil, str_len_app, sign_len]); omega) | (with_unfolding_all decide))
local macro_rules | `(tactic| walk_at "sc") => `(tactic| first | assumption | decide | omega | (unfold CMul; omega) | (unfold CDiv; omega) | (unfold CPow; decide) | (unfold CDiv; decide))
local macro_rules | `(tactic| walk_at "step") => `(tactic| first
  | with_reducible refine' w_seq ?_
  | with_reducible refine' w_op ?_
  | ((with_reducible refine' w_var ?h ?_); (case h => rfl))
  | with_reducible refine' w_c ?_
  | with_reducible refine' w_i0 ?_
  | with_reducible refine' w_cons ?_
  | with_reducible refine' w_nil ?_
  | with_reducible refine' w_asg ?_
  | ((with_reducible refine' w_gn ?e ?_); (case e => walk_at "set"))
  | with_reducible refine' w_ifS ?_
  | with_reducible refine' w_test ?_
  | with_reducible refine' w_tB ?_
  | with_reducible refine' w_bl ?_
  | with_reducible refine' w_int ?_
  | with_reducible refine' w_ref ?_
  | with_reducible refine' w_str ?_
  | with_reducible refine' w_eqI ?_
  | with_reducible refine' w_neI ?_
  | with_reducible refine' w_eqS ?_
  | with_reducible refine' w_neS ?_
  | with_reducible refine' w_ret ?_
  | with_reducible refine' w_for ?_
  | with_reducible refine' w_tFld ?_
  | ((with_reducible refine' w_fld ?h ?c ?n ?l ?_); (case h => walk_at "hk"); (case c => assumption); (case n => assumption); (case l => rfl))
  | with_reducible refine' w_sFld ?_
  | ((with_reducible refine' w_rsFld ?h ?c ?n ?l ?e ?_); (case h => walk_at "hk"); (case c => assumption); (case n => assumption); (case e => walk_at "putf"); (case l => (simp only [List.length_cons, List.length_nil]; omega)))
  | with_reducible refine' w_tDGet ?_
  | with_reducible refine' w_tDIn ?_
  | with_reducible refine' w_tDNotIn ?_
  | ((with_reducible refine' w_dinI ?h ?_); (case h => walk_at "hk"))
  | with_reducible refine' w_sDPut ?_
  | with_reducible refine' w_bm ?_
  | with_reducible refine' w_bm0 ?_
  | ((with_reducible refine' w_tyL ?h ?_); (case h => walk_at "sq"))
  | with_reducible refine' w_iRev ?_
  | ((with_reducible refine' w_rev1 ?h ?_); (case h => walk_at "sq"))
  | with_reducible refine' w_iItems ?_
  | with_reducible refine' w_iKeys ?_
  | with_reducible refine' w_iRng3 ?_
  | with_reducible refine' w_iZip ?_
  | with_reducible refine' w_gCons ?_
  | with_reducible refine' w_gNil ?_
  | ((with_reducible refine' w_gTup ?h ?l ?_); (case h => walk_at "st"); (case l => rfl))
  | with_reducible refine' w_m1 ?_
  | with_reducible refine' w_isS ?_
  | with_reducible refine' w_lc ?_
  | with_reducible refine' w_iList ?_
  | with_reducible refine' w_iTup ?_
  | with_reducible refine' w_iStr ?_
  | with_reducible refine' w_iRng1 ?_
  | with_reducible refine' w_iRng2 ?_
  | with_reducible refine' w_v1I ?_
  | with_reducible refine' w_v2I ?_
  | with_reducible refine' w_next ?_
  | with_reducible refine' w_call ?_
  | with_reducible refine' w_cb ?_
  | with_reducible refine' w_and ?_
  | with_reducible refine' w_or ?_
  | with_reducible refine' w_not ?_
  | with_reducible refine' w_andV ?_
  | with_reducible refine' w_orV ?_
  | with_reducible refine' w_notV ?_
  | with_reducible refine' w_ifE ?_
  | with_reducible refine' w_drop ?_
  | with_reducible refine' w_un ?_
  | with_reducible refine' w_u ?_
  | with_reducible refine' w_isNN ?_
  | with_reducible refine' w_isNI ?_
  | with_reducible refine' w_isNS ?_
  | with_reducible refine' w_isNR ?_
  | with_reducible refine' w_notNN ?_
  | with_reducible refine' w_notNI ?_
  | with_reducible refine' w_notNS ?_
  | with_reducible refine' w_notNR ?_
  | with_reducible refine' w_int1 ?_
  | with_reducible refine' w_int1b ?_
  | with_reducible refine' w_tup ?_
  | with_reducible refine' w_lst ?_
  | with_reducible refine' w_dnew ?_
  | with_reducible refine' w_sl ?_
  | with_reducible refine' w_noPart ?_
  | with_reducible refine' w_part ?_
  | with_reducible refine' w_retN ?_
  | with_reducible refine' w_brk ?_
  | with_reducible refine' w_cont ?_
  | with_reducible refine' w_chain ?_
  | with_reducible refine' w_lt ?_
  | with_reducible refine' w_le ?_
  | with_reducible refine' w_gt ?_
  | with_reducible refine' w_ge ?_
  | with_reducible refine' w_ltS ?_
  | with_reducible refine' w_leS ?_
  | with_reducible refine' w_gtS ?_
  | with_reducible refine' w_geS ?_
  | ((with_reducible refine' w_addS ?h ?_); (case h => walk_at "small"))
  | with_reducible refine' w_inS ?_
  | with_reducible refine' w_ninS ?_
  | with_reducible refine' w_par ?_
  | with_reducible refine' w_v2 ?_
  | with_reducible refine' w_max2 ?_
  | with_reducible refine' w_min2 ?_
  | with_reducible refine' w_tru ?_
  | with_reducible refine' w_meth ?_
  | ((with_reducible refine' w_meth1 ?h ?l ?_); (case h => walk_at "hk"); (case l => rfl))
  | with_reducible refine' w_make ?_
  | ((with_reducible refine' w_isiI ?h ?_); (case h => walk_at "kit"))
  | ((with_reducible refine' w_isiB ?h ?_); (case h => walk_at "kit"))
  | ((with_reducible refine' w_isiN ?h ?_); (case h => walk_at "kit"))
  | ((with_reducible refine' w_isiS ?h ?_); (case h => walk_at "kit"))
  | ((with_reducible refine' w_isiSL ?h ?e ?_); (case h => walk_at "sq"); (case e => walk_at "kit"))
  | ((with_reducible refine' w_isiST ?h ?e ?_); (case h => walk_at "st"); (case e => walk_at "kit"))
  | ((with_reducible refine' w_i ?h ?_); (case h => walk_at "sc"))
  | with_reducible refine' w_ttL ?_
  | with_reducible refine' w_ffL ?_
  | ((with_reducible refine' w_tt ?h ?_); (case h => first | exact dB_t (by decide) | exact nB_t (by decide) | decide))
  | ((with_reducible refine' w_ff ?h ?_); (case h => first | exact dB_f (by decide) | exact nB_f (by decide) | decide))
  | ((with_reducible refine' w_lenS ?h ?_); (case h => walk_at "sq"))
  | ((with_reducible refine' w_lenT ?h ?_); (case h => walk_at "st"))
  | ((with_reducible refine' w_slL ?h ?_); (case h => walk_at "sq"))
  | ((with_reducible refine' w_aug ?h ?_); (case h => rfl))
  | with_reducible refine' w_ip ?_
  | ((with_reducible refine' w_cat ?h1 ?h2 ?h3 ?_); (case h1 => walk_at "hk"); (case h2 => walk_at "hk"); (case h3 => walk_at "small"))
  | ((with_reducible refine' w_ixL ?h1 ?h2 ?_); (case h1 => walk_at "sq"); (case h2 => rfl))
  | ((with_reducible refine' w_ixT ?h1 ?h2 ?_); (case h1 => walk_at "st"); (case h2 => rfl))
  | ((with_reducible refine' w_lenStr ?h ?_); (case h => walk_at "small"))
  | ((with_reducible refine' w_slS ?h ?_); (case h => walk_at "small"))
  | ((with_reducible refine' w_sz ?h ?_); (case h => walk_at "small")))
local macro_rules | `(tactic| walk_at "go") => `(tactic| (repeat (first | walk_at "step" | walk_at "callx")))
local macro_rules | `(tactic| walk_at "goN") => `(tactic| (repeat (first | walk_at "step" | walk_at "callx" | ((with_reducible show ∀ p, _ = none → _); walk_at "new"))))
local macro_rules | `(tactic| walk_at "len") => `(tactic| first
  | (obtain ⟨rfl, _⟩ := h; rfl) | (obtain ⟨_, rfl, _⟩ := h; rfl) | (obtain ⟨_, _, rfl, _⟩ := h; rfl) | (obtain ⟨_, _, _, rfl, _⟩ := h; rfl) | (obtain ⟨_, _, _, _, rfl, _⟩ := h; rfl)
  | (obtain ⟨_, _, _, _, _, rfl, _⟩ := h; rfl) | (obtain ⟨_, _, _, _, _, _, rfl, _⟩ := h; rfl) | (obtain ⟨_, _, _, _, _, _, _, rfl, _⟩ := h; rfl) | (obtain ⟨_, _, _, _, _, _, _, _, rfl, _⟩ := h; rfl)
  | (obtain ⟨_, _, _, _, _, _, _, _, _, rfl, _⟩ := h; rfl) | (obtain ⟨_, _, _, _, _, _, _, _, _, _, rfl, _⟩ := h; rfl))
local macro_rules | `(tactic| walk_at "dec") => `(tactic| (first | with_reducible apply w_dec | with_reducible apply w_ndec | with_reducible apply w_bool) <;> intro hc)
def top (i : Nat) : Stmt := PySem.Challenge.pw_retryhall_k11_rows_plain.main.body.getD i (.Pass ⟨0, 0, 0, 0⟩)
abbrev s_Let_init : Stmt := inClass (top 3) 0
theorem sc_Let_init : FnScope N_Let_init ["self", "slot", "number"] (defScope s_Let_init) := ⟨rfl, rfl, rfl, by decide +kernel, rfl, by decide +kernel, by decide +kernel⟩
abbrev s_Reckon_init : Stmt := inClass (top 4) 0
theorem sc_Reckon_init : FnScope N_Reckon_init ["self", "word", "slot", "one", "other"] (defScope s_Reckon_init) := ⟨rfl, rfl, rfl, by decide +kernel, rfl, by decide +kernel, by decide +kernel⟩
abbrev s_Take_init : Stmt := inClass (top 5) 0
theorem sc_Take_init : FnScope N_Take_init ["self", "slot", "place"] (defScope s_Take_init) := ⟨rfl, rfl, rfl, by decide +kernel, rfl, by decide +kernel, by decide +kernel⟩
abbrev s_Put_init : Stmt := inClass (top 6) 0
theorem sc_Put_init : FnScope N_Put_init ["self", "place", "slot"] (defScope s_Put_init) := ⟨rfl, rfl, rfl, by decide +kernel, rfl, by decide +kernel, by decide +kernel⟩
abbrev s_Throw_init : Stmt := inClass (top 10) 0
theorem sc_Throw_init : FnScope N_Throw_init ["self", "name", "slot"] (defScope s_Throw_init) := ⟨rfl, rfl, rfl, by decide +kernel, rfl, by decide +kernel, by decide +kernel⟩
abbrev s_plain_row : Stmt := top 13
theorem sc_plain_row : FnScope N_plain_row ["part"] (defScope s_plain_row) := ⟨rfl, rfl, rfl, by decide +kernel, rfl, by decide +kernel, by decide +kernel⟩
abbrev s_two_sides : Stmt := top 14
theorem sc_two_sides : FnScope N_two_sides ["head", "part", "first", "closing"] (defScope s_two_sides) := ⟨rfl, rfl, rfl, by decide +kernel, rfl, by decide +kernel, by decide +kernel⟩
abbrev s_part_rows : Stmt := top 15
theorem sc_part_rows : FnScope N_part_rows ["part", "first"] (defScope s_part_rows) := ⟨rfl, rfl, rfl, by decide +kernel, rfl, by decide +kernel, by decide +kernel⟩
abbrev s_rows_from : Stmt := top 16
theorem sc_rows_from : FnScope N_rows_from ["parts", "first"] (defScope s_rows_from) := ⟨rfl, rfl, rfl, by decide +kernel, rfl, by decide +kernel, by decide +kernel⟩
abbrev s_rows_of : Stmt := top 17
theorem sc_rows_of : FnScope N_rows_of ["deed"] (defScope s_rows_of) := ⟨rfl, rfl, rfl, by decide +kernel, rfl, by decide +kernel, by decide +kernel⟩
abbrev s_l_mixed : Stmt := top 19
theorem sc_l_mixed : FnScope N_l_mixed ["_law_cell"] (defScope s_l_mixed) := ⟨rfl, rfl, rfl, by decide +kernel, rfl, by decide +kernel, by decide +kernel⟩
abbrev s_l_wide : Stmt := top 20
theorem sc_l_wide : FnScope N_l_wide ["_law_cell"] (defScope s_l_wide) := ⟨rfl, rfl, rfl, by decide +kernel, rfl, by decide +kernel, by decide +kernel⟩
abbrev s_l_alike : Stmt := top 21
theorem sc_l_alike : FnScope N_l_alike ["_law_found", "_law_due"] (defScope s_l_alike) := ⟨rfl, rfl, rfl, by decide +kernel, rfl, by decide +kernel, by decide +kernel⟩
abbrev s_l_names : Stmt := top 22
theorem sc_l_names : FnScope N_l_names ["_law_cell"] (defScope s_l_names) := ⟨rfl, rfl, rfl, by decide +kernel, rfl, by decide +kernel, by decide +kernel⟩
abbrev s_l_part : Stmt := top 23
theorem sc_l_part : FnScope N_l_part ["_law_cell", "_law_names_here"] (defScope s_l_part) := ⟨rfl, rfl, rfl, by decide +kernel, rfl, by decide +kernel, by decide +kernel⟩
abbrev s_l_deed : Stmt := top 24
theorem sc_l_deed : FnScope N_l_deed ["_law_cells", "_law_names_here"] (defScope s_l_deed) := ⟨rfl, rfl, rfl, by decide +kernel, rfl, by decide +kernel, by decide +kernel⟩
abbrev s_law : Stmt := top 25
theorem sc_law : FnScope N_law ["_law_script"] (defScope s_law) := ⟨rfl, rfl, rfl, by decide +kernel, rfl, by decide +kernel, by decide +kernel⟩
structure Fs where
  f_Let_init : Addr
  d_Let_init : FuncData
  f_Reckon_init : Addr
  d_Reckon_init : FuncData
  f_Take_init : Addr
  d_Take_init : FuncData
  f_Put_init : Addr
  d_Put_init : FuncData
  f_Throw_init : Addr
  d_Throw_init : FuncData
  f_plain_row : Addr
  d_plain_row : FuncData
  f_two_sides : Addr
  d_two_sides : FuncData
  f_part_rows : Addr
  d_part_rows : FuncData
  f_rows_from : Addr
  d_rows_from : FuncData
  f_rows_of : Addr
  d_rows_of : FuncData
  f_l_mixed : Addr
  d_l_mixed : FuncData
  f_l_wide : Addr
  d_l_wide : FuncData
  f_l_alike : Addr
  d_l_alike : FuncData
  f_l_names : Addr
  d_l_names : FuncData
  f_l_part : Addr
  d_l_part : FuncData
  f_l_deed : Addr
  d_l_deed : FuncData
  f_law : Addr
  d_law : FuncData
structure Txt (d : Ad) (mg : Str → Option Value) (z : Fs) : Prop where
  F_Let_init : Fun d.K "__init__" "Let.__init__" s_Let_init z.f_Let_init z.d_Let_init
  B_Let_init : Binds d.K z.d_Let_init ["self", "slot", "number"] []
  K_Let : Mk d.K d.cLet z.f_Let_init
  F_Reckon_init : Fun d.K "__init__" "Reckon.__init__" s_Reckon_init z.f_Reckon_init z.d_Reckon_init
  B_Reckon_init : Binds d.K z.d_Reckon_init ["self", "word", "slot", "one", "other"] []
  K_Reckon : Mk d.K d.cReckon z.f_Reckon_init
  F_Take_init : Fun d.K "__init__" "Take.__init__" s_Take_init z.f_Take_init z.d_Take_init
  B_Take_init : Binds d.K z.d_Take_init ["self", "slot", "place"] []
  K_Take : Mk d.K d.cTake z.f_Take_init
  F_Put_init : Fun d.K "__init__" "Put.__init__" s_Put_init z.f_Put_init z.d_Put_init
  B_Put_init : Binds d.K z.d_Put_init ["self", "place", "slot"] []
  K_Put : Mk d.K d.cPut z.f_Put_init
  F_Throw_init : Fun d.K "__init__" "Throw.__init__" s_Throw_init z.f_Throw_init z.d_Throw_init
  B_Throw_init : Binds d.K z.d_Throw_init ["self", "name", "slot"] []
  K_Throw : Mk d.K d.cThrow z.f_Throw_init
  F_plain_row : Fun d.K "plain_row" "plain_row" s_plain_row z.f_plain_row z.d_plain_row
  B_plain_row : Binds d.K z.d_plain_row ["part"] []
  m_plain_row : mg "plain_row" = some (.ref z.f_plain_row)
  F_two_sides : Fun d.K "two_sides" "two_sides" s_two_sides z.f_two_sides z.d_two_sides
  B_two_sides : Binds d.K z.d_two_sides ["head", "part", "first", "closing"] []
  m_two_sides : mg "two_sides" = some (.ref z.f_two_sides)
  F_part_rows : Fun d.K "part_rows" "part_rows" s_part_rows z.f_part_rows z.d_part_rows
  B_part_rows : Binds d.K z.d_part_rows ["part", "first"] []
  m_part_rows : mg "part_rows" = some (.ref z.f_part_rows)
  F_rows_from : Fun d.K "rows_from" "rows_from" s_rows_from z.f_rows_from z.d_rows_from
  B_rows_from : Binds d.K z.d_rows_from ["parts", "first"] []
  m_rows_from : mg "rows_from" = some (.ref z.f_rows_from)
  F_rows_of : Fun d.K "rows_of" "rows_of" s_rows_of z.f_rows_of z.d_rows_of
  B_rows_of : Binds d.K z.d_rows_of ["deed"] []
  m_rows_of : mg "rows_of" = some (.ref z.f_rows_of)
  F_l_mixed : Fun d.K "_law_mixed" "_law_mixed" s_l_mixed z.f_l_mixed z.d_l_mixed
  B_l_mixed : Binds d.K z.d_l_mixed ["_law_cell"] []
  m_l_mixed : mg "_law_mixed" = some (.ref z.f_l_mixed)
  F_l_wide : Fun d.K "_law_wide" "_law_wide" s_l_wide z.f_l_wide z.d_l_wide
  B_l_wide : Binds d.K z.d_l_wide ["_law_cell"] []
  m_l_wide : mg "_law_wide" = some (.ref z.f_l_wide)
  F_l_alike : Fun d.K "_law_alike" "_law_alike" s_l_alike z.f_l_alike z.d_l_alike
  B_l_alike : Binds d.K z.d_l_alike ["_law_found", "_law_due"] []
  m_l_alike : mg "_law_alike" = some (.ref z.f_l_alike)
  F_l_names : Fun d.K "_law_names" "_law_names" s_l_names z.f_l_names z.d_l_names
  B_l_names : Binds d.K z.d_l_names ["_law_cell"] []
  m_l_names : mg "_law_names" = some (.ref z.f_l_names)
  F_l_part : Fun d.K "_law_part" "_law_part" s_l_part z.f_l_part z.d_l_part
  B_l_part : Binds d.K z.d_l_part ["_law_cell", "_law_names_here"] []
  m_l_part : mg "_law_part" = some (.ref z.f_l_part)
  F_l_deed : Fun d.K "_law_deed" "_law_deed" s_l_deed z.f_l_deed z.d_l_deed
  B_l_deed : Binds d.K z.d_l_deed ["_law_cells", "_law_names_here"] []
  m_l_deed : mg "_law_deed" = some (.ref z.f_l_deed)
  F_law : Fun d.K "law" "law" s_law z.f_law z.d_law
  B_law : Binds d.K z.d_law ["_law_script"] []
  m_law : mg "law" = some (.ref z.f_law)
  b_bool : mg "bool" = none
  b_int : mg "int" = none
  b_isinstance : mg "isinstance" = none
  b_len : mg "len" = none
  b_list : mg "list" = none
  b_max : mg "max" = none
  b_range : mg "range" = none
  b_str : mg "str" = none
  b_sum : mg "sum" = none
  b_tuple : mg "tuple" = none
  g_Let : mg "Let" = some (.ref d.cLet)
  g_Reckon : mg "Reckon" = some (.ref d.cReckon)
  g_Take : mg "Take" = some (.ref d.cTake)
  g_Put : mg "Put" = some (.ref d.cPut)
  g_Throw : mg "Throw" = some (.ref d.cThrow)
  g_If : mg "If" = some (.ref d.cIf)
  g_Either : mg "Either" = some (.ref d.cEither)
  g_Try : mg "Try" = some (.ref d.cTry)
  g_Wait : mg "Wait" = some (.ref d.cWait)
  MO_Wait : MkO d.K d.cWait
  t_Parts : TParts d
section
variable {P : Program} {w : World} {mg : Str → Option Value} {base : Heap} {d : Ad} {z : Fs}
theorem ok_Let_init (T : Txt d mg z) : FnOk P w d.K mg base CX0 1 z.f_Let_init z.d_Let_init ["self", "slot", "number"] (sp_Let_init d) := by
  refine T.F_Let_init.ok sc_Let_init (fun vs H Q E h => by first | (obtain ⟨rfl, _⟩ := h; rfl) | (obtain ⟨_, rfl, _⟩ := h; rfl) | (obtain ⟨_, _, rfl, _⟩ := h; rfl) | (obtain ⟨_, _, _, rfl, _⟩ := h; rfl) | (obtain ⟨_, _, _, _, rfl, _⟩ := h; rfl) | (obtain ⟨_, _, _, _, _, rfl, _⟩ := h; rfl) | (obtain ⟨_, _, _, _, _, _, rfl, _⟩ := h; rfl) | (obtain ⟨_, _, _, _, _, _, _, rfl, _⟩ := h; rfl) | (obtain ⟨_, _, _, _, _, _, _, _, rfl, _⟩ := h; rfl) | (obtain ⟨_, _, _, _, _, _, _, _, _, rfl, _⟩ := h; rfl) | (obtain ⟨_, _, _, _, _, _, _, _, _, _, rfl, _⟩ := h; rfl)) (fun cdv A outer s H vs Q E hr h => ⟨t_Let_init d, ?_, pure_Let_init T.t_Parts h⟩)
  exact (pss_cons (ps_fld (pv 0) (pv 1) rfl)
      (pss_one (ps_fld (pv 0) (pv 2) rfl)))
theorem ok_Reckon_init (T : Txt d mg z) : FnOk P w d.K mg base CX0 1 z.f_Reckon_init z.d_Reckon_init ["self", "word", "slot", "one", "other"] (sp_Reckon_init d) := by
  refine T.F_Reckon_init.ok sc_Reckon_init (fun vs H Q E h => by first | (obtain ⟨rfl, _⟩ := h; rfl) | (obtain ⟨_, rfl, _⟩ := h; rfl) | (obtain ⟨_, _, rfl, _⟩ := h; rfl) | (obtain ⟨_, _, _, rfl, _⟩ := h; rfl) | (obtain ⟨_, _, _, _, rfl, _⟩ := h; rfl) | (obtain ⟨_, _, _, _, _, rfl, _⟩ := h; rfl) | (obtain ⟨_, _, _, _, _, _, rfl, _⟩ := h; rfl) | (obtain ⟨_, _, _, _, _, _, _, rfl, _⟩ := h; rfl) | (obtain ⟨_, _, _, _, _, _, _, _, rfl, _⟩ := h; rfl) | (obtain ⟨_, _, _, _, _, _, _, _, _, rfl, _⟩ := h; rfl) | (obtain ⟨_, _, _, _, _, _, _, _, _, _, rfl, _⟩ := h; rfl)) (fun cdv A outer s H vs Q E hr h => ⟨t_Reckon_init d, ?_, pure_Reckon_init T.t_Parts h⟩)
  exact (pss_cons (ps_fld (pv 0) (pv 1) rfl)
      (pss_cons (ps_fld (pv 0) (pv 2) rfl)
      (pss_cons (ps_fld (pv 0) (pv 3) rfl)
      (pss_one (ps_fld (pv 0) (pv 4) rfl)))))
theorem ok_Take_init (T : Txt d mg z) : FnOk P w d.K mg base CX0 1 z.f_Take_init z.d_Take_init ["self", "slot", "place"] (sp_Take_init d) := by
  refine T.F_Take_init.ok sc_Take_init (fun vs H Q E h => by first | (obtain ⟨rfl, _⟩ := h; rfl) | (obtain ⟨_, rfl, _⟩ := h; rfl) | (obtain ⟨_, _, rfl, _⟩ := h; rfl) | (obtain ⟨_, _, _, rfl, _⟩ := h; rfl) | (obtain ⟨_, _, _, _, rfl, _⟩ := h; rfl) | (obtain ⟨_, _, _, _, _, rfl, _⟩ := h; rfl) | (obtain ⟨_, _, _, _, _, _, rfl, _⟩ := h; rfl) | (obtain ⟨_, _, _, _, _, _, _, rfl, _⟩ := h; rfl) | (obtain ⟨_, _, _, _, _, _, _, _, rfl, _⟩ := h; rfl) | (obtain ⟨_, _, _, _, _, _, _, _, _, rfl, _⟩ := h; rfl) | (obtain ⟨_, _, _, _, _, _, _, _, _, _, rfl, _⟩ := h; rfl)) (fun cdv A outer s H vs Q E hr h => ⟨t_Take_init d, ?_, pure_Take_init T.t_Parts h⟩)
  exact (pss_cons (ps_fld (pv 0) (pv 1) rfl)
      (pss_one (ps_fld (pv 0) (pv 2) rfl)))
theorem ok_Put_init (T : Txt d mg z) : FnOk P w d.K mg base CX0 1 z.f_Put_init z.d_Put_init ["self", "place", "slot"] (sp_Put_init d) := by
  refine T.F_Put_init.ok sc_Put_init (fun vs H Q E h => by first | (obtain ⟨rfl, _⟩ := h; rfl) | (obtain ⟨_, rfl, _⟩ := h; rfl) | (obtain ⟨_, _, rfl, _⟩ := h; rfl) | (obtain ⟨_, _, _, rfl, _⟩ := h; rfl) | (obtain ⟨_, _, _, _, rfl, _⟩ := h; rfl) | (obtain ⟨_, _, _, _, _, rfl, _⟩ := h; rfl) | (obtain ⟨_, _, _, _, _, _, rfl, _⟩ := h; rfl) | (obtain ⟨_, _, _, _, _, _, _, rfl, _⟩ := h; rfl) | (obtain ⟨_, _, _, _, _, _, _, _, rfl, _⟩ := h; rfl) | (obtain ⟨_, _, _, _, _, _, _, _, _, rfl, _⟩ := h; rfl) | (obtain ⟨_, _, _, _, _, _, _, _, _, _, rfl, _⟩ := h; rfl)) (fun cdv A outer s H vs Q E hr h => ⟨t_Put_init d, ?_, pure_Put_init T.t_Parts h⟩)
  exact (pss_cons (ps_fld (pv 0) (pv 1) rfl)
      (pss_one (ps_fld (pv 0) (pv 2) rfl)))
theorem ok_Throw_init (T : Txt d mg z) : FnOk P w d.K mg base CX0 1 z.f_Throw_init z.d_Throw_init ["self", "name", "slot"] (sp_Throw_init d) := by
  refine T.F_Throw_init.ok sc_Throw_init (fun vs H Q E h => by first | (obtain ⟨rfl, _⟩ := h; rfl) | (obtain ⟨_, rfl, _⟩ := h; rfl) | (obtain ⟨_, _, rfl, _⟩ := h; rfl) | (obtain ⟨_, _, _, rfl, _⟩ := h; rfl) | (obtain ⟨_, _, _, _, rfl, _⟩ := h; rfl) | (obtain ⟨_, _, _, _, _, rfl, _⟩ := h; rfl) | (obtain ⟨_, _, _, _, _, _, rfl, _⟩ := h; rfl) | (obtain ⟨_, _, _, _, _, _, _, rfl, _⟩ := h; rfl) | (obtain ⟨_, _, _, _, _, _, _, _, rfl, _⟩ := h; rfl) | (obtain ⟨_, _, _, _, _, _, _, _, _, rfl, _⟩ := h; rfl) | (obtain ⟨_, _, _, _, _, _, _, _, _, _, rfl, _⟩ := h; rfl)) (fun cdv A outer s H vs Q E hr h => ⟨t_Throw_init d, ?_, pure_Throw_init T.t_Parts h⟩)
  exact (pss_cons (ps_fld (pv 0) (pv 1) rfl)
      (pss_one (ps_fld (pv 0) (pv 2) rfl)))
theorem ok_plain_row (T : Txt d mg z) : FnOk P w d.K mg base CX0 1 z.f_plain_row z.d_plain_row ["part"] (sp_plain_row d) := by
  refine T.F_plain_row.ok sc_plain_row (fun vs H Q E h => by first | (obtain ⟨rfl, _⟩ := h; rfl) | (obtain ⟨_, rfl, _⟩ := h; rfl) | (obtain ⟨_, _, rfl, _⟩ := h; rfl) | (obtain ⟨_, _, _, rfl, _⟩ := h; rfl) | (obtain ⟨_, _, _, _, rfl, _⟩ := h; rfl) | (obtain ⟨_, _, _, _, _, rfl, _⟩ := h; rfl) | (obtain ⟨_, _, _, _, _, _, rfl, _⟩ := h; rfl) | (obtain ⟨_, _, _, _, _, _, _, rfl, _⟩ := h; rfl) | (obtain ⟨_, _, _, _, _, _, _, _, rfl, _⟩ := h; rfl) | (obtain ⟨_, _, _, _, _, _, _, _, _, rfl, _⟩ := h; rfl) | (obtain ⟨_, _, _, _, _, _, _, _, _, _, rfl, _⟩ := h; rfl)) (fun cdv A outer s H vs Q E hr h => ⟨t_plain_row d, ?_, pure_plain_row T.t_Parts h⟩)
  exact (pss_cons (ps_if (pt_val (pe_callB call_isi (by rfl) T.b_isinstance (by decide +kernel) (pa_cons (pv 0) (pa_cons (pe_glob rfl T.g_Let rfl) pa_nil)))) (pss_one (ps_ret (pe_tup (pa_cons pe_str (pa_cons (pe_fld (pv 0) rfl) (pa_cons (pe_fld (pv 0) rfl) pa_nil)))))) pss_nil)
      (pss_cons (ps_if (pt_val (pe_callB call_isi (by rfl) T.b_isinstance (by decide +kernel) (pa_cons (pv 0) (pa_cons (pe_glob rfl T.g_Reckon rfl) pa_nil)))) (pss_one (ps_ret (pe_tup (pa_cons (pe_fld (pv 0) rfl) (pa_cons (pe_fld (pv 0) rfl) (pa_cons (pe_fld (pv 0) rfl) (pa_cons (pe_fld (pv 0) rfl) pa_nil))))))) pss_nil)
      (pss_cons (ps_if (pt_val (pe_callB call_isi (by rfl) T.b_isinstance (by decide +kernel) (pa_cons (pv 0) (pa_cons (pe_glob rfl T.g_Take rfl) pa_nil)))) (pss_one (ps_ret (pe_tup (pa_cons pe_str (pa_cons (pe_fld (pv 0) rfl) (pa_cons (pe_fld (pv 0) rfl) pa_nil)))))) pss_nil)
      (pss_cons (ps_if (pt_val (pe_callB call_isi (by rfl) T.b_isinstance (by decide +kernel) (pa_cons (pv 0) (pa_cons (pe_glob rfl T.g_Put rfl) pa_nil)))) (pss_one (ps_ret (pe_tup (pa_cons pe_str (pa_cons (pe_fld (pv 0) rfl) (pa_cons (pe_fld (pv 0) rfl) pa_nil)))))) pss_nil)
      (pss_cons (ps_if (pt_val (pe_callB call_isi (by rfl) T.b_isinstance (by decide +kernel) (pa_cons (pv 0) (pa_cons (pe_glob rfl T.g_Throw rfl) pa_nil)))) (pss_one (ps_ret (pe_tup (pa_cons pe_str (pa_cons (pe_fld (pv 0) rfl) (pa_cons (pe_fld (pv 0) rfl) pa_nil)))))) pss_nil)
      (pss_one (ps_ret (pe_tup (pa_cons pe_str pa_nil)))))))))
theorem okG_two_sides (T : Txt d mg z) : (n : Nat) → FnOk P w d.K mg base CX0 (n + 1) z.f_two_sides z.d_two_sides ["head", "part", "first", "closing"] (spN_two_sides n d) ∧ FnOk P w d.K mg base CX0 (n + 1) z.f_part_rows z.d_part_rows ["part", "first"] (spN_part_rows n d) ∧ FnOk P w d.K mg base CX0 (n + 1) z.f_rows_from z.d_rows_from ["parts", "first"] (spN_rows_from n d)
  | 0 => ⟨fnok_no fun vs H Q E h => no_two_sides h, fnok_no fun vs H Q E h => no_part_rows h, fnok_no fun vs H Q E h => no_rows_from h⟩
  | n + 1 => by
    have G_plain_row := ok_plain_row (P := P) (w := w) (base := base) T
    have GG := okG_two_sides T n
    obtain ⟨GN_two_sides, GN_part_rows, GN_rows_from⟩ := GG
    refine ⟨?g0, ?g1, ?g2⟩
    case g0 =>
      refine FnOk.mono (j := n + 1 + 1) ?_ (by omega)
      refine T.F_two_sides.ok sc_two_sides (fun vs H Q E h => by first | (obtain ⟨rfl, _⟩ := h; rfl) | (obtain ⟨_, rfl, _⟩ := h; rfl) | (obtain ⟨_, _, rfl, _⟩ := h; rfl) | (obtain ⟨_, _, _, rfl, _⟩ := h; rfl) | (obtain ⟨_, _, _, _, rfl, _⟩ := h; rfl) | (obtain ⟨_, _, _, _, _, rfl, _⟩ := h; rfl) | (obtain ⟨_, _, _, _, _, _, rfl, _⟩ := h; rfl) | (obtain ⟨_, _, _, _, _, _, _, rfl, _⟩ := h; rfl) | (obtain ⟨_, _, _, _, _, _, _, _, rfl, _⟩ := h; rfl) | (obtain ⟨_, _, _, _, _, _, _, _, _, rfl, _⟩ := h; rfl) | (obtain ⟨_, _, _, _, _, _, _, _, _, _, rfl, _⟩ := h; rfl)) (fun cdv A outer s H vs Q E hr h => ⟨t_two_sides n d, ?_, pure_two_sides  h⟩)
      exact (pss_cons (ps_set (i := 4) sc_two_sides.nd rfl (Or.inl rfl) (pe_op op_cat (pe_call GN_rows_from (hr.mono (by omega)) rfl T.m_rows_from T.F_rows_from.kp T.B_rows_from .nil pass0 (pa_cons (pe_fld (pv 1) rfl) (pa_cons (pe_op op_add (pv 2) pe_int) pa_nil))) (pv 3)))
        (pss_cons (ps_set (i := 5) sc_two_sides.nd rfl (Or.inl rfl) (pe_op op_add (pe_op op_add (pv 2) (pe_callB call_len_seq (by rfl) T.b_len (by decide +kernel) (pa_cons (pv 4) pa_nil))) pe_int))
        (pss_cons (ps_set (i := 6) sc_two_sides.nd rfl (Or.inl rfl) (pe_call GN_rows_from (hr.mono (by omega)) rfl T.m_rows_from T.F_rows_from.kp T.B_rows_from .nil pass0 (pa_cons (pe_fld (pv 1) rfl) (pa_cons (pv 5) pa_nil))))
        (pss_one (ps_ret (pe_op op_cat (pe_op op_cat (pe_op op_cat (pe_lst (pa_cons (pe_op op_catT (pv 0) (pe_tup (pa_cons (pv 5) pa_nil))) pa_nil)) (pv 4)) (pe_lst (pa_cons (pe_tup (pa_cons pe_str (pa_cons (pe_op op_add (pv 5) (pe_callB call_len_seq (by rfl) T.b_len (by decide +kernel) (pa_cons (pv 6) pa_nil))) pa_nil))) pa_nil))) (pv 6)))))))
    case g1 =>
      refine FnOk.mono (j := n + 1 + 1) ?_ (by omega)
      refine T.F_part_rows.ok sc_part_rows (fun vs H Q E h => by first | (obtain ⟨rfl, _⟩ := h; rfl) | (obtain ⟨_, rfl, _⟩ := h; rfl) | (obtain ⟨_, _, rfl, _⟩ := h; rfl) | (obtain ⟨_, _, _, rfl, _⟩ := h; rfl) | (obtain ⟨_, _, _, _, rfl, _⟩ := h; rfl) | (obtain ⟨_, _, _, _, _, rfl, _⟩ := h; rfl) | (obtain ⟨_, _, _, _, _, _, rfl, _⟩ := h; rfl) | (obtain ⟨_, _, _, _, _, _, _, rfl, _⟩ := h; rfl) | (obtain ⟨_, _, _, _, _, _, _, _, rfl, _⟩ := h; rfl) | (obtain ⟨_, _, _, _, _, _, _, _, _, rfl, _⟩ := h; rfl) | (obtain ⟨_, _, _, _, _, _, _, _, _, _, rfl, _⟩ := h; rfl)) (fun cdv A outer s H vs Q E hr h => ⟨t_part_rows n d, ?_, pure_part_rows T.t_Parts h⟩)
      exact (pss_cons (ps_if (pt_val (pe_callB call_isi (by rfl) T.b_isinstance (by decide +kernel) (pa_cons (pv 0) (pa_cons (pe_glob rfl T.g_If rfl) pa_nil)))) (pss_one (ps_ret (pe_call GN_two_sides (hr.mono (by omega)) rfl T.m_two_sides T.F_two_sides.kp T.B_two_sides .nil pass0 (pa_cons (pe_tup (pa_cons pe_str (pa_cons (pe_fld (pv 0) rfl) pa_nil))) (pa_cons (pv 0) (pa_cons (pv 1) (pa_cons (pe_lst pa_nil) pa_nil))))))) pss_nil)
        (pss_cons (ps_if (pt_val (pe_callB call_isi (by rfl) T.b_isinstance (by decide +kernel) (pa_cons (pv 0) (pa_cons (pe_glob rfl T.g_Either rfl) pa_nil)))) (pss_one (ps_ret (pe_call GN_two_sides (hr.mono (by omega)) rfl T.m_two_sides T.F_two_sides.kp T.B_two_sides .nil pass0 (pa_cons (pe_tup (pa_cons pe_str pa_nil)) (pa_cons (pv 0) (pa_cons (pv 1) (pa_cons (pe_lst (pa_cons (pe_tup (pa_cons pe_str pa_nil)) pa_nil)) pa_nil))))))) pss_nil)
        (pss_cons (ps_if (pt_val (pe_callB call_isi (by rfl) T.b_isinstance (by decide +kernel) (pa_cons (pv 0) (pa_cons (pe_glob rfl T.g_Try rfl) pa_nil)))) (pss_one (ps_ret (pe_call GN_two_sides (hr.mono (by omega)) rfl T.m_two_sides T.F_two_sides.kp T.B_two_sides .nil pass0 (pa_cons (pe_tup (pa_cons pe_str (pa_cons (pe_fld (pv 0) rfl) (pa_cons (pe_fld (pv 0) rfl) pa_nil)))) (pa_cons (pv 0) (pa_cons (pv 1) (pa_cons (pe_lst (pa_cons (pe_tup (pa_cons pe_str pa_nil)) pa_nil)) pa_nil))))))) pss_nil)
        (pss_one (ps_ret (pe_lst (pa_cons (pe_call G_plain_row (hr.mono (by omega)) rfl T.m_plain_row T.F_plain_row.kp T.B_plain_row .nil pass0 (pa_cons (pv 0) pa_nil)) pa_nil)))))))
    case g2 =>
      refine FnOk.mono (j := n + 1 + 1) ?_ (by omega)
      refine T.F_rows_from.ok sc_rows_from (fun vs H Q E h => by first | (obtain ⟨rfl, _⟩ := h; rfl) | (obtain ⟨_, rfl, _⟩ := h; rfl) | (obtain ⟨_, _, rfl, _⟩ := h; rfl) | (obtain ⟨_, _, _, rfl, _⟩ := h; rfl) | (obtain ⟨_, _, _, _, rfl, _⟩ := h; rfl) | (obtain ⟨_, _, _, _, _, rfl, _⟩ := h; rfl) | (obtain ⟨_, _, _, _, _, _, rfl, _⟩ := h; rfl) | (obtain ⟨_, _, _, _, _, _, _, rfl, _⟩ := h; rfl) | (obtain ⟨_, _, _, _, _, _, _, _, rfl, _⟩ := h; rfl) | (obtain ⟨_, _, _, _, _, _, _, _, _, rfl, _⟩ := h; rfl) | (obtain ⟨_, _, _, _, _, _, _, _, _, _, rfl, _⟩ := h; rfl)) (fun cdv A outer s H vs Q E hr h => ⟨t_rows_from n d, ?_, pure_rows_from  h⟩)
      exact (pss_cons (ps_set (i := 2) sc_rows_from.nd rfl (Or.inl rfl) (pe_lst pa_nil))
        (pss_cons (ps_for PassesOwn.never rfl (pi_list (pv 0)) (pg_name (i := 3) sc_rows_from.nd rfl (Or.inl rfl)) (pss_one (ps_expr (pe_bm PySem.F.plainAttrs_list PySem.F.slot_list_extend PySem.F.type_list_extend mt_extend (pv 2) (pa_cons (pe_call GN_part_rows (hr.mono (by omega)) rfl T.m_part_rows T.F_part_rows.kp T.B_part_rows .nil pass0 (pa_cons (pv 3) (pa_cons (pe_op op_add (pv 1) (pe_callB call_len_seq (by rfl) T.b_len (by decide +kernel) (pa_cons (pv 2) pa_nil))) pa_nil))) pa_nil)))))
        (pss_one (ps_ret (pv 2)))))
theorem ok_two_sides (T : Txt d mg z) : FnOk P w d.K mg base CX0 (41) z.f_two_sides z.d_two_sides ["head", "part", "first", "closing"] (sp_two_sides d) := (okG_two_sides T 40).1
theorem ok_part_rows (T : Txt d mg z) : FnOk P w d.K mg base CX0 (41) z.f_part_rows z.d_part_rows ["part", "first"] (sp_part_rows d) := (okG_two_sides T 40).2.1
theorem ok_rows_from (T : Txt d mg z) : FnOk P w d.K mg base CX0 (41) z.f_rows_from z.d_rows_from ["parts", "first"] (sp_rows_from d) := (okG_two_sides T 40).2.2
theorem ok_rows_of (T : Txt d mg z) : FnOk P w d.K mg base CX0 42 z.f_rows_of z.d_rows_of ["deed"] (sp_rows_of d) := by
  have G_rows_from := ok_rows_from (P := P) (w := w) (base := base) T
  refine T.F_rows_of.ok sc_rows_of (fun vs H Q E h => by first | (obtain ⟨rfl, _⟩ := h; rfl) | (obtain ⟨_, rfl, _⟩ := h; rfl) | (obtain ⟨_, _, rfl, _⟩ := h; rfl) | (obtain ⟨_, _, _, rfl, _⟩ := h; rfl) | (obtain ⟨_, _, _, _, rfl, _⟩ := h; rfl) | (obtain ⟨_, _, _, _, _, rfl, _⟩ := h; rfl) | (obtain ⟨_, _, _, _, _, _, rfl, _⟩ := h; rfl) | (obtain ⟨_, _, _, _, _, _, _, rfl, _⟩ := h; rfl) | (obtain ⟨_, _, _, _, _, _, _, _, rfl, _⟩ := h; rfl) | (obtain ⟨_, _, _, _, _, _, _, _, _, rfl, _⟩ := h; rfl) | (obtain ⟨_, _, _, _, _, _, _, _, _, _, rfl, _⟩ := h; rfl)) (fun cdv A outer s H vs Q E hr h => ⟨t_rows_of d, ?_, pure_rows_of  h⟩)
  exact (pss_one (ps_ret (pe_op op_cat (pe_call G_rows_from (hr.mono (by omega)) rfl T.m_rows_from T.F_rows_from.kp T.B_rows_from .nil pass0 (pa_cons (pv 0) (pa_cons pe_int pa_nil))) (pe_lst (pa_cons (pe_tup (pa_cons pe_str pa_nil)) pa_nil)))))
theorem ok_l_mixed (T : Txt d mg z) : FnOk P w d.K mg base CX0 1 z.f_l_mixed z.d_l_mixed ["_law_cell"] (sp_l_mixed d) := by
  refine T.F_l_mixed.ok sc_l_mixed (fun vs H Q E h => by first | (obtain ⟨rfl, _⟩ := h; rfl) | (obtain ⟨_, rfl, _⟩ := h; rfl) | (obtain ⟨_, _, rfl, _⟩ := h; rfl) | (obtain ⟨_, _, _, rfl, _⟩ := h; rfl) | (obtain ⟨_, _, _, _, rfl, _⟩ := h; rfl) | (obtain ⟨_, _, _, _, _, rfl, _⟩ := h; rfl) | (obtain ⟨_, _, _, _, _, _, rfl, _⟩ := h; rfl) | (obtain ⟨_, _, _, _, _, _, _, rfl, _⟩ := h; rfl) | (obtain ⟨_, _, _, _, _, _, _, _, rfl, _⟩ := h; rfl) | (obtain ⟨_, _, _, _, _, _, _, _, _, rfl, _⟩ := h; rfl) | (obtain ⟨_, _, _, _, _, _, _, _, _, _, rfl, _⟩ := h; rfl)) (fun cdv A outer s H vs Q E hr h => ⟨t_l_mixed d, ?_, pure_l_mixed  h⟩)
  exact (pss_one (ps_ret (pe_op op_mod (pe_op op_mul (pv 0) pe_int) pe_int)))
theorem ok_l_wide (T : Txt d mg z) : FnOk P w d.K mg base CX0 1 z.f_l_wide z.d_l_wide ["_law_cell"] (sp_l_wide d) := by
  refine T.F_l_wide.ok sc_l_wide (fun vs H Q E h => by first | (obtain ⟨rfl, _⟩ := h; rfl) | (obtain ⟨_, rfl, _⟩ := h; rfl) | (obtain ⟨_, _, rfl, _⟩ := h; rfl) | (obtain ⟨_, _, _, rfl, _⟩ := h; rfl) | (obtain ⟨_, _, _, _, rfl, _⟩ := h; rfl) | (obtain ⟨_, _, _, _, _, rfl, _⟩ := h; rfl) | (obtain ⟨_, _, _, _, _, _, rfl, _⟩ := h; rfl) | (obtain ⟨_, _, _, _, _, _, _, rfl, _⟩ := h; rfl) | (obtain ⟨_, _, _, _, _, _, _, _, rfl, _⟩ := h; rfl) | (obtain ⟨_, _, _, _, _, _, _, _, _, rfl, _⟩ := h; rfl) | (obtain ⟨_, _, _, _, _, _, _, _, _, _, rfl, _⟩ := h; rfl)) (fun cdv A outer s H vs Q E hr h => ⟨t_l_wide d, ?_, pure_l_wide  h⟩)
  exact (pss_one (ps_ret (pe_op op_mod (pe_op op_mul (pv 0) pe_int) (pe_op op_pow pe_int pe_int))))
theorem okG_l_alike (T : Txt d mg z) : (n : Nat) → FnOk P w d.K mg base CX0 (n + 0) z.f_l_alike z.d_l_alike ["_law_found", "_law_due"] (spN_l_alike n d)
  | 0 => fnok_no fun vs H Q E h => no_l_alike h
  | n + 1 => by
    have GG := okG_l_alike T n
    have GN_l_alike := GG
    refine FnOk.mono (j := n + 0 + 1) ?_ (by omega)
    refine T.F_l_alike.ok sc_l_alike (fun vs H Q E h => by first | (obtain ⟨rfl, _⟩ := h; rfl) | (obtain ⟨_, rfl, _⟩ := h; rfl) | (obtain ⟨_, _, rfl, _⟩ := h; rfl) | (obtain ⟨_, _, _, rfl, _⟩ := h; rfl) | (obtain ⟨_, _, _, _, rfl, _⟩ := h; rfl) | (obtain ⟨_, _, _, _, _, rfl, _⟩ := h; rfl) | (obtain ⟨_, _, _, _, _, _, rfl, _⟩ := h; rfl) | (obtain ⟨_, _, _, _, _, _, _, rfl, _⟩ := h; rfl) | (obtain ⟨_, _, _, _, _, _, _, _, rfl, _⟩ := h; rfl) | (obtain ⟨_, _, _, _, _, _, _, _, _, rfl, _⟩ := h; rfl) | (obtain ⟨_, _, _, _, _, _, _, _, _, _, rfl, _⟩ := h; rfl)) (fun cdv A outer s H vs Q E hr h => ⟨t_l_alike n d, ?_, pure_l_alike  h⟩)
    exact (pss_cons (ps_if (pt_val (pe_callB call_isi (by rfl) T.b_isinstance (by decide +kernel) (pa_cons (pv 1) (pa_cons (pe_bltn (v := .ty "int") (by rfl) T.b_int (by decide +kernel) rfl) pa_nil)))) (pss_one (ps_ret (pe_and (pe_callB call_isi (by rfl) T.b_isinstance (by decide +kernel) (pa_cons (pv 0) (pa_cons (pe_bltn (v := .ty "int") (by rfl) T.b_int (by decide +kernel) rfl) pa_nil))) (pe_and (pe_not (pe_callB call_isi (by rfl) T.b_isinstance (by decide +kernel) (pa_cons (pv 0) (pa_cons (pe_bltn (v := .ty "bool") (by rfl) T.b_bool (by decide +kernel) rfl) pa_nil)))) (pe_one (pe_cmpR op_eq (pv 0) (pv 1) (nomark _))))))) pss_nil)
        (pss_cons (ps_if (pt_val (pe_callB call_isi (by rfl) T.b_isinstance (by decide +kernel) (pa_cons (pv 1) (pa_cons (pe_bltn (v := .ty "str") (by rfl) T.b_str (by decide +kernel) rfl) pa_nil)))) (pss_one (ps_ret (pe_and (pe_callB call_isi (by rfl) T.b_isinstance (by decide +kernel) (pa_cons (pv 0) (pa_cons (pe_bltn (v := .ty "str") (by rfl) T.b_str (by decide +kernel) rfl) pa_nil))) (pe_one (pe_cmpR op_eq (pv 0) (pv 1) (nomark _)))))) pss_nil)
        (pss_cons (ps_if (pt_val (pe_callB call_isi (by rfl) T.b_isinstance (by decide +kernel) (pa_cons (pv 1) (pa_cons (pe_bltn (v := .ty "tuple") (by rfl) T.b_tuple (by decide +kernel) rfl) pa_nil)))) (pss_one (ps_if (pt_not (pt_val (pe_callB call_isi (by rfl) T.b_isinstance (by decide +kernel) (pa_cons (pv 0) (pa_cons (pe_bltn (v := .ty "tuple") (by rfl) T.b_tuple (by decide +kernel) rfl) pa_nil))))) (pss_one (ps_ret pe_bl)) pss_nil)) (pss_one (ps_if (pt_not (pt_val (pe_callB call_isi (by rfl) T.b_isinstance (by decide +kernel) (pa_cons (pv 0) (pa_cons (pe_bltn (v := .ty "list") (by rfl) T.b_list (by decide +kernel) rfl) pa_nil))))) (pss_one (ps_ret pe_bl)) pss_nil)))
        (pss_cons (ps_if (pt_cmpR op_ne (pe_callB call_len_seq (by rfl) T.b_len (by decide +kernel) (pa_cons (pv 0) pa_nil)) (pe_callB call_len_seq (by rfl) T.b_len (by decide +kernel) (pa_cons (pv 1) pa_nil)) (nomark _)) (pss_one (ps_ret pe_bl)) pss_nil)
        (pss_cons (ps_for PassesOwn.never rfl (pi_range1 rfl T.b_range (pa_cons (pe_callB call_len_seq (by rfl) T.b_len (by decide +kernel) (pa_cons (pv 1) pa_nil)) pa_nil)) (pg_name (i := 2) sc_l_alike.nd rfl (Or.inl rfl)) (pss_one (ps_if (pt_not (pt_val (pe_call GN_l_alike (hr.mono (by omega)) rfl T.m_l_alike T.F_l_alike.kp T.B_l_alike .nil pass0 (pa_cons (pe_ix ix_seq (pv 0) (pv 2) (fun _ _ => rfl)) (pa_cons (pe_ix ix_seq (pv 1) (pv 2) (fun _ _ => rfl)) pa_nil))))) (pss_one (ps_ret pe_bl)) pss_nil)))
        (pss_one (ps_ret pe_bl)))))))
theorem ok_l_alike (T : Txt d mg z) : FnOk P w d.K mg base CX0 (8) z.f_l_alike z.d_l_alike ["_law_found", "_law_due"] (sp_l_alike d) := okG_l_alike T 8
theorem ok_l_names (T : Txt d mg z) : FnOk P w d.K mg base CX0 2 z.f_l_names z.d_l_names ["_law_cell"] (sp_l_names d) := by
  have G_l_mixed := ok_l_mixed (P := P) (w := w) (base := base) T
  refine T.F_l_names.ok sc_l_names (fun vs H Q E h => by first | (obtain ⟨rfl, _⟩ := h; rfl) | (obtain ⟨_, rfl, _⟩ := h; rfl) | (obtain ⟨_, _, rfl, _⟩ := h; rfl) | (obtain ⟨_, _, _, rfl, _⟩ := h; rfl) | (obtain ⟨_, _, _, _, rfl, _⟩ := h; rfl) | (obtain ⟨_, _, _, _, _, rfl, _⟩ := h; rfl) | (obtain ⟨_, _, _, _, _, _, rfl, _⟩ := h; rfl) | (obtain ⟨_, _, _, _, _, _, _, rfl, _⟩ := h; rfl) | (obtain ⟨_, _, _, _, _, _, _, _, rfl, _⟩ := h; rfl) | (obtain ⟨_, _, _, _, _, _, _, _, _, rfl, _⟩ := h; rfl) | (obtain ⟨_, _, _, _, _, _, _, _, _, _, rfl, _⟩ := h; rfl)) (fun cdv A outer s H vs Q E hr h => ⟨t_l_names d, ?_, pure_l_names  h⟩)
  exact (pss_cons (ps_set (i := 1) sc_l_names.nd rfl (Or.inl rfl) pe_str)
      (pss_cons (ps_set (i := 2) sc_l_names.nd rfl (Or.inl rfl) (pe_call G_l_mixed (hr.mono (by omega)) rfl T.m_l_mixed T.F_l_mixed.kp T.B_l_mixed .nil pass0 (pa_cons (pv 0) pa_nil)))
      (pss_cons (ps_set (i := 3) sc_l_names.nd rfl (Or.inl rfl) (pe_op op_add pe_int (pe_op op_mod (pv 2) pe_int)))
      (pss_cons (ps_set (i := 4) sc_l_names.nd rfl (Or.inl rfl) (pe_op op_mod (pe_op op_fdiv (pv 2) pe_int) (pv 3)))
      (pss_cons (ps_set (i := 5) sc_l_names.nd rfl (Or.inl rfl) (pe_lst pa_nil))
      (pss_cons (ps_for PassesOwn.never rfl (pi_range1 rfl T.b_range (pa_cons pe_int pa_nil)) (pg_name (i := 6) sc_l_names.nd rfl (Or.inl rfl)) (pss_cons (ps_set (i := 7) sc_l_names.nd rfl (Or.inl rfl) pe_str)
      (pss_cons (ps_for PassesOwn.never rfl (pi_range1 rfl T.b_range (pa_cons (pv 3) pa_nil)) (pg_name (i := 8) sc_l_names.nd rfl (Or.inl rfl)) (pss_cons (ps_set (i := 9) sc_l_names.nd rfl (Or.inl rfl) (pe_op op_add (pe_op op_fdiv (pe_op op_fdiv (pv 2) pe_int) (pe_op op_add (pe_op op_mul (pv 8) (pv 8)) pe_int)) (pv 8)))
      (pss_cons (ps_if (pt_cmpR op_eq (pv 8) (pv 4) (nomark _)) (pss_one (ps_set (i := 9) sc_l_names.nd rfl (Or.inl rfl) (pe_op op_add (pv 9) (pv 6)))) pss_nil)
      (pss_one (ps_set (i := 7) sc_l_names.nd rfl (Or.inl rfl) (pe_op op_add_str (pv 7) (pe_ix ix_str (pv 1) (pe_op op_mod (pv 9) pe_int) (fun _ _ => rfl))))))))
      (pss_one (ps_expr (pe_bm PySem.F.plainAttrs_list PySem.F.slot_list_append PySem.F.type_list_append mt_append (pv 5) (pa_cons (pv 7) pa_nil)))))))
      (pss_one (ps_ret (pv 5)))))))))
theorem ok_l_part (T : Txt d mg z) : FnOk P w d.K mg base CX0 3 z.f_l_part z.d_l_part ["_law_cell", "_law_names_here"] (sp_l_part d) := by
  have G_l_mixed := ok_l_mixed (P := P) (w := w) (base := base) T
  have G_l_wide := ok_l_wide (P := P) (w := w) (base := base) T
  have G_Let_init := ok_Let_init (P := P) (w := w) (base := base) T
  have G_Reckon_init := ok_Reckon_init (P := P) (w := w) (base := base) T
  have G_Take_init := ok_Take_init (P := P) (w := w) (base := base) T
  have G_Put_init := ok_Put_init (P := P) (w := w) (base := base) T
  have G_Throw_init := ok_Throw_init (P := P) (w := w) (base := base) T
  refine T.F_l_part.ok sc_l_part (fun vs H Q E h => by first | (obtain ⟨rfl, _⟩ := h; rfl) | (obtain ⟨_, rfl, _⟩ := h; rfl) | (obtain ⟨_, _, rfl, _⟩ := h; rfl) | (obtain ⟨_, _, _, rfl, _⟩ := h; rfl) | (obtain ⟨_, _, _, _, rfl, _⟩ := h; rfl) | (obtain ⟨_, _, _, _, _, rfl, _⟩ := h; rfl) | (obtain ⟨_, _, _, _, _, _, rfl, _⟩ := h; rfl) | (obtain ⟨_, _, _, _, _, _, _, rfl, _⟩ := h; rfl) | (obtain ⟨_, _, _, _, _, _, _, _, rfl, _⟩ := h; rfl) | (obtain ⟨_, _, _, _, _, _, _, _, _, rfl, _⟩ := h; rfl) | (obtain ⟨_, _, _, _, _, _, _, _, _, _, rfl, _⟩ := h; rfl)) (fun cdv A outer s H vs Q E hr h => ⟨t_l_part d, ?_, pure_l_part T.t_Parts h⟩)
  exact (pss_cons (ps_set (i := 2) sc_l_part.nd rfl (Or.inl rfl) pe_str)
      (pss_cons (ps_set (i := 3) sc_l_part.nd rfl (Or.inl rfl) (pe_call G_l_mixed (hr.mono (by omega)) rfl T.m_l_mixed T.F_l_mixed.kp T.B_l_mixed .nil pass0 (pa_cons (pv 0) pa_nil)))
      (pss_cons (ps_set (i := 4) sc_l_part.nd rfl (Or.inl rfl) (pe_ix ix_str (pv 2) (pe_op op_mod (pe_op op_fdiv (pv 3) pe_int) pe_int) (fun _ _ => rfl)))
      (pss_cons (ps_set (i := 5) sc_l_part.nd rfl (Or.inl rfl) (pe_ix ix_str (pv 2) (pe_op op_mod (pe_op op_fdiv (pv 3) pe_int) pe_int) (fun _ _ => rfl)))
      (pss_cons (ps_set (i := 6) sc_l_part.nd rfl (Or.inl rfl) (pe_ix ix_str (pv 2) (pe_op op_mod (pe_op op_fdiv (pv 3) pe_int) pe_int) (fun _ _ => rfl)))
      (pss_cons (ps_set (i := 7) sc_l_part.nd rfl (Or.inl rfl) (pe_op op_mod (pv 3) pe_int))
      (pss_cons (ps_set (i := 8) sc_l_part.nd rfl (Or.inl rfl) (pe_ix ix_list (pe_lst (pa_cons (pe_op op_mod (pe_op op_fdiv (pv 3) pe_int) pe_int) (pa_cons (pe_call G_l_wide (hr.mono (by omega)) rfl T.m_l_wide T.F_l_wide.kp T.B_l_wide .nil pass0 (pa_cons (pv 0) pa_nil)) (pa_cons (pe_op op_sub (pe_op op_sub (pe_op op_pow pe_int pe_int) pe_int) (pe_op op_mod (pe_op op_fdiv (pv 3) pe_int) pe_int)) pa_nil)))) (pe_op op_mod (pe_op op_fdiv (pv 3) pe_int) pe_int) (fun _ _ => rfl)))
      (pss_cons (ps_set (i := 9) sc_l_part.nd rfl (Or.inl rfl) (pe_ix ix_list (pe_lst (pa_cons pe_str (pa_cons pe_str (pa_cons pe_str (pa_cons pe_str (pa_cons pe_str pa_nil)))))) (pe_op op_mod (pe_op op_fdiv (pv 3) pe_int) pe_int) (fun _ _ => rfl)))
      (pss_cons (ps_if (pt_cmpR op_eq (pv 7) pe_int (nomark _)) (pss_one (ps_ret (pe_tup (pa_cons (pe_make T.K_Let G_Let_init (hr.mono (by omega)) rfl T.g_Let T.B_Let_init .nil pass0 (pa_cons (pv 4) (pa_cons (pv 8) pa_nil))) (pa_cons (pe_tup (pa_cons pe_str (pa_cons (pv 4) (pa_cons (pv 8) pa_nil)))) pa_nil))))) pss_nil)
      (pss_cons (ps_if (pt_cmpR o_lt (pv 7) pe_int (nomark _)) (pss_one (ps_ret (pe_tup (pa_cons (pe_make T.K_Reckon G_Reckon_init (hr.mono (by omega)) rfl T.g_Reckon T.B_Reckon_init .nil pass0 (pa_cons (pv 9) (pa_cons (pv 4) (pa_cons (pv 5) (pa_cons (pv 6) pa_nil))))) (pa_cons (pe_tup (pa_cons (pv 9) (pa_cons (pv 4) (pa_cons (pv 5) (pa_cons (pv 6) pa_nil))))) pa_nil))))) pss_nil)
      (pss_cons (ps_if (pt_cmpR op_eq (pv 7) pe_int (nomark _)) (pss_one (ps_ret (pe_tup (pa_cons (pe_make T.K_Take G_Take_init (hr.mono (by omega)) rfl T.g_Take T.B_Take_init .nil pass0 (pa_cons (pv 4) (pa_cons (pv 5) pa_nil))) (pa_cons (pe_tup (pa_cons pe_str (pa_cons (pv 4) (pa_cons (pv 5) pa_nil)))) pa_nil))))) pss_nil)
      (pss_cons (ps_if (pt_cmpR op_eq (pv 7) pe_int (nomark _)) (pss_one (ps_ret (pe_tup (pa_cons (pe_make T.K_Put G_Put_init (hr.mono (by omega)) rfl T.g_Put T.B_Put_init .nil pass0 (pa_cons (pv 4) (pa_cons (pv 5) pa_nil))) (pa_cons (pe_tup (pa_cons pe_str (pa_cons (pv 4) (pa_cons (pv 5) pa_nil)))) pa_nil))))) pss_nil)
      (pss_cons (ps_if (pt_cmpR op_eq (pv 7) pe_int (nomark _)) (pss_one (ps_ret (pe_tup (pa_cons (pe_make T.K_Throw G_Throw_init (hr.mono (by omega)) rfl T.g_Throw T.B_Throw_init .nil pass0 (pa_cons (pe_ix ix_list (pv 1) (pe_op op_mod (pe_op op_fdiv (pv 3) pe_int) pe_int) (fun _ _ => rfl)) (pa_cons (pv 4) pa_nil))) (pa_cons (pe_tup (pa_cons pe_str (pa_cons (pe_ix ix_list (pv 1) (pe_op op_mod (pe_op op_fdiv (pv 3) pe_int) pe_int) (fun _ _ => rfl)) (pa_cons (pv 4) pa_nil)))) pa_nil))))) pss_nil)
      (pss_one (ps_ret (pe_tup (pa_cons (pe_makeO T.MO_Wait rfl T.g_Wait) (pa_cons (pe_tup (pa_cons pe_str pa_nil)) pa_nil))))))))))))))))))
theorem ok_l_deed (T : Txt d mg z) : FnOk P w d.K mg base CX0 43 z.f_l_deed z.d_l_deed ["_law_cells", "_law_names_here"] (sp_l_deed d) := by
  have G_l_part := ok_l_part (P := P) (w := w) (base := base) T
  have G_rows_of := ok_rows_of (P := P) (w := w) (base := base) T
  have G_l_alike := ok_l_alike (P := P) (w := w) (base := base) T
  refine T.F_l_deed.ok sc_l_deed (fun vs H Q E h => by first | (obtain ⟨rfl, _⟩ := h; rfl) | (obtain ⟨_, rfl, _⟩ := h; rfl) | (obtain ⟨_, _, rfl, _⟩ := h; rfl) | (obtain ⟨_, _, _, rfl, _⟩ := h; rfl) | (obtain ⟨_, _, _, _, rfl, _⟩ := h; rfl) | (obtain ⟨_, _, _, _, _, rfl, _⟩ := h; rfl) | (obtain ⟨_, _, _, _, _, _, rfl, _⟩ := h; rfl) | (obtain ⟨_, _, _, _, _, _, _, rfl, _⟩ := h; rfl) | (obtain ⟨_, _, _, _, _, _, _, _, rfl, _⟩ := h; rfl) | (obtain ⟨_, _, _, _, _, _, _, _, _, rfl, _⟩ := h; rfl) | (obtain ⟨_, _, _, _, _, _, _, _, _, _, rfl, _⟩ := h; rfl)) (fun cdv A outer s H vs Q E hr h => ⟨t_l_deed d, ?_, pure_l_deed  h⟩)
  exact (pss_cons (ps_set (i := 2) sc_l_deed.nd rfl (Or.inl rfl) (pe_lst pa_nil))
      (pss_cons (ps_set (i := 3) sc_l_deed.nd rfl (Or.inl rfl) (pe_lst pa_nil))
      (pss_cons (ps_for PassesOwn.never rfl (pi_list (pv 0)) (pg_name (i := 4) sc_l_deed.nd rfl (Or.inl rfl)) (pss_cons (ps_asg (pe_call G_l_part (hr.mono (by omega)) rfl T.m_l_part T.F_l_part.kp T.B_l_part .nil pass0 (pa_cons (pv 4) (pa_cons (pv 1) pa_nil))) (pg_tup rfl (pgs_cons (pg_name (i := 5) sc_l_deed.nd rfl (Or.inl rfl)) (pgs_cons (pg_name (i := 6) sc_l_deed.nd rfl (Or.inl rfl)) pgs_nil))))
      (pss_cons (ps_expr (pe_bm PySem.F.plainAttrs_list PySem.F.slot_list_append PySem.F.type_list_append mt_append (pv 2) (pa_cons (pv 5) pa_nil)))
      (pss_one (ps_expr (pe_bm PySem.F.plainAttrs_list PySem.F.slot_list_append PySem.F.type_list_append mt_append (pv 3) (pa_cons (pv 6) pa_nil)))))))
      (pss_cons (ps_expr (pe_bm PySem.F.plainAttrs_list PySem.F.slot_list_append PySem.F.type_list_append mt_append (pv 3) (pa_cons (pe_tup (pa_cons pe_str pa_nil)) pa_nil)))
      (pss_cons (ps_set (i := 7) sc_l_deed.nd rfl (Or.inl rfl) (pe_callTy call_list_of (by rfl) T.b_list (by decide +kernel) (pa_cons (pv 2) pa_nil)))
      (pss_cons (ps_set (i := 8) sc_l_deed.nd rfl (Or.inl rfl) (pe_call G_rows_of (hr.mono (by omega)) rfl T.m_rows_of T.F_rows_of.kp T.B_rows_of .nil pass0 (pa_cons (pv 7) pa_nil)))
      (pss_cons (ps_if (PW.pt (pw_or (pt_not (pt_val (pe_call G_l_alike (hr.mono (by omega)) rfl T.m_l_alike T.F_l_alike.kp T.B_l_alike .nil pass0 (pa_cons (pv 8) (pa_cons (pv 3) pa_nil))))) (pw_or1 (pt_cmpR op_ne (pe_callB call_len_seq (by rfl) T.b_len (by decide +kernel) (pa_cons (pv 7) pa_nil)) (pe_callB call_len_seq (by rfl) T.b_len (by decide +kernel) (pa_cons (pv 2) pa_nil)) (nomark _))))) (pss_one (ps_ret pe_bl)) pss_nil)
      (pss_cons (ps_expr (pe_bm PySem.F.plainAttrs_list PySem.F.slot_list_append PySem.F.type_list_append mt_append (pv 8) (pa_cons (pe_tup (pa_cons pe_str pa_nil)) pa_nil)))
      (pss_cons (ps_asg (pe_tup (pa_cons pe_str (pa_cons pe_int pa_nil))) (pg_sub (pv 8) pe_int set_list))
      (pss_one (ps_ret (pe_call G_l_alike (hr.mono (by omega)) rfl T.m_l_alike T.F_l_alike.kp T.B_l_alike .nil pass0 (pa_cons (pe_call G_rows_of (hr.mono (by omega)) rfl T.m_rows_of T.F_rows_of.kp T.B_rows_of .nil pass0 (pa_cons (pv 7) pa_nil)) (pa_cons (pv 3) pa_nil))))))))))))))
theorem ok_law (T : Txt d mg z) : FnOk P w d.K mg base CX0 44 z.f_law z.d_law ["_law_script"] (sp_law d) := by
  have G_l_names := ok_l_names (P := P) (w := w) (base := base) T
  have G_l_deed := ok_l_deed (P := P) (w := w) (base := base) T
  refine T.F_law.ok sc_law (fun vs H Q E h => by first | (obtain ⟨rfl, _⟩ := h; rfl) | (obtain ⟨_, rfl, _⟩ := h; rfl) | (obtain ⟨_, _, rfl, _⟩ := h; rfl) | (obtain ⟨_, _, _, rfl, _⟩ := h; rfl) | (obtain ⟨_, _, _, _, rfl, _⟩ := h; rfl) | (obtain ⟨_, _, _, _, _, rfl, _⟩ := h; rfl) | (obtain ⟨_, _, _, _, _, _, rfl, _⟩ := h; rfl) | (obtain ⟨_, _, _, _, _, _, _, rfl, _⟩ := h; rfl) | (obtain ⟨_, _, _, _, _, _, _, _, rfl, _⟩ := h; rfl) | (obtain ⟨_, _, _, _, _, _, _, _, _, rfl, _⟩ := h; rfl) | (obtain ⟨_, _, _, _, _, _, _, _, _, _, rfl, _⟩ := h; rfl)) (fun cdv A outer s H vs Q E hr h => ⟨t_law d, ?_, pure_law  h⟩)
  exact (pss_cons (ps_set (i := 1) sc_law.nd rfl (Or.inl rfl) (pe_call G_l_names (hr.mono (by omega)) rfl T.m_l_names T.F_l_names.kp T.B_l_names .nil pass0 (pa_cons (pe_callB (cr_sum rfl) (by rfl) T.b_sum (by decide +kernel) (pa_cons (pe_slice sl_list (pv 0) po_none (po_some pe_int)) pa_nil)) pa_nil)))
      (pss_cons (ps_if (pt_not (pt_val (pe_call G_l_deed (hr.mono (by omega)) rfl T.m_l_deed T.F_l_deed.kp T.B_l_deed .nil pass0 (pa_cons (pe_lst pa_nil) (pa_cons (pv 1) pa_nil))))) (pss_one (ps_ret pe_bl)) pss_nil)
      (pss_cons (ps_set (i := 2) sc_law.nd rfl (Or.inr rfl) (pe_callTy call_list_of (by rfl) T.b_list (by decide +kernel) (pa_cons (pv 0) pa_nil)))
      (pss_cons (ps_if (PW.pt (pw_and (pt_cmpR o_gt (pe_callB call_len_seq (by rfl) T.b_len (by decide +kernel) (pa_cons (pv 2) pa_nil)) pe_int (nomark _)) (pw_and1 (pt_cmpR op_eq (pe_op op_mod (pe_ix ix_list (pv 2) pe_int (fun _ _ => rfl)) pe_int) pe_int (nomark _))))) (pss_one (ps_set (i := 2) sc_law.nd rfl (Or.inr rfl) (pe_lc (own := [("_law_k", 4)]) rfl sc_law.nd (pi_range1 rfl T.b_range (pa_cons (pe_callB (call_max2 rfl) (by rfl) T.b_max (by decide +kernel) (pa_cons pe_int (pa_cons (pe_callB call_len_seq (by rfl) T.b_len (by decide +kernel) (pa_cons (pv 2) pa_nil)) pa_nil))) pa_nil)) (blkOk_by (own := [("_law_k", 4)]) (N := N_law) (sc := defScope s_law) (by decide +kernel)) (fun _ _ _ _ _ => (pg_name (i := 4) sc_law.nd rfl (Or.inl rfl))) (fun _ _ _ _ _ => pts_nil) (fun _ _ _ _ _ => (pe_op op_add (pe_ix ix_list (pv 2) (pe_op op_mod (pv 4) (pe_callB call_len_seq (by rfl) T.b_len (by decide +kernel) (pa_cons (pv 2) pa_nil))) (fun _ _ => rfl)) (pe_op op_fdiv (pv 4) (pe_callB call_len_seq (by rfl) T.b_len (by decide +kernel) (pa_cons (pv 2) pa_nil)))))))) pss_nil)
      (pss_cons (ps_for PassesOwn.never rfl (pi_range3 rfl T.b_range (pa_cons pe_int (pa_cons (pe_callB call_len_seq (by rfl) T.b_len (by decide +kernel) (pa_cons (pv 2) pa_nil)) (pa_cons pe_int pa_nil)))) (pg_name (i := 3) sc_law.nd rfl (Or.inl rfl)) (pss_one (ps_if (pt_not (pt_val (pe_call G_l_deed (hr.mono (by omega)) rfl T.m_l_deed T.F_l_deed.kp T.B_l_deed .nil pass0 (pa_cons (pe_slice sl_list (pv 2) (po_some (pv 3)) (po_some (pe_op op_add (pv 3) pe_int))) (pa_cons (pv 1) pa_nil))))) (pss_one (ps_ret pe_bl)) pss_nil)))
      (pss_one (ps_ret pe_bl)))))))
end
theorem all_mk {P : Program} {w : World} {K : PySem.W.Frag} {h : Heap} {mg : Str → Option Value} {fa : Addr} (X : K.In h) (G : h.Ns mainGlobals mg) (hfa : mg "law" = some (.ref fa))
    {f_Let_init f_Reckon_init f_Take_init f_Put_init f_Throw_init f_plain_row f_two_sides f_part_rows f_rows_from f_rows_of f_l_mixed f_l_wide f_l_alike f_l_names f_l_part f_l_deed f_law c_Let c_Reckon c_Take c_Put c_Throw c_If c_Either c_Try c_Wait : Addr} {oc_Let_init kV_Let_init dc_Let_init pm_Let_init cd_Let_init ct_Let_init oc_Reckon_init kV_Reckon_init dc_Reckon_init pm_Reckon_init cd_Reckon_init ct_Reckon_init oc_Take_init kV_Take_init dc_Take_init pm_Take_init cd_Take_init ct_Take_init oc_Put_init kV_Put_init dc_Put_init pm_Put_init cd_Put_init ct_Put_init oc_Throw_init kV_Throw_init dc_Throw_init pm_Throw_init cd_Throw_init ct_Throw_init oc_plain_row kV_plain_row dc_plain_row pm_plain_row cd_plain_row ct_plain_row oc_two_sides kV_two_sides dc_two_sides pm_two_sides cd_two_sides ct_two_sides oc_part_rows kV_part_rows dc_part_rows pm_part_rows cd_part_rows ct_part_rows oc_rows_from kV_rows_from dc_rows_from pm_rows_from cd_rows_from ct_rows_from oc_rows_of kV_rows_of dc_rows_of pm_rows_of cd_rows_of ct_rows_of oc_l_mixed kV_l_mixed dc_l_mixed pm_l_mixed cd_l_mixed ct_l_mixed oc_l_wide kV_l_wide dc_l_wide pm_l_wide cd_l_wide ct_l_wide oc_l_alike kV_l_alike dc_l_alike pm_l_alike cd_l_alike ct_l_alike oc_l_names kV_l_names dc_l_names pm_l_names cd_l_names ct_l_names oc_l_part kV_l_part dc_l_part pm_l_part cd_l_part ct_l_part oc_l_deed kV_l_deed dc_l_deed pm_l_deed cd_l_deed ct_l_deed oc_law kV_law dc_law pm_law cd_law ct_law : Value} {od_Let_init an_Let_init od_Reckon_init an_Reckon_init od_Take_init an_Take_init od_Put_init an_Put_init od_Throw_init an_Throw_init od_plain_row an_plain_row od_two_sides an_two_sides od_part_rows an_part_rows od_rows_from an_rows_from od_rows_of an_rows_of od_l_mixed an_l_mixed od_l_wide an_l_wide od_l_alike an_l_alike od_l_names an_l_names od_l_part an_l_part od_l_deed an_l_deed od_law an_law : Option Addr} {sl_Let_init sl_Reckon_init sl_Take_init sl_Put_init sl_Throw_init sl_plain_row sl_two_sides sl_part_rows sl_rows_from sl_rows_of sl_l_mixed sl_l_wide sl_l_alike sl_l_names sl_l_part sl_l_deed sl_law : Array (Option Value)}
    (a_Let_init : PySem.W.findIn K (.ref c_Let) "__init__" = some (some (.ref f_Let_init)))
    (i_Let_init : PySem.W.isFn K (.ref f_Let_init) = true)
    (l_Let_init : K.lookup f_Let_init = some ⟨oc_Let_init, od_Let_init, .func (PySem.W.fnOf "__init__" "Let.__init__" (defArgs s_Let_init) (defBody s_Let_init) (defScope s_Let_init) .none kV_Let_init dc_Let_init pm_Let_init an_Let_init cd_Let_init ct_Let_init), sl_Let_init⟩)
    (cc_Let_init : PySem.W.codeIn K cd_Let_init "Let.__init__" = true)
    (kk_Let_init : PySem.W.keepIn K (.ref f_Let_init) = true)
    (a_Reckon_init : PySem.W.findIn K (.ref c_Reckon) "__init__" = some (some (.ref f_Reckon_init)))
    (i_Reckon_init : PySem.W.isFn K (.ref f_Reckon_init) = true)
    (l_Reckon_init : K.lookup f_Reckon_init = some ⟨oc_Reckon_init, od_Reckon_init, .func (PySem.W.fnOf "__init__" "Reckon.__init__" (defArgs s_Reckon_init) (defBody s_Reckon_init) (defScope s_Reckon_init) .none kV_Reckon_init dc_Reckon_init pm_Reckon_init an_Reckon_init cd_Reckon_init ct_Reckon_init), sl_Reckon_init⟩)
    (cc_Reckon_init : PySem.W.codeIn K cd_Reckon_init "Reckon.__init__" = true)
    (kk_Reckon_init : PySem.W.keepIn K (.ref f_Reckon_init) = true)
    (a_Take_init : PySem.W.findIn K (.ref c_Take) "__init__" = some (some (.ref f_Take_init)))
    (i_Take_init : PySem.W.isFn K (.ref f_Take_init) = true)
    (l_Take_init : K.lookup f_Take_init = some ⟨oc_Take_init, od_Take_init, .func (PySem.W.fnOf "__init__" "Take.__init__" (defArgs s_Take_init) (defBody s_Take_init) (defScope s_Take_init) .none kV_Take_init dc_Take_init pm_Take_init an_Take_init cd_Take_init ct_Take_init), sl_Take_init⟩)
    (cc_Take_init : PySem.W.codeIn K cd_Take_init "Take.__init__" = true)
    (kk_Take_init : PySem.W.keepIn K (.ref f_Take_init) = true)
    (a_Put_init : PySem.W.findIn K (.ref c_Put) "__init__" = some (some (.ref f_Put_init)))
    (i_Put_init : PySem.W.isFn K (.ref f_Put_init) = true)
    (l_Put_init : K.lookup f_Put_init = some ⟨oc_Put_init, od_Put_init, .func (PySem.W.fnOf "__init__" "Put.__init__" (defArgs s_Put_init) (defBody s_Put_init) (defScope s_Put_init) .none kV_Put_init dc_Put_init pm_Put_init an_Put_init cd_Put_init ct_Put_init), sl_Put_init⟩)
    (cc_Put_init : PySem.W.codeIn K cd_Put_init "Put.__init__" = true)
    (kk_Put_init : PySem.W.keepIn K (.ref f_Put_init) = true)
    (a_Throw_init : PySem.W.findIn K (.ref c_Throw) "__init__" = some (some (.ref f_Throw_init)))
    (i_Throw_init : PySem.W.isFn K (.ref f_Throw_init) = true)
    (l_Throw_init : K.lookup f_Throw_init = some ⟨oc_Throw_init, od_Throw_init, .func (PySem.W.fnOf "__init__" "Throw.__init__" (defArgs s_Throw_init) (defBody s_Throw_init) (defScope s_Throw_init) .none kV_Throw_init dc_Throw_init pm_Throw_init an_Throw_init cd_Throw_init ct_Throw_init), sl_Throw_init⟩)
    (cc_Throw_init : PySem.W.codeIn K cd_Throw_init "Throw.__init__" = true)
    (kk_Throw_init : PySem.W.keepIn K (.ref f_Throw_init) = true)
    (a_plain_row : PySem.W.nsIn K mainGlobals "plain_row" = some (some (.ref f_plain_row)))
    (l_plain_row : K.lookup f_plain_row = some ⟨oc_plain_row, od_plain_row, .func (PySem.W.fnOf "plain_row" "plain_row" (defArgs s_plain_row) (defBody s_plain_row) (defScope s_plain_row) .none kV_plain_row dc_plain_row pm_plain_row an_plain_row cd_plain_row ct_plain_row), sl_plain_row⟩)
    (cc_plain_row : PySem.W.codeIn K cd_plain_row "plain_row" = true)
    (kk_plain_row : PySem.W.keepIn K (.ref f_plain_row) = true)
    (a_two_sides : PySem.W.nsIn K mainGlobals "two_sides" = some (some (.ref f_two_sides)))
    (l_two_sides : K.lookup f_two_sides = some ⟨oc_two_sides, od_two_sides, .func (PySem.W.fnOf "two_sides" "two_sides" (defArgs s_two_sides) (defBody s_two_sides) (defScope s_two_sides) .none kV_two_sides dc_two_sides pm_two_sides an_two_sides cd_two_sides ct_two_sides), sl_two_sides⟩)
    (cc_two_sides : PySem.W.codeIn K cd_two_sides "two_sides" = true)
    (kk_two_sides : PySem.W.keepIn K (.ref f_two_sides) = true)
    (a_part_rows : PySem.W.nsIn K mainGlobals "part_rows" = some (some (.ref f_part_rows)))
    (l_part_rows : K.lookup f_part_rows = some ⟨oc_part_rows, od_part_rows, .func (PySem.W.fnOf "part_rows" "part_rows" (defArgs s_part_rows) (defBody s_part_rows) (defScope s_part_rows) .none kV_part_rows dc_part_rows pm_part_rows an_part_rows cd_part_rows ct_part_rows), sl_part_rows⟩)
    (cc_part_rows : PySem.W.codeIn K cd_part_rows "part_rows" = true)
    (kk_part_rows : PySem.W.keepIn K (.ref f_part_rows) = true)
    (a_rows_from : PySem.W.nsIn K mainGlobals "rows_from" = some (some (.ref f_rows_from)))
    (l_rows_from : K.lookup f_rows_from = some ⟨oc_rows_from, od_rows_from, .func (PySem.W.fnOf "rows_from" "rows_from" (defArgs s_rows_from) (defBody s_rows_from) (defScope s_rows_from) .none kV_rows_from dc_rows_from pm_rows_from an_rows_from cd_rows_from ct_rows_from), sl_rows_from⟩)
    (cc_rows_from : PySem.W.codeIn K cd_rows_from "rows_from" = true)
    (kk_rows_from : PySem.W.keepIn K (.ref f_rows_from) = true)
    (a_rows_of : PySem.W.nsIn K mainGlobals "rows_of" = some (some (.ref f_rows_of)))
    (l_rows_of : K.lookup f_rows_of = some ⟨oc_rows_of, od_rows_of, .func (PySem.W.fnOf "rows_of" "rows_of" (defArgs s_rows_of) (defBody s_rows_of) (defScope s_rows_of) .none kV_rows_of dc_rows_of pm_rows_of an_rows_of cd_rows_of ct_rows_of), sl_rows_of⟩)
    (cc_rows_of : PySem.W.codeIn K cd_rows_of "rows_of" = true)
    (kk_rows_of : PySem.W.keepIn K (.ref f_rows_of) = true)
    (a_l_mixed : PySem.W.nsIn K mainGlobals "_law_mixed" = some (some (.ref f_l_mixed)))
    (l_l_mixed : K.lookup f_l_mixed = some ⟨oc_l_mixed, od_l_mixed, .func (PySem.W.fnOf "_law_mixed" "_law_mixed" (defArgs s_l_mixed) (defBody s_l_mixed) (defScope s_l_mixed) .none kV_l_mixed dc_l_mixed pm_l_mixed an_l_mixed cd_l_mixed ct_l_mixed), sl_l_mixed⟩)
    (cc_l_mixed : PySem.W.codeIn K cd_l_mixed "_law_mixed" = true)
    (kk_l_mixed : PySem.W.keepIn K (.ref f_l_mixed) = true)
    (a_l_wide : PySem.W.nsIn K mainGlobals "_law_wide" = some (some (.ref f_l_wide)))
    (l_l_wide : K.lookup f_l_wide = some ⟨oc_l_wide, od_l_wide, .func (PySem.W.fnOf "_law_wide" "_law_wide" (defArgs s_l_wide) (defBody s_l_wide) (defScope s_l_wide) .none kV_l_wide dc_l_wide pm_l_wide an_l_wide cd_l_wide ct_l_wide), sl_l_wide⟩)
    (cc_l_wide : PySem.W.codeIn K cd_l_wide "_law_wide" = true)
    (kk_l_wide : PySem.W.keepIn K (.ref f_l_wide) = true)
    (a_l_alike : PySem.W.nsIn K mainGlobals "_law_alike" = some (some (.ref f_l_alike)))
    (l_l_alike : K.lookup f_l_alike = some ⟨oc_l_alike, od_l_alike, .func (PySem.W.fnOf "_law_alike" "_law_alike" (defArgs s_l_alike) (defBody s_l_alike) (defScope s_l_alike) .none kV_l_alike dc_l_alike pm_l_alike an_l_alike cd_l_alike ct_l_alike), sl_l_alike⟩)
    (cc_l_alike : PySem.W.codeIn K cd_l_alike "_law_alike" = true)
    (kk_l_alike : PySem.W.keepIn K (.ref f_l_alike) = true)
    (a_l_names : PySem.W.nsIn K mainGlobals "_law_names" = some (some (.ref f_l_names)))
    (l_l_names : K.lookup f_l_names = some ⟨oc_l_names, od_l_names, .func (PySem.W.fnOf "_law_names" "_law_names" (defArgs s_l_names) (defBody s_l_names) (defScope s_l_names) .none kV_l_names dc_l_names pm_l_names an_l_names cd_l_names ct_l_names), sl_l_names⟩)
    (cc_l_names : PySem.W.codeIn K cd_l_names "_law_names" = true)
    (kk_l_names : PySem.W.keepIn K (.ref f_l_names) = true)
    (a_l_part : PySem.W.nsIn K mainGlobals "_law_part" = some (some (.ref f_l_part)))
    (l_l_part : K.lookup f_l_part = some ⟨oc_l_part, od_l_part, .func (PySem.W.fnOf "_law_part" "_law_part" (defArgs s_l_part) (defBody s_l_part) (defScope s_l_part) .none kV_l_part dc_l_part pm_l_part an_l_part cd_l_part ct_l_part), sl_l_part⟩)
    (cc_l_part : PySem.W.codeIn K cd_l_part "_law_part" = true)
    (kk_l_part : PySem.W.keepIn K (.ref f_l_part) = true)
    (a_l_deed : PySem.W.nsIn K mainGlobals "_law_deed" = some (some (.ref f_l_deed)))
    (l_l_deed : K.lookup f_l_deed = some ⟨oc_l_deed, od_l_deed, .func (PySem.W.fnOf "_law_deed" "_law_deed" (defArgs s_l_deed) (defBody s_l_deed) (defScope s_l_deed) .none kV_l_deed dc_l_deed pm_l_deed an_l_deed cd_l_deed ct_l_deed), sl_l_deed⟩)
    (cc_l_deed : PySem.W.codeIn K cd_l_deed "_law_deed" = true)
    (kk_l_deed : PySem.W.keepIn K (.ref f_l_deed) = true)
    (a_law : PySem.W.nsIn K mainGlobals "law" = some (some (.ref f_law)))
    (l_law : K.lookup f_law = some ⟨oc_law, od_law, .func (PySem.W.fnOf "law" "law" (defArgs s_law) (defBody s_law) (defScope s_law) .none kV_law dc_law pm_law an_law cd_law ct_law), sl_law⟩)
    (cc_law : PySem.W.codeIn K cd_law "law" = true)
    (kk_law : PySem.W.keepIn K (.ref f_law) = true)
    (b_bool : PySem.W.nsIn K mainGlobals "bool" = some none)
    (b_int : PySem.W.nsIn K mainGlobals "int" = some none)
    (b_isinstance : PySem.W.nsIn K mainGlobals "isinstance" = some none)
    (b_len : PySem.W.nsIn K mainGlobals "len" = some none)
    (b_list : PySem.W.nsIn K mainGlobals "list" = some none)
    (b_max : PySem.W.nsIn K mainGlobals "max" = some none)
    (b_range : PySem.W.nsIn K mainGlobals "range" = some none)
    (b_str : PySem.W.nsIn K mainGlobals "str" = some none)
    (b_sum : PySem.W.nsIn K mainGlobals "sum" = some none)
    (b_tuple : PySem.W.nsIn K mainGlobals "tuple" = some none)
    (g_Let : PySem.W.nsIn K mainGlobals "Let" = some (some (.ref c_Let)))
    (pg_Let : PySem.W.plainGet K c_Let Str.empty = true)
    (hd_Let : PySem.W.hasDictIn K c_Let = true)
    (po_Let : PySem.W.plainOver K c_Let = true)
    (sa_Let : PySem.W.findIn K (.ref c_Let) "__setattr__" = some (some (.builtin "object.__setattr__")))
    (mk_Let : PySem.W.makesIn K c_Let = true)
    (kc_Let : PySem.W.keepIn K (.ref c_Let) = true)
    (g_Reckon : PySem.W.nsIn K mainGlobals "Reckon" = some (some (.ref c_Reckon)))
    (pg_Reckon : PySem.W.plainGet K c_Reckon Str.empty = true)
    (hd_Reckon : PySem.W.hasDictIn K c_Reckon = true)
    (po_Reckon : PySem.W.plainOver K c_Reckon = true)
    (sa_Reckon : PySem.W.findIn K (.ref c_Reckon) "__setattr__" = some (some (.builtin "object.__setattr__")))
    (mk_Reckon : PySem.W.makesIn K c_Reckon = true)
    (kc_Reckon : PySem.W.keepIn K (.ref c_Reckon) = true)
    (g_Take : PySem.W.nsIn K mainGlobals "Take" = some (some (.ref c_Take)))
    (pg_Take : PySem.W.plainGet K c_Take Str.empty = true)
    (hd_Take : PySem.W.hasDictIn K c_Take = true)
    (po_Take : PySem.W.plainOver K c_Take = true)
    (sa_Take : PySem.W.findIn K (.ref c_Take) "__setattr__" = some (some (.builtin "object.__setattr__")))
    (mk_Take : PySem.W.makesIn K c_Take = true)
    (kc_Take : PySem.W.keepIn K (.ref c_Take) = true)
    (g_Put : PySem.W.nsIn K mainGlobals "Put" = some (some (.ref c_Put)))
    (pg_Put : PySem.W.plainGet K c_Put Str.empty = true)
    (hd_Put : PySem.W.hasDictIn K c_Put = true)
    (po_Put : PySem.W.plainOver K c_Put = true)
    (sa_Put : PySem.W.findIn K (.ref c_Put) "__setattr__" = some (some (.builtin "object.__setattr__")))
    (mk_Put : PySem.W.makesIn K c_Put = true)
    (kc_Put : PySem.W.keepIn K (.ref c_Put) = true)
    (g_Throw : PySem.W.nsIn K mainGlobals "Throw" = some (some (.ref c_Throw)))
    (pg_Throw : PySem.W.plainGet K c_Throw Str.empty = true)
    (hd_Throw : PySem.W.hasDictIn K c_Throw = true)
    (po_Throw : PySem.W.plainOver K c_Throw = true)
    (sa_Throw : PySem.W.findIn K (.ref c_Throw) "__setattr__" = some (some (.builtin "object.__setattr__")))
    (mk_Throw : PySem.W.makesIn K c_Throw = true)
    (kc_Throw : PySem.W.keepIn K (.ref c_Throw) = true)
    (g_If : PySem.W.nsIn K mainGlobals "If" = some (some (.ref c_If)))
    (pg_If : PySem.W.plainGet K c_If Str.empty = true)
    (hd_If : PySem.W.hasDictIn K c_If = true)
    (po_If : PySem.W.plainOver K c_If = true)
    (sa_If : PySem.W.findIn K (.ref c_If) "__setattr__" = some (some (.builtin "object.__setattr__")))
    (mk_If : PySem.W.makesIn K c_If = true)
    (kc_If : PySem.W.keepIn K (.ref c_If) = true)
    (g_Either : PySem.W.nsIn K mainGlobals "Either" = some (some (.ref c_Either)))
    (pg_Either : PySem.W.plainGet K c_Either Str.empty = true)
    (hd_Either : PySem.W.hasDictIn K c_Either = true)
    (po_Either : PySem.W.plainOver K c_Either = true)
    (sa_Either : PySem.W.findIn K (.ref c_Either) "__setattr__" = some (some (.builtin "object.__setattr__")))
    (mk_Either : PySem.W.makesIn K c_Either = true)
    (kc_Either : PySem.W.keepIn K (.ref c_Either) = true)
    (g_Try : PySem.W.nsIn K mainGlobals "Try" = some (some (.ref c_Try)))
    (pg_Try : PySem.W.plainGet K c_Try Str.empty = true)
    (hd_Try : PySem.W.hasDictIn K c_Try = true)
    (po_Try : PySem.W.plainOver K c_Try = true)
    (sa_Try : PySem.W.findIn K (.ref c_Try) "__setattr__" = some (some (.builtin "object.__setattr__")))
    (mk_Try : PySem.W.makesIn K c_Try = true)
    (kc_Try : PySem.W.keepIn K (.ref c_Try) = true)
    (g_Wait : PySem.W.nsIn K mainGlobals "Wait" = some (some (.ref c_Wait)))
    (pg_Wait : PySem.W.plainGet K c_Wait Str.empty = true)
    (hd_Wait : PySem.W.hasDictIn K c_Wait = true)
    (po_Wait : PySem.W.plainOver K c_Wait = true)
    (sa_Wait : PySem.W.findIn K (.ref c_Wait) "__setattr__" = some (some (.builtin "object.__setattr__")))
    (mk_Wait : PySem.W.makesIn K c_Wait = true)
    (kc_Wait : PySem.W.keepIn K (.ref c_Wait) = true)
    (in_Wait : PySem.W.findIn K (.ref c_Wait) "__init__" = some (some (.builtin "object.__init__")))
    (kgs : PySem.W.specialIn K (.builtin "object.__class__") "__get__" = some (some (.builtin "getset_descriptor.__get__")))
    (ktk : PySem.W.takesIn K (.builtin "object.__class__") = some true)
    (kcc_Let : PySem.W.findIn K (.ref c_Let) "__class__" = some (some (.builtin "object.__class__")))
    (kmo_Let : PySem.W.mroIn K c_Let (.type "object") = some true)
    (nslot_Let : PySem.W.findIn K (.ref c_Let) "slot" = some none)
    (nnumber_Let : PySem.W.findIn K (.ref c_Let) "number" = some none)
    (kit_Let_Let : PySem.W.kitOne K (.ref c_Let) (.ref c_Let) = some true)
    (kit_Let_Reckon : PySem.W.kitOne K (.ref c_Let) (.ref c_Reckon) = some false)
    (kit_Let_Take : PySem.W.kitOne K (.ref c_Let) (.ref c_Take) = some false)
    (kit_Let_Put : PySem.W.kitOne K (.ref c_Let) (.ref c_Put) = some false)
    (kit_Let_If : PySem.W.kitOne K (.ref c_Let) (.ref c_If) = some false)
    (kit_Let_Either : PySem.W.kitOne K (.ref c_Let) (.ref c_Either) = some false)
    (kit_Let_Try : PySem.W.kitOne K (.ref c_Let) (.ref c_Try) = some false)
    (kit_Let_Throw : PySem.W.kitOne K (.ref c_Let) (.ref c_Throw) = some false)
    (kit_Let_Wait : PySem.W.kitOne K (.ref c_Let) (.ref c_Wait) = some false)
    (kcc_Reckon : PySem.W.findIn K (.ref c_Reckon) "__class__" = some (some (.builtin "object.__class__")))
    (kmo_Reckon : PySem.W.mroIn K c_Reckon (.type "object") = some true)
    (nword_Reckon : PySem.W.findIn K (.ref c_Reckon) "word" = some none)
    (nslot_Reckon : PySem.W.findIn K (.ref c_Reckon) "slot" = some none)
    (none_Reckon : PySem.W.findIn K (.ref c_Reckon) "one" = some none)
    (nother_Reckon : PySem.W.findIn K (.ref c_Reckon) "other" = some none)
    (kit_Reckon_Let : PySem.W.kitOne K (.ref c_Reckon) (.ref c_Let) = some false)
    (kit_Reckon_Reckon : PySem.W.kitOne K (.ref c_Reckon) (.ref c_Reckon) = some true)
    (kit_Reckon_Take : PySem.W.kitOne K (.ref c_Reckon) (.ref c_Take) = some false)
    (kit_Reckon_Put : PySem.W.kitOne K (.ref c_Reckon) (.ref c_Put) = some false)
    (kit_Reckon_If : PySem.W.kitOne K (.ref c_Reckon) (.ref c_If) = some false)
    (kit_Reckon_Either : PySem.W.kitOne K (.ref c_Reckon) (.ref c_Either) = some false)
    (kit_Reckon_Try : PySem.W.kitOne K (.ref c_Reckon) (.ref c_Try) = some false)
    (kit_Reckon_Throw : PySem.W.kitOne K (.ref c_Reckon) (.ref c_Throw) = some false)
    (kit_Reckon_Wait : PySem.W.kitOne K (.ref c_Reckon) (.ref c_Wait) = some false)
    (kcc_Take : PySem.W.findIn K (.ref c_Take) "__class__" = some (some (.builtin "object.__class__")))
    (kmo_Take : PySem.W.mroIn K c_Take (.type "object") = some true)
    (nslot_Take : PySem.W.findIn K (.ref c_Take) "slot" = some none)
    (nplace_Take : PySem.W.findIn K (.ref c_Take) "place" = some none)
    (kit_Take_Let : PySem.W.kitOne K (.ref c_Take) (.ref c_Let) = some false)
    (kit_Take_Reckon : PySem.W.kitOne K (.ref c_Take) (.ref c_Reckon) = some false)
    (kit_Take_Take : PySem.W.kitOne K (.ref c_Take) (.ref c_Take) = some true)
    (kit_Take_Put : PySem.W.kitOne K (.ref c_Take) (.ref c_Put) = some false)
    (kit_Take_If : PySem.W.kitOne K (.ref c_Take) (.ref c_If) = some false)
    (kit_Take_Either : PySem.W.kitOne K (.ref c_Take) (.ref c_Either) = some false)
    (kit_Take_Try : PySem.W.kitOne K (.ref c_Take) (.ref c_Try) = some false)
    (kit_Take_Throw : PySem.W.kitOne K (.ref c_Take) (.ref c_Throw) = some false)
    (kit_Take_Wait : PySem.W.kitOne K (.ref c_Take) (.ref c_Wait) = some false)
    (kcc_Put : PySem.W.findIn K (.ref c_Put) "__class__" = some (some (.builtin "object.__class__")))
    (kmo_Put : PySem.W.mroIn K c_Put (.type "object") = some true)
    (nplace_Put : PySem.W.findIn K (.ref c_Put) "place" = some none)
    (nslot_Put : PySem.W.findIn K (.ref c_Put) "slot" = some none)
    (kit_Put_Let : PySem.W.kitOne K (.ref c_Put) (.ref c_Let) = some false)
    (kit_Put_Reckon : PySem.W.kitOne K (.ref c_Put) (.ref c_Reckon) = some false)
    (kit_Put_Take : PySem.W.kitOne K (.ref c_Put) (.ref c_Take) = some false)
    (kit_Put_Put : PySem.W.kitOne K (.ref c_Put) (.ref c_Put) = some true)
    (kit_Put_If : PySem.W.kitOne K (.ref c_Put) (.ref c_If) = some false)
    (kit_Put_Either : PySem.W.kitOne K (.ref c_Put) (.ref c_Either) = some false)
    (kit_Put_Try : PySem.W.kitOne K (.ref c_Put) (.ref c_Try) = some false)
    (kit_Put_Throw : PySem.W.kitOne K (.ref c_Put) (.ref c_Throw) = some false)
    (kit_Put_Wait : PySem.W.kitOne K (.ref c_Put) (.ref c_Wait) = some false)
    (kcc_If : PySem.W.findIn K (.ref c_If) "__class__" = some (some (.builtin "object.__class__")))
    (kmo_If : PySem.W.mroIn K c_If (.type "object") = some true)
    (nslot_If : PySem.W.findIn K (.ref c_If) "slot" = some none)
    (nparts_If : PySem.W.findIn K (.ref c_If) "parts" = some none)
    (nothers_If : PySem.W.findIn K (.ref c_If) "others" = some none)
    (kit_If_Let : PySem.W.kitOne K (.ref c_If) (.ref c_Let) = some false)
    (kit_If_Reckon : PySem.W.kitOne K (.ref c_If) (.ref c_Reckon) = some false)
    (kit_If_Take : PySem.W.kitOne K (.ref c_If) (.ref c_Take) = some false)
    (kit_If_Put : PySem.W.kitOne K (.ref c_If) (.ref c_Put) = some false)
    (kit_If_If : PySem.W.kitOne K (.ref c_If) (.ref c_If) = some true)
    (kit_If_Either : PySem.W.kitOne K (.ref c_If) (.ref c_Either) = some false)
    (kit_If_Try : PySem.W.kitOne K (.ref c_If) (.ref c_Try) = some false)
    (kit_If_Throw : PySem.W.kitOne K (.ref c_If) (.ref c_Throw) = some false)
    (kit_If_Wait : PySem.W.kitOne K (.ref c_If) (.ref c_Wait) = some false)
    (kcc_Either : PySem.W.findIn K (.ref c_Either) "__class__" = some (some (.builtin "object.__class__")))
    (kmo_Either : PySem.W.mroIn K c_Either (.type "object") = some true)
    (nparts_Either : PySem.W.findIn K (.ref c_Either) "parts" = some none)
    (nothers_Either : PySem.W.findIn K (.ref c_Either) "others" = some none)
    (kit_Either_Let : PySem.W.kitOne K (.ref c_Either) (.ref c_Let) = some false)
    (kit_Either_Reckon : PySem.W.kitOne K (.ref c_Either) (.ref c_Reckon) = some false)
    (kit_Either_Take : PySem.W.kitOne K (.ref c_Either) (.ref c_Take) = some false)
    (kit_Either_Put : PySem.W.kitOne K (.ref c_Either) (.ref c_Put) = some false)
    (kit_Either_If : PySem.W.kitOne K (.ref c_Either) (.ref c_If) = some false)
    (kit_Either_Either : PySem.W.kitOne K (.ref c_Either) (.ref c_Either) = some true)
    (kit_Either_Try : PySem.W.kitOne K (.ref c_Either) (.ref c_Try) = some false)
    (kit_Either_Throw : PySem.W.kitOne K (.ref c_Either) (.ref c_Throw) = some false)
    (kit_Either_Wait : PySem.W.kitOne K (.ref c_Either) (.ref c_Wait) = some false)
    (kcc_Try : PySem.W.findIn K (.ref c_Try) "__class__" = some (some (.builtin "object.__class__")))
    (kmo_Try : PySem.W.mroIn K c_Try (.type "object") = some true)
    (nparts_Try : PySem.W.findIn K (.ref c_Try) "parts" = some none)
    (nname_Try : PySem.W.findIn K (.ref c_Try) "name" = some none)
    (nslot_Try : PySem.W.findIn K (.ref c_Try) "slot" = some none)
    (nothers_Try : PySem.W.findIn K (.ref c_Try) "others" = some none)
    (kit_Try_Let : PySem.W.kitOne K (.ref c_Try) (.ref c_Let) = some false)
    (kit_Try_Reckon : PySem.W.kitOne K (.ref c_Try) (.ref c_Reckon) = some false)
    (kit_Try_Take : PySem.W.kitOne K (.ref c_Try) (.ref c_Take) = some false)
    (kit_Try_Put : PySem.W.kitOne K (.ref c_Try) (.ref c_Put) = some false)
    (kit_Try_If : PySem.W.kitOne K (.ref c_Try) (.ref c_If) = some false)
    (kit_Try_Either : PySem.W.kitOne K (.ref c_Try) (.ref c_Either) = some false)
    (kit_Try_Try : PySem.W.kitOne K (.ref c_Try) (.ref c_Try) = some true)
    (kit_Try_Throw : PySem.W.kitOne K (.ref c_Try) (.ref c_Throw) = some false)
    (kit_Try_Wait : PySem.W.kitOne K (.ref c_Try) (.ref c_Wait) = some false)
    (kcc_Throw : PySem.W.findIn K (.ref c_Throw) "__class__" = some (some (.builtin "object.__class__")))
    (kmo_Throw : PySem.W.mroIn K c_Throw (.type "object") = some true)
    (nname_Throw : PySem.W.findIn K (.ref c_Throw) "name" = some none)
    (nslot_Throw : PySem.W.findIn K (.ref c_Throw) "slot" = some none)
    (kit_Throw_Let : PySem.W.kitOne K (.ref c_Throw) (.ref c_Let) = some false)
    (kit_Throw_Reckon : PySem.W.kitOne K (.ref c_Throw) (.ref c_Reckon) = some false)
    (kit_Throw_Take : PySem.W.kitOne K (.ref c_Throw) (.ref c_Take) = some false)
    (kit_Throw_Put : PySem.W.kitOne K (.ref c_Throw) (.ref c_Put) = some false)
    (kit_Throw_If : PySem.W.kitOne K (.ref c_Throw) (.ref c_If) = some false)
    (kit_Throw_Either : PySem.W.kitOne K (.ref c_Throw) (.ref c_Either) = some false)
    (kit_Throw_Try : PySem.W.kitOne K (.ref c_Throw) (.ref c_Try) = some false)
    (kit_Throw_Throw : PySem.W.kitOne K (.ref c_Throw) (.ref c_Throw) = some true)
    (kit_Throw_Wait : PySem.W.kitOne K (.ref c_Throw) (.ref c_Wait) = some false)
    (kcc_Wait : PySem.W.findIn K (.ref c_Wait) "__class__" = some (some (.builtin "object.__class__")))
    (kmo_Wait : PySem.W.mroIn K c_Wait (.type "object") = some true)
    (kit_Wait_Let : PySem.W.kitOne K (.ref c_Wait) (.ref c_Let) = some false)
    (kit_Wait_Reckon : PySem.W.kitOne K (.ref c_Wait) (.ref c_Reckon) = some false)
    (kit_Wait_Take : PySem.W.kitOne K (.ref c_Wait) (.ref c_Take) = some false)
    (kit_Wait_Put : PySem.W.kitOne K (.ref c_Wait) (.ref c_Put) = some false)
    (kit_Wait_If : PySem.W.kitOne K (.ref c_Wait) (.ref c_If) = some false)
    (kit_Wait_Either : PySem.W.kitOne K (.ref c_Wait) (.ref c_Either) = some false)
    (kit_Wait_Try : PySem.W.kitOne K (.ref c_Wait) (.ref c_Try) = some false)
    (kit_Wait_Throw : PySem.W.kitOne K (.ref c_Wait) (.ref c_Throw) = some false)
    (kit_Wait_Wait : PySem.W.kitOne K (.ref c_Wait) (.ref c_Wait) = some true)
    : ∃ fd : FuncData, (∀ (s : Shared) (v : Value), BindsTo s fd ⟨[v], []⟩ [("_law_script", v)]) ∧ ∀ base : Heap, K.In base → base.Ns mainGlobals mg → FnOk P w K mg base CX0 44 fa fd ["_law_script"] (spLaw K) := by
  have e := hfa.symm.trans (PySem.W.mg_of X G a_law)
  cases e
  have F_Let_init := fun_mk (st := s_Let_init) l_Let_init cc_Let_init kk_Let_init
  have F_Reckon_init := fun_mk (st := s_Reckon_init) l_Reckon_init cc_Reckon_init kk_Reckon_init
  have F_Take_init := fun_mk (st := s_Take_init) l_Take_init cc_Take_init kk_Take_init
  have F_Put_init := fun_mk (st := s_Put_init) l_Put_init cc_Put_init kk_Put_init
  have F_Throw_init := fun_mk (st := s_Throw_init) l_Throw_init cc_Throw_init kk_Throw_init
  have F_plain_row := fun_mk (st := s_plain_row) l_plain_row cc_plain_row kk_plain_row
  have F_two_sides := fun_mk (st := s_two_sides) l_two_sides cc_two_sides kk_two_sides
  have F_part_rows := fun_mk (st := s_part_rows) l_part_rows cc_part_rows kk_part_rows
  have F_rows_from := fun_mk (st := s_rows_from) l_rows_from cc_rows_from kk_rows_from
  have F_rows_of := fun_mk (st := s_rows_of) l_rows_of cc_rows_of kk_rows_of
  have F_l_mixed := fun_mk (st := s_l_mixed) l_l_mixed cc_l_mixed kk_l_mixed
  have F_l_wide := fun_mk (st := s_l_wide) l_l_wide cc_l_wide kk_l_wide
  have F_l_alike := fun_mk (st := s_l_alike) l_l_alike cc_l_alike kk_l_alike
  have F_l_names := fun_mk (st := s_l_names) l_l_names cc_l_names kk_l_names
  have F_l_part := fun_mk (st := s_l_part) l_l_part cc_l_part kk_l_part
  have F_l_deed := fun_mk (st := s_l_deed) l_l_deed cc_l_deed kk_l_deed
  have F_law := fun_mk (st := s_law) l_law cc_law kk_law
  let d : Ad := { K := K, cLet := c_Let, cReckon := c_Reckon, cTake := c_Take, cPut := c_Put, cThrow := c_Throw, cIf := c_If, cEither := c_Either, cTry := c_Try, cWait := c_Wait }
  have T : Txt d mg { f_Let_init := f_Let_init, d_Let_init := _, f_Reckon_init := f_Reckon_init, d_Reckon_init := _, f_Take_init := f_Take_init, d_Take_init := _, f_Put_init := f_Put_init, d_Put_init := _, f_Throw_init := f_Throw_init, d_Throw_init := _, f_plain_row := f_plain_row, d_plain_row := _, f_two_sides := f_two_sides, d_two_sides := _, f_part_rows := f_part_rows, d_part_rows := _, f_rows_from := f_rows_from, d_rows_from := _, f_rows_of := f_rows_of, d_rows_of := _, f_l_mixed := f_l_mixed, d_l_mixed := _, f_l_wide := f_l_wide, d_l_wide := _, f_l_alike := f_l_alike, d_l_alike := _, f_l_names := f_l_names, d_l_names := _, f_l_part := f_l_part, d_l_part := _, f_l_deed := f_l_deed, d_l_deed := _, f_law := fa, d_law := _ } :=
    { F_Let_init := F_Let_init
      B_Let_init := F_Let_init.binds (ps := ["self", "slot", "number"]) fun _ _ _ _ _ _ us hl => match us, hl with | [_, _, _], _ => rfl
      K_Let := ⟨mk_Let, a_Let_init, i_Let_init, kc_Let⟩
      F_Reckon_init := F_Reckon_init
      B_Reckon_init := F_Reckon_init.binds (ps := ["self", "word", "slot", "one", "other"]) fun _ _ _ _ _ _ us hl => match us, hl with | [_, _, _, _, _], _ => rfl
      K_Reckon := ⟨mk_Reckon, a_Reckon_init, i_Reckon_init, kc_Reckon⟩
      F_Take_init := F_Take_init
      B_Take_init := F_Take_init.binds (ps := ["self", "slot", "place"]) fun _ _ _ _ _ _ us hl => match us, hl with | [_, _, _], _ => rfl
      K_Take := ⟨mk_Take, a_Take_init, i_Take_init, kc_Take⟩
      F_Put_init := F_Put_init
      B_Put_init := F_Put_init.binds (ps := ["self", "place", "slot"]) fun _ _ _ _ _ _ us hl => match us, hl with | [_, _, _], _ => rfl
      K_Put := ⟨mk_Put, a_Put_init, i_Put_init, kc_Put⟩
      F_Throw_init := F_Throw_init
      B_Throw_init := F_Throw_init.binds (ps := ["self", "name", "slot"]) fun _ _ _ _ _ _ us hl => match us, hl with | [_, _, _], _ => rfl
      K_Throw := ⟨mk_Throw, a_Throw_init, i_Throw_init, kc_Throw⟩
      F_plain_row := F_plain_row
      B_plain_row := F_plain_row.binds (ps := ["part"]) fun _ _ _ _ _ _ us hl => match us, hl with | [_], _ => rfl
      m_plain_row := PySem.W.mg_of X G a_plain_row
      F_two_sides := F_two_sides
      B_two_sides := F_two_sides.binds (ps := ["head", "part", "first", "closing"]) fun _ _ _ _ _ _ us hl => match us, hl with | [_, _, _, _], _ => rfl
      m_two_sides := PySem.W.mg_of X G a_two_sides
      F_part_rows := F_part_rows
      B_part_rows := F_part_rows.binds (ps := ["part", "first"]) fun _ _ _ _ _ _ us hl => match us, hl with | [_, _], _ => rfl
      m_part_rows := PySem.W.mg_of X G a_part_rows
      F_rows_from := F_rows_from
      B_rows_from := F_rows_from.binds (ps := ["parts", "first"]) fun _ _ _ _ _ _ us hl => match us, hl with | [_, _], _ => rfl
      m_rows_from := PySem.W.mg_of X G a_rows_from
      F_rows_of := F_rows_of
      B_rows_of := F_rows_of.binds (ps := ["deed"]) fun _ _ _ _ _ _ us hl => match us, hl with | [_], _ => rfl
      m_rows_of := PySem.W.mg_of X G a_rows_of
      F_l_mixed := F_l_mixed
      B_l_mixed := F_l_mixed.binds (ps := ["_law_cell"]) fun _ _ _ _ _ _ us hl => match us, hl with | [_], _ => rfl
      m_l_mixed := PySem.W.mg_of X G a_l_mixed
      F_l_wide := F_l_wide
      B_l_wide := F_l_wide.binds (ps := ["_law_cell"]) fun _ _ _ _ _ _ us hl => match us, hl with | [_], _ => rfl
      m_l_wide := PySem.W.mg_of X G a_l_wide
      F_l_alike := F_l_alike
      B_l_alike := F_l_alike.binds (ps := ["_law_found", "_law_due"]) fun _ _ _ _ _ _ us hl => match us, hl with | [_, _], _ => rfl
      m_l_alike := PySem.W.mg_of X G a_l_alike
      F_l_names := F_l_names
      B_l_names := F_l_names.binds (ps := ["_law_cell"]) fun _ _ _ _ _ _ us hl => match us, hl with | [_], _ => rfl
      m_l_names := PySem.W.mg_of X G a_l_names
      F_l_part := F_l_part
      B_l_part := F_l_part.binds (ps := ["_law_cell", "_law_names_here"]) fun _ _ _ _ _ _ us hl => match us, hl with | [_, _], _ => rfl
      m_l_part := PySem.W.mg_of X G a_l_part
      F_l_deed := F_l_deed
      B_l_deed := F_l_deed.binds (ps := ["_law_cells", "_law_names_here"]) fun _ _ _ _ _ _ us hl => match us, hl with | [_, _], _ => rfl
      m_l_deed := PySem.W.mg_of X G a_l_deed
      F_law := F_law
      B_law := F_law.binds (ps := ["_law_script"]) fun _ _ _ _ _ _ us hl => match us, hl with | [_], _ => rfl
      m_law := PySem.W.mg_of X G a_law
      b_bool := PySem.W.mg_none_of X G b_bool
      b_int := PySem.W.mg_none_of X G b_int
      b_isinstance := PySem.W.mg_none_of X G b_isinstance
      b_len := PySem.W.mg_none_of X G b_len
      b_list := PySem.W.mg_none_of X G b_list
      b_max := PySem.W.mg_none_of X G b_max
      b_range := PySem.W.mg_none_of X G b_range
      b_str := PySem.W.mg_none_of X G b_str
      b_sum := PySem.W.mg_none_of X G b_sum
      b_tuple := PySem.W.mg_none_of X G b_tuple
      g_Let := PySem.W.mg_of X G g_Let
      g_Reckon := PySem.W.mg_of X G g_Reckon
      g_Take := PySem.W.mg_of X G g_Take
      g_Put := PySem.W.mg_of X G g_Put
      g_Throw := PySem.W.mg_of X G g_Throw
      g_If := PySem.W.mg_of X G g_If
      g_Either := PySem.W.mg_of X G g_Either
      g_Try := PySem.W.mg_of X G g_Try
      g_Wait := PySem.W.mg_of X G g_Wait
      MO_Wait := ⟨mk_Wait, in_Wait, kc_Wait⟩
      t_Parts := { cl := fun k => (by cases k; exact ⟨pg_Let, hd_Let, po_Let, sa_Let⟩; exact ⟨pg_Reckon, hd_Reckon, po_Reckon, sa_Reckon⟩; exact ⟨pg_Take, hd_Take, po_Take, sa_Take⟩; exact ⟨pg_Put, hd_Put, po_Put, sa_Put⟩; exact ⟨pg_If, hd_If, po_If, sa_If⟩; exact ⟨pg_Either, hd_Either, po_Either, sa_Either⟩; exact ⟨pg_Try, hd_Try, po_Try, sa_Try⟩; exact ⟨pg_Throw, hd_Throw, po_Throw, sa_Throw⟩; exact ⟨pg_Wait, hd_Wait, po_Wait, sa_Wait⟩), cc := fun k => (by cases k; exact kcc_Let; exact kcc_Reckon; exact kcc_Take; exact kcc_Put; exact kcc_If; exact kcc_Either; exact kcc_Try; exact kcc_Throw; exact kcc_Wait), mo := fun k => (by cases k; exact kmo_Let; exact kmo_Reckon; exact kmo_Take; exact kmo_Put; exact kmo_If; exact kmo_Either; exact kmo_Try; exact kmo_Throw; exact kmo_Wait), gs := kgs, tk := ktk, kit := fun k j => (by cases k <;> cases j; exact kit_Let_Let; exact kit_Let_Reckon; exact kit_Let_Take; exact kit_Let_Put; exact kit_Let_If; exact kit_Let_Either; exact kit_Let_Try; exact kit_Let_Throw; exact kit_Let_Wait; exact kit_Reckon_Let; exact kit_Reckon_Reckon; exact kit_Reckon_Take; exact kit_Reckon_Put; exact kit_Reckon_If; exact kit_Reckon_Either; exact kit_Reckon_Try; exact kit_Reckon_Throw; exact kit_Reckon_Wait; exact kit_Take_Let; exact kit_Take_Reckon; exact kit_Take_Take; exact kit_Take_Put; exact kit_Take_If; exact kit_Take_Either; exact kit_Take_Try; exact kit_Take_Throw; exact kit_Take_Wait; exact kit_Put_Let; exact kit_Put_Reckon; exact kit_Put_Take; exact kit_Put_Put; exact kit_Put_If; exact kit_Put_Either; exact kit_Put_Try; exact kit_Put_Throw; exact kit_Put_Wait; exact kit_If_Let; exact kit_If_Reckon; exact kit_If_Take; exact kit_If_Put; exact kit_If_If; exact kit_If_Either; exact kit_If_Try; exact kit_If_Throw; exact kit_If_Wait; exact kit_Either_Let; exact kit_Either_Reckon; exact kit_Either_Take; exact kit_Either_Put; exact kit_Either_If; exact kit_Either_Either; exact kit_Either_Try; exact kit_Either_Throw; exact kit_Either_Wait; exact kit_Try_Let; exact kit_Try_Reckon; exact kit_Try_Take; exact kit_Try_Put; exact kit_Try_If; exact kit_Try_Either; exact kit_Try_Try; exact kit_Try_Throw; exact kit_Try_Wait; exact kit_Throw_Let; exact kit_Throw_Reckon; exact kit_Throw_Take; exact kit_Throw_Put; exact kit_Throw_If; exact kit_Throw_Either; exact kit_Throw_Try; exact kit_Throw_Throw; exact kit_Throw_Wait; exact kit_Wait_Let; exact kit_Wait_Reckon; exact kit_Wait_Take; exact kit_Wait_Put; exact kit_Wait_If; exact kit_Wait_Either; exact kit_Wait_Try; exact kit_Wait_Throw; exact kit_Wait_Wait), na := fun k n h => (by cases k; (simp only [atK, List.mem_cons, List.not_mem_nil, or_false] at h; rcases h with rfl | rfl; exact nslot_Let; exact nnumber_Let); (simp only [atK, List.mem_cons, List.not_mem_nil, or_false] at h; rcases h with rfl | rfl | rfl | rfl; exact nword_Reckon; exact nslot_Reckon; exact none_Reckon; exact nother_Reckon); (simp only [atK, List.mem_cons, List.not_mem_nil, or_false] at h; rcases h with rfl | rfl; exact nslot_Take; exact nplace_Take); (simp only [atK, List.mem_cons, List.not_mem_nil, or_false] at h; rcases h with rfl | rfl; exact nplace_Put; exact nslot_Put); (simp only [atK, List.mem_cons, List.not_mem_nil, or_false] at h; rcases h with rfl | rfl | rfl; exact nslot_If; exact nparts_If; exact nothers_If); (simp only [atK, List.mem_cons, List.not_mem_nil, or_false] at h; rcases h with rfl | rfl; exact nparts_Either; exact nothers_Either); (simp only [atK, List.mem_cons, List.not_mem_nil, or_false] at h; rcases h with rfl | rfl | rfl | rfl; exact nparts_Try; exact nname_Try; exact nslot_Try; exact nothers_Try); (simp only [atK, List.mem_cons, List.not_mem_nil, or_false] at h; rcases h with rfl | rfl; exact nname_Throw; exact nslot_Throw); (simp only [atK, List.mem_cons, List.not_mem_nil, or_false] at h; done)) } }
  exact ⟨PySem.W.fnOf "law" "law" (defArgs s_law) (defBody s_law) (defScope s_law) .none kV_law dc_law pm_law an_law cd_law ct_law, fun s v => .of_eq rfl, fun base _ _ => ok_law T⟩
theorem walk {l : PySem.W.OpenLaw} {q : Program} {loose : List Str} {XP : (Str → Option Value) → Heap → Prop} {YP : World → Heap → Prop} {d : DefRec} {K : Params → PySem.W.Frag} (hn : l.most = some 63) (hdf : d.params.defaults = [])
    (hY : ∀ (w : World) (h : Heap), YP w h → (K w.params).In h)
    (F : ∀ (w : World) (mg : Str → Option Value) (fa : Addr) (h : Heap), (K w.params).In h → h.Ns mainGlobals mg → mg d.name = some (.ref fa) →
      ∃ fd : FuncData, (∀ (s : Shared) (u : Value), BindsTo s fd ⟨[u], []⟩ [("_law_script", u)]) ∧ ∀ base : Heap, (K w.params).In base → base.Ns mainGlobals mg → FnOk l.prog w (K w.params) mg base CX0 44 fa fd ["_law_script"] (spLaw (K w.params))) :
    PySem.W.WalkO q loose XP YP l.row.toRowW d [] (fun f vs => PySem.call f vs) :=
  L2.walk_of (n := 63) (k := 44) (x := "_law_script") (CX := fun _ => CX0) (sp := fun w => spLaw (K w.params)) hn (by decide) hdf ⟨rfl, by decide, by decide⟩ hY F (fun _ _ a ns hl _ hS => ⟨a, ns, rfl, hS, hl, fun _ => rfl⟩) fun _ _ _ _ _ z => z
end Row
open PySem PySem.W PyProof.Rows
set_option maxRecDepth 100000 in
set_option maxHeartbeats 0 in
theorem PySem.Challenge.cw_retryhall_k11_rows_plain_holds : PySem.Challenge.rw_retryhall_k11_rows_plain.Holds := by
  w_on; o_law; k_head; (case hw => w_witness2)
  k_fill
  refine Row.walk (l := PySem.Challenge.rw_retryhall_k11_rows_plain) rfl rfl (fun w h Y => PySem.W.kIn_of Y) ?F
  case F =>
    intro w mg fa h KX G hmg
    refine' Row.all_mk KX G hmg ?a_Let_init ?i_Let_init ?l_Let_init ?cc_Let_init ?kk_Let_init ?a_Reckon_init ?i_Reckon_init ?l_Reckon_init ?cc_Reckon_init ?kk_Reckon_init ?a_Take_init ?i_Take_init ?l_Take_init ?cc_Take_init ?kk_Take_init ?a_Put_init ?i_Put_init ?l_Put_init ?cc_Put_init ?kk_Put_init ?a_Throw_init ?i_Throw_init ?l_Throw_init ?cc_Throw_init ?kk_Throw_init ?a_plain_row ?l_plain_row ?cc_plain_row ?kk_plain_row ?a_two_sides ?l_two_sides ?cc_two_sides ?kk_two_sides ?a_part_rows ?l_part_rows ?cc_part_rows ?kk_part_rows ?a_rows_from ?l_rows_from ?cc_rows_from ?kk_rows_from ?a_rows_of ?l_rows_of ?cc_rows_of ?kk_rows_of ?a_l_mixed ?l_l_mixed ?cc_l_mixed ?kk_l_mixed ?a_l_wide ?l_l_wide ?cc_l_wide ?kk_l_wide ?a_l_alike ?l_l_alike ?cc_l_alike ?kk_l_alike ?a_l_names ?l_l_names ?cc_l_names ?kk_l_names ?a_l_part ?l_l_part ?cc_l_part ?kk_l_part ?a_l_deed ?l_l_deed ?cc_l_deed ?kk_l_deed ?a_law ?l_law ?cc_law ?kk_law ?b_bool ?b_int ?b_isinstance ?b_len ?b_list ?b_max ?b_range ?b_str ?b_sum ?b_tuple ?g_Let ?pg_Let ?hd_Let ?po_Let ?sa_Let ?mk_Let ?kc_Let ?g_Reckon ?pg_Reckon ?hd_Reckon ?po_Reckon ?sa_Reckon ?mk_Reckon ?kc_Reckon ?g_Take ?pg_Take ?hd_Take ?po_Take ?sa_Take ?mk_Take ?kc_Take ?g_Put ?pg_Put ?hd_Put ?po_Put ?sa_Put ?mk_Put ?kc_Put ?g_Throw ?pg_Throw ?hd_Throw ?po_Throw ?sa_Throw ?mk_Throw ?kc_Throw ?g_If ?pg_If ?hd_If ?po_If ?sa_If ?mk_If ?kc_If ?g_Either ?pg_Either ?hd_Either ?po_Either ?sa_Either ?mk_Either ?kc_Either ?g_Try ?pg_Try ?hd_Try ?po_Try ?sa_Try ?mk_Try ?kc_Try ?g_Wait ?pg_Wait ?hd_Wait ?po_Wait ?sa_Wait ?mk_Wait ?kc_Wait ?in_Wait ?kgs ?ktk ?kcc_Let ?kmo_Let ?nslot_Let ?nnumber_Let ?kit_Let_Let ?kit_Let_Reckon ?kit_Let_Take ?kit_Let_Put ?kit_Let_If ?kit_Let_Either ?kit_Let_Try ?kit_Let_Throw ?kit_Let_Wait ?kcc_Reckon ?kmo_Reckon ?nword_Reckon ?nslot_Reckon ?none_Reckon ?nother_Reckon ?kit_Reckon_Let ?kit_Reckon_Reckon ?kit_Reckon_Take ?kit_Reckon_Put ?kit_Reckon_If ?kit_Reckon_Either ?kit_Reckon_Try ?kit_Reckon_Throw ?kit_Reckon_Wait ?kcc_Take ?kmo_Take ?nslot_Take ?nplace_Take ?kit_Take_Let ?kit_Take_Reckon ?kit_Take_Take ?kit_Take_Put ?kit_Take_If ?kit_Take_Either ?kit_Take_Try ?kit_Take_Throw ?kit_Take_Wait ?kcc_Put ?kmo_Put ?nplace_Put ?nslot_Put ?kit_Put_Let ?kit_Put_Reckon ?kit_Put_Take ?kit_Put_Put ?kit_Put_If ?kit_Put_Either ?kit_Put_Try ?kit_Put_Throw ?kit_Put_Wait ?kcc_If ?kmo_If ?nslot_If ?nparts_If ?nothers_If ?kit_If_Let ?kit_If_Reckon ?kit_If_Take ?kit_If_Put ?kit_If_If ?kit_If_Either ?kit_If_Try ?kit_If_Throw ?kit_If_Wait ?kcc_Either ?kmo_Either ?nparts_Either ?nothers_Either ?kit_Either_Let ?kit_Either_Reckon ?kit_Either_Take ?kit_Either_Put ?kit_Either_If ?kit_Either_Either ?kit_Either_Try ?kit_Either_Throw ?kit_Either_Wait ?kcc_Try ?kmo_Try ?nparts_Try ?nname_Try ?nslot_Try ?nothers_Try ?kit_Try_Let ?kit_Try_Reckon ?kit_Try_Take ?kit_Try_Put ?kit_Try_If ?kit_Try_Either ?kit_Try_Try ?kit_Try_Throw ?kit_Try_Wait ?kcc_Throw ?kmo_Throw ?nname_Throw ?nslot_Throw ?kit_Throw_Let ?kit_Throw_Reckon ?kit_Throw_Take ?kit_Throw_Put ?kit_Throw_If ?kit_Throw_Either ?kit_Throw_Try ?kit_Throw_Throw ?kit_Throw_Wait ?kcc_Wait ?kmo_Wait ?kit_Wait_Let ?kit_Wait_Reckon ?kit_Wait_Take ?kit_Wait_Put ?kit_Wait_If ?kit_Wait_Either ?kit_Wait_Try ?kit_Wait_Throw ?kit_Wait_Wait
    (case g_Let => k_is)
    (case g_Reckon => k_is)
    (case g_Take => k_is)
    (case g_Put => k_is)
    (case g_Throw => k_is)
    (case g_If => k_is)
    (case g_Either => k_is)
    (case g_Try => k_is)
    (case g_Wait => k_is)
    (case a_Let_init => k_is)
    (case i_Let_init => k_is)
    (case l_Let_init => k_is)
    (case cc_Let_init => k_is)
    (case kk_Let_init => k_is)
    (case a_Reckon_init => k_is)
    (case i_Reckon_init => k_is)
    (case l_Reckon_init => k_is)
    (case cc_Reckon_init => k_is)
    (case kk_Reckon_init => k_is)
    (case a_Take_init => k_is)
    (case i_Take_init => k_is)
    (case l_Take_init => k_is)
    (case cc_Take_init => k_is)
    (case kk_Take_init => k_is)
    (case a_Put_init => k_is)
    (case i_Put_init => k_is)
    (case l_Put_init => k_is)
    (case cc_Put_init => k_is)
    (case kk_Put_init => k_is)
    (case a_Throw_init => k_is)
    (case i_Throw_init => k_is)
    (case l_Throw_init => k_is)
    (case cc_Throw_init => k_is)
    (case kk_Throw_init => k_is)
    (case a_plain_row => k_is)
    (case l_plain_row => k_is)
    (case cc_plain_row => k_is)
    (case kk_plain_row => k_is)
    (case a_two_sides => k_is)
    (case l_two_sides => k_is)
    (case cc_two_sides => k_is)
    (case kk_two_sides => k_is)
    (case a_part_rows => k_is)
    (case l_part_rows => k_is)
    (case cc_part_rows => k_is)
    (case kk_part_rows => k_is)
    (case a_rows_from => k_is)
    (case l_rows_from => k_is)
    (case cc_rows_from => k_is)
    (case kk_rows_from => k_is)
    (case a_rows_of => k_is)
    (case l_rows_of => k_is)
    (case cc_rows_of => k_is)
    (case kk_rows_of => k_is)
    (case a_l_mixed => k_is)
    (case l_l_mixed => k_is)
    (case cc_l_mixed => k_is)
    (case kk_l_mixed => k_is)
    (case a_l_wide => k_is)
    (case l_l_wide => k_is)
    (case cc_l_wide => k_is)
    (case kk_l_wide => k_is)
    (case a_l_alike => k_is)
    (case l_l_alike => k_is)
    (case cc_l_alike => k_is)
    (case kk_l_alike => k_is)
    (case a_l_names => k_is)
    (case l_l_names => k_is)
    (case cc_l_names => k_is)
    (case kk_l_names => k_is)
    (case a_l_part => k_is)
    (case l_l_part => k_is)
    (case cc_l_part => k_is)
    (case kk_l_part => k_is)
    (case a_l_deed => k_is)
    (case l_l_deed => k_is)
    (case cc_l_deed => k_is)
    (case kk_l_deed => k_is)
    (case a_law => k_is)
    (case l_law => k_is)
    (case cc_law => k_is)
    (case kk_law => k_is)
    (case b_bool => k_is)
    (case b_int => k_is)
    (case b_isinstance => k_is)
    (case b_len => k_is)
    (case b_list => k_is)
    (case b_max => k_is)
    (case b_range => k_is)
    (case b_str => k_is)
    (case b_sum => k_is)
    (case b_tuple => k_is)
    (case pg_Let => k_is)
    (case hd_Let => k_is)
    (case po_Let => k_is)
    (case sa_Let => k_is)
    (case mk_Let => k_is)
    (case kc_Let => k_is)
    (case pg_Reckon => k_is)
    (case hd_Reckon => k_is)
    (case po_Reckon => k_is)
    (case sa_Reckon => k_is)
    (case mk_Reckon => k_is)
    (case kc_Reckon => k_is)
    (case pg_Take => k_is)
    (case hd_Take => k_is)
    (case po_Take => k_is)
    (case sa_Take => k_is)
    (case mk_Take => k_is)
    (case kc_Take => k_is)
    (case pg_Put => k_is)
    (case hd_Put => k_is)
    (case po_Put => k_is)
    (case sa_Put => k_is)
    (case mk_Put => k_is)
    (case kc_Put => k_is)
    (case pg_Throw => k_is)
    (case hd_Throw => k_is)
    (case po_Throw => k_is)
    (case sa_Throw => k_is)
    (case mk_Throw => k_is)
    (case kc_Throw => k_is)
    (case pg_If => k_is)
    (case hd_If => k_is)
    (case po_If => k_is)
    (case sa_If => k_is)
    (case mk_If => k_is)
    (case kc_If => k_is)
    (case pg_Either => k_is)
    (case hd_Either => k_is)
    (case po_Either => k_is)
    (case sa_Either => k_is)
    (case mk_Either => k_is)
    (case kc_Either => k_is)
    (case pg_Try => k_is)
    (case hd_Try => k_is)
    (case po_Try => k_is)
    (case sa_Try => k_is)
    (case mk_Try => k_is)
    (case kc_Try => k_is)
    (case pg_Wait => k_is)
    (case hd_Wait => k_is)
    (case po_Wait => k_is)
    (case sa_Wait => k_is)
    (case mk_Wait => k_is)
    (case kc_Wait => k_is)
    (case in_Wait => k_is)
    (case kgs => k_is)
    (case ktk => k_is)
    (case kcc_Let => k_is)
    (case kmo_Let => k_is)
    (case nslot_Let => k_is)
    (case nnumber_Let => k_is)
    (case kit_Let_Let => kit_is)
    (case kit_Let_Reckon => kit_is)
    (case kit_Let_Take => kit_is)
    (case kit_Let_Put => kit_is)
    (case kit_Let_If => kit_is)
    (case kit_Let_Either => kit_is)
    (case kit_Let_Try => kit_is)
    (case kit_Let_Throw => kit_is)
    (case kit_Let_Wait => kit_is)
    (case kcc_Reckon => k_is)
    (case kmo_Reckon => k_is)
    (case nword_Reckon => k_is)
    (case nslot_Reckon => k_is)
    (case none_Reckon => k_is)
    (case nother_Reckon => k_is)
    (case kit_Reckon_Let => kit_is)
    (case kit_Reckon_Reckon => kit_is)
    (case kit_Reckon_Take => kit_is)
    (case kit_Reckon_Put => kit_is)
    (case kit_Reckon_If => kit_is)
    (case kit_Reckon_Either => kit_is)
    (case kit_Reckon_Try => kit_is)
    (case kit_Reckon_Throw => kit_is)
    (case kit_Reckon_Wait => kit_is)
    (case kcc_Take => k_is)
    (case kmo_Take => k_is)
    (case nslot_Take => k_is)
    (case nplace_Take => k_is)
    (case kit_Take_Let => kit_is)
    (case kit_Take_Reckon => kit_is)
    (case kit_Take_Take => kit_is)
    (case kit_Take_Put => kit_is)
    (case kit_Take_If => kit_is)
    (case kit_Take_Either => kit_is)
    (case kit_Take_Try => kit_is)
    (case kit_Take_Throw => kit_is)
    (case kit_Take_Wait => kit_is)
    (case kcc_Put => k_is)
    (case kmo_Put => k_is)
    (case nplace_Put => k_is)
    (case nslot_Put => k_is)
    (case kit_Put_Let => kit_is)
    (case kit_Put_Reckon => kit_is)
    (case kit_Put_Take => kit_is)
    (case kit_Put_Put => kit_is)
    (case kit_Put_If => kit_is)
    (case kit_Put_Either => kit_is)
    (case kit_Put_Try => kit_is)
    (case kit_Put_Throw => kit_is)
    (case kit_Put_Wait => kit_is)
    (case kcc_If => k_is)
    (case kmo_If => k_is)
    (case nslot_If => k_is)
    (case nparts_If => k_is)
    (case nothers_If => k_is)
    (case kit_If_Let => kit_is)
    (case kit_If_Reckon => kit_is)
    (case kit_If_Take => kit_is)
    (case kit_If_Put => kit_is)
    (case kit_If_If => kit_is)
    (case kit_If_Either => kit_is)
    (case kit_If_Try => kit_is)
    (case kit_If_Throw => kit_is)
    (case kit_If_Wait => kit_is)
    (case kcc_Either => k_is)
    (case kmo_Either => k_is)
    (case nparts_Either => k_is)
    (case nothers_Either => k_is)
    (case kit_Either_Let => kit_is)
    (case kit_Either_Reckon => kit_is)
    (case kit_Either_Take => kit_is)
    (case kit_Either_Put => kit_is)
    (case kit_Either_If => kit_is)
    (case kit_Either_Either => kit_is)
    (case kit_Either_Try => kit_is)
    (case kit_Either_Throw => kit_is)
    (case kit_Either_Wait => kit_is)
    (case kcc_Try => k_is)
    (case kmo_Try => k_is)
    (case nparts_Try => k_is)
    (case nname_Try => k_is)
    (case nslot_Try => k_is)
    (case nothers_Try => k_is)
    (case kit_Try_Let => kit_is)
    (case kit_Try_Reckon => kit_is)
    (case kit_Try_Take => kit_is)
    (case kit_Try_Put => kit_is)
    (case kit_Try_If => kit_is)
    (case kit_Try_Either => kit_is)
    (case kit_Try_Try => kit_is)
    (case kit_Try_Throw => kit_is)
    (case kit_Try_Wait => kit_is)
    (case kcc_Throw => k_is)
    (case kmo_Throw => k_is)
    (case nname_Throw => k_is)
    (case nslot_Throw => k_is)
    (case kit_Throw_Let => kit_is)
    (case kit_Throw_Reckon => kit_is)
    (case kit_Throw_Take => kit_is)
    (case kit_Throw_Put => kit_is)
    (case kit_Throw_If => kit_is)
    (case kit_Throw_Either => kit_is)
    (case kit_Throw_Try => kit_is)
    (case kit_Throw_Throw => kit_is)
    (case kit_Throw_Wait => kit_is)
    (case kcc_Wait => k_is)
    (case kmo_Wait => k_is)
    (case kit_Wait_Let => kit_is)
    (case kit_Wait_Reckon => kit_is)
    (case kit_Wait_Take => kit_is)
    (case kit_Wait_Put => kit_is)
    (case kit_Wait_If => kit_is)
    (case kit_Wait_Either => kit_is)
    (case kit_Wait_Try => kit_is)
    (case kit_Wait_Throw => kit_is)
    (case kit_Wait_Wait => kit_is)
#print axioms PySem.Challenge.cw_retryhall_k11_rows_plain_holds

